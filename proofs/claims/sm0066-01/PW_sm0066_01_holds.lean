import PyProof.Rows.All
import Wide.All
import OpenK.AllK
import Wide.FinOn
import PyProof.Cells
import PyProof.CompFree
import PyProof.EnumStmt
import PyProof.NeKinds
import PyProof.ExcBaseAll.Exception
import PyProof.RangeIter
import PyProof.WalksMore
import PyProof.RangeFor
import PyProof.IsiPairs
import PyProof.Rows.Walk
import Wide.WTab
import KE.KxBytes
import KE.BytesMake
import KE.KBytesCut
import KE.KPar
import Lean
import PySem.Challenge.RW_sm0066_01
set_option Elab.async false
set_option maxRecDepth 100000
set_option maxHeartbeats 4000000
set_option linter.unusedSectionVars false
set_option linter.unusedVariables false
set_option linter.unusedSimpArgs false
set_option linter.deprecated false
set_option genSizeOf false
set_option genInjectivity false
set_option bootstrap.genMatcherCode false
set_option tactic.hygienic false
local macro_rules | `(tactic| walk_at "d") => do let ls ← ("wpBody ws_assign ws_assignAttr ws_assignIdx ws_assignTup ws_augName ws_augAttr ws_iff ws_whil ws_ret ws_expr ws_pass ws_brk ws_raise ws_tryRet ws_forEnum ws_opaq we_c we_loc we_cel we_glob we_blt we_attr we_bin we_neg we_not we_and we_or we_cmp1 we_cmp2 we_ite we_tup we_list we_idx we_slice we_dict0 we_no we_call we_meth wes_nil wes_cons wan_nil wan_cons wor_nil wor_cons Option.map_some Option.map_none Option.bind_some Fs.set mk0_C mk0_b mk0_SL mk0_L dreduceIte Nat.reduceEqDiff Bool.not_true Bool.not_false List.length_cons List.length_nil Nat.reduceAdd bd_n bd_c tp_n tp_c pv_t pv_r pv_l ln_b ln_r ln_l ln_a ln_s ad_i q0_i q0_b q0_n q0_o it_n it_c b_ai b_ab b_su b_mu b_fd b_mo b_ba b_sh k_lt k_le k_gt k_ge k_ei k_eb k_et k_er k_ni k_nb k_nt k_nr k_is k_in k_mb k_mt k_mu k_xb k_xt k_xu n_i n_b n_t n_r n_o n_n o_b c_len c_byt op_s by_b by_l mb_b md_d c_bar c_abs c_int c_ii c_io c_ib c_bb m_ow m_la m_lr m_ba m_dg m_bf".splitOn " ").toArray.mapM fun s => `(Lean.Parser.Tactic.simpLemma| $(Lean.mkIdent s.toName):term); `(tactic| (first | dsimp only [$ls,*] | skip))
local macro_rules | `(tactic| walk_at "e") => `(tactic| repeat (dsimp only [$(Lean.mkIdent `Lx.wss_nil):term, $(Lean.mkIdent `Lx.wss_cons):term]; walk_at "d"))
local macro_rules | `(tactic| simp_arith only [$xs,*]) => do let ls ← ("wpBody ws_assign ws_assignAttr ws_assignIdx ws_assignTup ws_augName ws_augAttr ws_iff ws_whil ws_ret ws_expr ws_pass ws_brk ws_raise ws_tryRet ws_forEnum ws_opaq we_c we_loc we_cel we_glob we_blt we_attr we_bin we_neg we_not we_and we_or we_cmp1 we_cmp2 we_ite we_tup we_list we_idx we_slice we_dict0 we_no we_call we_meth wes_nil wes_cons wan_nil wan_cons wor_nil wor_cons Option.map_some Option.map_none Option.bind_some Fs.set mk0_C mk0_b mk0_SL mk0_L Nat.reduceEqDiff reduceCtorEq Option.map Bool.not_true Bool.not_false if_true if_false decide_true decide_false Option.some.injEq Int.toNat_natCast List.length_cons List.length_nil Nat.zero_add Nat.reduceAdd true_and and_true and_self Int.reduceLT Int.reduceLE Int.reduceAbs Nat.reducePow Nat.reduceLT bd_n bd_c tp_n tp_c pv_t pv_r pv_l ln_b ln_r ln_l ln_a ln_s ad_i q0_i q0_b q0_n q0_o it_n it_c b_ai b_ab b_su b_mu b_fd b_mo b_ba b_sh k_lt k_le k_gt k_ge k_ei k_eb k_et k_er k_ni k_nb k_nt k_nr k_is k_in k_mb k_mt k_mu k_xb k_xt k_xu n_i n_b n_t n_r n_o n_n o_b c_len c_byt op_s by_b by_l mb_b md_d c_bar c_abs c_int c_ii c_io c_ib c_bb m_ow m_la m_lr m_ba m_dg m_bf".splitOn " ").toArray.mapM fun s => `(Lean.Parser.Tactic.simpLemma| $(Lean.mkIdent s.toName):term); `(tactic| (first | simp only [$ls,*, ↓reduceIte, $xs,*] | skip))
local macro_rules | `(tactic| simp_all_arith only [$xs,*]) => `(tactic| (apply $(Lean.mkIdent `Lx.ssD); (focus (intro $(Lean.mkIdent `K_):ident $(Lean.mkIdent `hK_):ident; walk_at "d"; simp_arith only [$xs,*]; exact $(Lean.mkIdent `hK_))); (first | dsimp only [$(Lean.mkIdent `Lx.seqQ):term] | skip)))
local macro_rules | `(tactic| walk_at "n") => `(tactic| ((first | refine $(Lean.mkIdent `Lx.wnil) ?_ | rw [$(Lean.mkIdent `Lx.wss_nil):term] | rw [$(Lean.mkIdent `Lx.wss_cons):term]); (first | dsimp only [$(Lean.mkIdent `Lx.seqQ):term] | skip)))
namespace Lx
theorem absG {p : Prop} (h : ∀ G : Prop, (p → G) → G) : p := h p id
open PySem PySem.W PySem.Calls PyProof.Rows PySem.Spec
noncomputable def heldIds : List String := ["bytearray.__contains__", "bytearray.__mod__", "bytearray.__rmod__", "_struct.pack_into.held", "bytearray.find.held"] ++ Builtin.Bytes.decodersThatHold
noncomputable def holdsB : Code → Bool
  | .builtin id _ => heldIds.contains id
  | _ => false
noncomputable def FineL (l : List (Code × Pos)) : Prop := ∀ x ∈ l, holdsB x.1 = false
noncomputable def Fine (Γ : PySem.Ctx) : Prop := holdsB Γ.code = false ∧ FineL Γ.below
noncomputable def wpF {α : Type} (M : Model) (A : Around) (t : Sem α) (Q : α → Shared → Prop) (E : Value → Shared → Prop) (s : Shared) : Prop :=
  ∀ Γ p, Γ.In A → Fine Γ → Sem.wp M Γ t (fun a u_ s' => Q a s') (fun e u_ s' => E e s') p s
noncomputable def codeF (M : Model) (A : Around) (c : Code) (R : Result → Shared → Prop) (s : Shared) : Prop :=
  ∀ Γ p, Γ.code = c → Γ.Below A → FineL Γ.below → wpCode M Γ R p s
section
variable {α β : Type} {M : Model} {A : Around} {E : Value → Shared → Prop} {s : Shared} {env : Env}
theorem wpF_any {t : Sem α} {Q : α → Shared → Prop} (h : wpAny M A t Q E s) : wpF M A t Q E s := fun Γ p hΓ u_ => h Γ p hΓ
theorem codeF_any {c : Code} {R : Result → Shared → Prop} (h : codeAny M A c R s) : codeF M A c R s := fun Γ p hc hΓ u_ => h Γ p hc hΓ
theorem wpF_mono {t : Sem α} {Q Q' : α → Shared → Prop} {E' : Value → Shared → Prop} (h : wpF M A t Q E s) (hQ : ∀ a s, Q a s → Q' a s) (hE : ∀ e s, E e s → E' e s) : wpF M A t Q' E' s :=
  fun Γ p hΓ hf => Sem.wp_mono M Γ t (fun a u_ s => hQ a s) (fun e u_ s => hE e s) p s (h Γ p hΓ hf)
theorem wpF_pure {a : α} {Q : α → Shared → Prop} (h : Q a s) : wpF M A (pure a) Q E s := wpF_any (wpAny_pure h)
theorem wpF_bind {m : Sem α} {f : α → Sem β} {Q : β → Shared → Prop} (h : wpF M A m (fun a s' => wpF M A (f a) Q E s') E s) : wpF M A (m >>= f) Q E s := fun Γ p hΓ hf => by
  rw [Sem.wp_bind']
  exact Sem.wp_mono M Γ m (fun a p' s' h' => h' Γ p' hΓ hf) (fun u_ u_ u_ h' => h') p s (h Γ p hΓ hf)
theorem wpF_then {m : Sem α} {f : α → Sem β} {P : α → Shared → Prop} {Q : β → Shared → Prop} (h : wpF M A m P E s) (k : ∀ a s', P a s' → wpF M A (f a) Q E s') : wpF M A (m >>= f) Q E s :=
  wpF_bind (wpF_mono h k fun u_ u_ x => x)
theorem wpF_standAt {pos : Pos} {f : Unit → Sem β} {Q : β → Shared → Prop} (h : wpF M A (f ()) Q E s) : wpF M A (standAt pos >>= f) Q E s := fun Γ p hΓ hf => by
  rw [Sem.wp_bind', Sem.wp_cmd_standAt]; exact h Γ pos hΓ hf
theorem wpF_holding {vs : List Value} {m : Sem α} {Q : α → Shared → Prop} (h : wpF M A m Q E s) : wpF M A (holding vs m) Q E s := fun Γ p hΓ hf => by rw [Sem.wp_holding]; exact h Γ p hΓ hf
theorem wpF_operate {vs : List Value} {m : Sem Value} {Q : Value → Shared → Prop} (h : wpF M A m Q E s) : wpF M A (operate vs m) Q E s := fun Γ p hΓ hf => by rw [Sem.wp_operate]; exact h Γ p hΓ hf
theorem wpF_release {vs keep : List Value} {f : Unit → Sem β} {Q : β → Shared → Prop} (h : wpF M A (f ()) Q E s) : wpF M A (release vs keep >>= f) Q E s := fun Γ p hΓ hf => by
  rw [Sem.wp_bind', Sem.wp_release]; exact h Γ p hΓ hf
theorem wpF_onRaise {m : Sem α} {k : Value → Sem Unit} {Q : α → Shared → Prop} (h : wpF M A m Q (fun e s' => wpF M A (k e) (fun u_ s'' => E e s'') E s') s) : wpF M A (m.onRaise k) Q E s := fun Γ p hΓ hf => by
  rw [Sem.wp_onRaise]
  exact Sem.wp_mono M Γ m (fun u_ u_ u_ h' => h') (fun e p' s' h' => h' Γ p' hΓ hf) p s (h Γ p hΓ hf)
theorem wpF_attempt {m : Sem α} {Q : Except Value α → Shared → Prop} (h : wpF M A m (fun a => Q (.ok a)) (fun e => Q (.error e)) s) : wpF M A m.attempt Q E s := fun Γ p hΓ hf => by
  rw [Sem.wp_attempt]; exact h Γ p hΓ hf
theorem wpF_eq {t u : Sem α} {Q : α → Shared → Prop} (e : t = u) (h : wpF M A u Q E s) : wpF M A t Q E s := e ▸ h
theorem wpF_point {f : Unit → Sem β} {Q : β → Shared → Prop} (h : wpF M A (f ()) Q E s) : wpF M A (point >>= f) Q E s := wpF_bind (wpF_any (wpAny_point h))
theorem fine_enter {Γ : PySem.Ctx} {c : Code} {h : Option Value} {p : Pos} (hf : Fine Γ) : FineL (Γ.enter c h p).below := fun x hx => by
  rcases List.mem_cons.mp hx with rfl | hx
  · exact hf.1
  · exact hf.2 x hx
theorem wpF_run {c : Code} {h : Option Value} {Q : Flow → Shared → Prop} (hc : codeF M (A.mark h) c (fun r s' => match r with | .ok f => Q f s' | .error e => E e s') s) (hnb : h ≠ some byPass := by intro x; cases x) : wpF M A (run c h) Q E s :=
  fun Γ p hΓ hf => by rw [Sem.wp_run]; exact hc _ p rfl (hΓ.enter c h p hnb) (fine_enter hf)
theorem wpF_runValue {c : Code} {Q : Value → Shared → Prop} (hc : codeF M A c (fun r s' => match r with | .ok (.ret v) => Q v s' | .ok _ => False | .error e => E e s') s) : wpF M A (runValue c) Q E s :=
  fun Γ p hΓ hf => by rw [Sem.wp_runValue]; exact hc _ p rfl (hΓ.enter c none p (by intro x; cases x)) (fine_enter hf)
theorem wpF_call {f : Value} {pos : List Value} {kw : List (PySem.Str × Value)} {Q : Value → Shared → Prop} (hc : codeF M A (.call f ⟨pos, kw⟩) (fun r s' => match r with | .ok (.ret v) => Q v s' | .ok _ => False | .error e => E e s') s) : wpF M A (call f pos kw) Q E s := wpF_runValue hc
theorem codeF_mono {c : Code} {R R' : Result → Shared → Prop} (h : codeF M A c R s) (hR : ∀ r s, R r s → R' r s) : codeF M A c R' s := fun Γ p hc hΓ hf => wpCode_mono hR (h Γ p hc hΓ hf)
theorem codeF_tree {c : Code} {R : Result → Shared → Prop} (hb : holdsB c = false) (h : wpF M (A.under c) (M.den c) (fun fin s' => match fin with | .done f => R (.ok f) s' | .again c' => c'.quiet = true ∧ codeF M A c' R s') (fun e s' => R (.error e) s') s) : codeF M A c R s := by
  intro Γ p hc hΓ hf
  rw [wpCode_iff_wp, hc]
  refine Sem.wp_mono M Γ _ (fun fin p' s' h' => ?_) (fun u_ u_ u_ h' => h') p s (h Γ p (hc ▸ hΓ.in) ⟨by rw [hc]; exact hb, hf⟩)
  cases fin with
  | done f => exact h'
  | again c' => exact ⟨h'.1, h'.2 (Γ.goto c') p' rfl (hΓ.goto c') hf⟩
theorem codeF_loop' {c : Code} {R : Result → Shared → Prop} (hb : holdsB c = false) (hq : c.quiet = true) (I : Nat → Shared → Prop)
    (turn : ∀ n s, I n s → wpF M (A.under c) (M.den c) (fun fin s' => match fin with | .done f => R (.ok f) s' | .again c' => (c' = c ∧ ∃ m, m < n ∧ I m s') ∨ (c'.quiet = true ∧ codeF M A c' R s')) (fun e s' => R (.error e) s') s) : ∀ n s, I n s → codeF M A c R s := by
  intro n
  induction n using Nat.strongRecOn with
  | ind n ih =>
    intro s hI
    refine codeF_tree hb (wpF_mono (turn n s hI) (fun fin s' h' => ?_) fun u_ u_ x => x)
    cases fin with
    | done f => exact h'
    | again c' =>
      rcases h' with h' | h'
      · obtain ⟨rfl, m, hm, hI'⟩ := h'; exact ⟨hq, ih m hm s' hI'⟩
      · exact h'
theorem codeF_loop {c : Code} {R : Result → Shared → Prop} (hb : holdsB c = false) (hq : c.quiet = true) (I : Nat → Shared → Prop)
    (turn : ∀ n s, I n s → wpF M (A.under c) (M.den c) (fun fin s' => match fin with | .done f => R (.ok f) s' | .again c' => c' = c ∧ ∃ m, m < n ∧ I m s') (fun e s' => R (.error e) s') s) : ∀ n s, I n s → codeF M A c R s := by
  intro n
  induction n using Nat.strongRecOn with
  | ind n ih =>
    intro s hI
    refine codeF_tree hb (wpF_mono (turn n s hI) (fun fin s' h' => ?_) fun u_ u_ x => x)
    cases fin with
    | done f => exact h'
    | again c' => obtain ⟨rfl, m, hm, hI'⟩ := h'; exact ⟨hq, ih m hm s' hI'⟩
theorem fBinOp {l op r pos} {Q : Value → Shared → Prop} (h : wpF M A (eval l env) (fun a s₁ => wpF M A (eval r env) (fun b s₂ => wpF M A (binaryOp op a b) Q E s₂) E s₁) E s) : wpF M A (eval (.BinOp l op r pos) env) Q E s := by
  rw [eval_BinOp]
  exact wpF_then h fun a s₁ h₁ => wpF_then (wpF_holding h₁) fun b s₂ h₂ => wpF_standAt (wpF_operate h₂)
theorem fUnaryOp {op x pos} {Q : Value → Shared → Prop} (h : wpF M A (eval x env) (fun v s₁ => wpF M A (unaryOp op v) Q E s₁) E s) : wpF M A (eval (.UnaryOp op x pos) env) Q E s := by
  rw [eval_UnaryOp]
  exact wpF_then h fun v s₁ h₁ => wpF_standAt (wpF_holding h₁)
theorem fCompare1 {l op r pos} {Q : Value → Shared → Prop} (h : wpF M A (eval l env) (fun a s₁ => wpF M A (eval r env) (fun b s₂ => wpF M A (compareOp op a b) Q E s₂) E s₁) E s) (hm : behindInMarks op r = false) : wpF M A (eval (.Compare l [op] [r] pos) env) Q E s := by
  rw [eval_Compare1, markedBehindIn_of_false hm]
  exact wpF_then h fun a s₁ h₁ => wpF_then (wpF_holding h₁) fun b s₂ h₂ => wpF_standAt (wpF_operate h₂)
theorem fTestCompare1 {l op r pos whole} {Q : Bool → Shared → Prop} (h : wpF M A (eval l env) (fun a s₁ => wpF M A (eval r env) (fun b s₂ => wpF M A (compareOp op a b) (fun c s₃ => wpF M A (truthy c) Q E s₃) E s₂) E s₁) E s) (hm : behindInMarks op r = false) :
    wpF M A (isTrue (.Compare l [op] [r] pos) env whole) Q E s := by
  rw [isTrue_Compare1, markedBehindIn_of_false hm]
  exact wpF_then h fun a s₁ h₁ => wpF_then (wpF_holding h₁) fun b s₂ h₂ => wpF_standAt (wpF_then (wpF_operate h₂) fun c s₃ h₃ => wpF_holding h₃)
theorem fCompare2 {l o₁ o₂ m r pos} {Q : Value → Shared → Prop}
    (h : wpF M A (eval l env) (fun a s₁ => wpF M A (eval m env) (fun b s₂ => wpF M A (compareOp o₁ a b) (fun c s₃ => wpF M A (truthy c) (fun t s₄ =>
      if t then wpF M A (eval r env) (fun d s₅ => wpF M A (compareOp o₂ b d) Q E s₅) E s₄ else Q c s₄) E s₃) E s₂) E s₁) E s)
    (hm : lastMarks [o₁, o₂] [m, r] = false) : wpF M A (eval (.Compare l [o₁, o₂] [m, r] pos) env) Q E s := by
  show wpF M A (eval l env >>= fun a => compareChain pos a [o₁, o₂] (markedEach [o₁, o₂] [m, r] [eval m env, eval r env])) Q E s
  rw [markedEach_of_false _ _ _ hm]
  refine wpF_then h fun a s₁ h₁ => wpF_then (wpF_holding h₁) fun b s₂ h₂ => wpF_standAt (wpF_then (wpF_holding h₂) fun c s₃ h₃ => wpF_release (wpF_then (wpF_holding h₃) fun t s₄ h₄ => ?_))
  cases t with
  | false => exact wpF_pure h₄
  | true => exact wpF_then (wpF_holding h₄) fun d s₅ h₅ => wpF_standAt (wpF_operate h₅)
theorem fTestCompare2 {l o₁ o₂ m r pos whole} {Q : Bool → Shared → Prop}
    (h : wpF M A (eval l env) (fun a s₁ => wpF M A (eval m env) (fun b s₂ => wpF M A (compareOp o₁ a b) (fun c s₃ => wpF M A (truthy c) (fun t s₄ =>
      if t then wpF M A (eval r env) (fun d s₅ => wpF M A (compareOp o₂ b d) (fun c s₆ => wpF M A (truthy c) Q E s₆) E s₅) E s₄ else Q false s₄) E s₃) E s₂) E s₁) E s)
    (hm : lastMarks [o₁, o₂] [m, r] = false) : wpF M A (isTrue (.Compare l [o₁, o₂] [m, r] pos) env whole) Q E s := by
  show wpF M A (eval l env >>= fun a => testChain pos a [o₁, o₂] (markedEach [o₁, o₂] [m, r] [eval m env, eval r env])) Q E s
  rw [markedEach_of_false _ _ _ hm]
  refine wpF_then h fun a s₁ h₁ => wpF_then (wpF_holding h₁) fun b s₂ h₂ => wpF_standAt (wpF_then (wpF_holding h₂) fun c s₃ h₃ => wpF_release (wpF_then (wpF_holding h₃) fun t s₄ h₄ => ?_))
  cases t with
  | false => exact wpF_pure h₄
  | true => exact wpF_then (wpF_holding h₄) fun d s₅ h₅ => wpF_standAt (wpF_then (wpF_operate h₅) fun c s₆ h₆ => wpF_holding h₆)
theorem fIfExp {test body orelse pos} {Q : Value → Shared → Prop} (h : wpF M A (isTrue test env (eval test env)) (fun c s₂ => if c then wpF M A (eval body env) Q E s₂ else wpF M A (eval orelse env) Q E s₂) E s) : wpF M A (eval (.IfExp test body orelse pos) env) Q E s := by
  rw [eval_IfExp]
  refine wpF_then h fun c s₂ h₂ => ?_
  cases c with
  | false => exact h₂
  | true => exact h₂
theorem fTestIfExp {test body orelse pos whole} {Q : Bool → Shared → Prop} (h : wpF M A (isTrue test env (eval test env)) (fun c s₂ => if c then wpF M A (isTrue body env (eval body env)) Q E s₂ else wpF M A (isTrue orelse env (eval orelse env)) Q E s₂) E s) : wpF M A (isTrue (.IfExp test body orelse pos) env whole) Q E s := by
  show wpF M A (isTrue test env (eval test env) >>= fun c => if c then isTrue body env (eval body env) else isTrue orelse env (eval orelse env)) Q E s
  refine wpF_then h fun c s₂ h₂ => ?_
  cases c with
  | false => exact h₂
  | true => exact h₂
theorem fAnd {e₁ e₂ rest pos} {Q : Value → Shared → Prop} (h : wpF M A (eval e₁ env) (fun v s₁ => wpF M A (truthy v) (fun c s₂ => if c then wpF M A (eval (.BoolOp .And (e₂ :: rest) pos) env) Q E s₂ else Q v s₂) E s₁) E s) : wpF M A (eval (.BoolOp .And (e₁ :: e₂ :: rest) pos) env) Q E s := by
  refine wpF_then (m := eval e₁ env) h fun v s₁ h₁ => wpF_standAt (wpF_then (wpF_holding h₁) fun c s₂ h₂ => ?_)
  cases c with
  | false => exact wpF_pure h₂
  | true => exact h₂
theorem fOr {e₁ e₂ rest pos} {Q : Value → Shared → Prop} (h : wpF M A (eval e₁ env) (fun v s₁ => wpF M A (truthy v) (fun c s₂ => if c then Q v s₂ else wpF M A (eval (.BoolOp .Or (e₂ :: rest) pos) env) Q E s₂) E s₁) E s) : wpF M A (eval (.BoolOp .Or (e₁ :: e₂ :: rest) pos) env) Q E s := by
  refine wpF_then (m := eval e₁ env) h fun v s₁ h₁ => wpF_standAt (wpF_then (wpF_holding h₁) fun c s₂ h₂ => ?_)
  cases c with
  | false => exact h₂
  | true => exact wpF_pure h₂
theorem fTestNot {x pos whole} {Q : Bool → Shared → Prop} (h : wpF M A (isTrue x env (eval x env)) (fun c s' => Q (!c) s') E s) : wpF M A (isTrue (.UnaryOp .Not x pos) env whole) Q E s :=
  wpF_then (m := isTrue x env (eval x env)) h fun u_ u_ h' => wpF_pure h'
theorem fTestAnd {x rest pos whole} {Q : Bool → Shared → Prop} (h : wpF M A (isTrue x env (eval x env)) (fun c s' => if c then wpF M A (isTrue (.BoolOp .And rest pos) env whole) Q E s' else Q false s') E s) : wpF M A (isTrue (.BoolOp .And (x :: rest) pos) env whole) Q E s := by
  refine wpF_then (m := isTrue x env (eval x env)) h fun c s₂ h₂ => ?_
  cases c with
  | false => exact wpF_pure h₂
  | true => exact h₂
theorem fTestOr {x rest pos whole} {Q : Bool → Shared → Prop} (h : wpF M A (isTrue x env (eval x env)) (fun c s' => if c then Q true s' else wpF M A (isTrue (.BoolOp .Or rest pos) env whole) Q E s') E s) : wpF M A (isTrue (.BoolOp .Or (x :: rest) pos) env whole) Q E s := by
  refine wpF_then (m := isTrue x env (eval x env)) h fun c s₂ h₂ => ?_
  cases c with
  | false => exact h₂
  | true => exact wpF_pure h₂
theorem fTest {e : PySem.Expr} {whole : Sem Value} {Q : Bool → Shared → Prop} (h : wpF M A whole (fun v s₁ => wpF M A (truthy v) Q E s₁) E s) (he : isTrue e env whole = (do let v ← whole; standAt e.pos; holding [v] (truthy v))) : wpF M A (isTrue e env whole) Q E s := by
  rw [he]
  exact wpF_then h fun v s₁ h₁ => wpF_standAt (wpF_holding h₁)
theorem fArgsCons {x : Sem Value} {rest : List (Bool × Sem Value)} {Q : List Value → Shared → Prop} (h : wpF M A x (fun v s₁ => wpF M A (spliced rest) (fun vs s₂ => Q (v :: vs) s₂) E s₁) E s) : wpF M A (spliced ((false, x) :: rest)) Q E s := by
  rw [spliced]
  refine wpF_then h fun v s₁ h₁ => ?_
  rw [if_neg Bool.false_ne_true]
  exact wpF_bind (wpF_pure (wpF_then (wpF_holding h₁) fun vs s₂ h₂ => wpF_pure h₂))
theorem fEvalArgs {f : Value} {x : Sem Value} {rest : List (Bool × Sem Value)} {Q : Args → Shared → Prop} (h : wpF M A (spliced ((false, x) :: rest)) (fun vs s' => Q ⟨vs, []⟩ s') E s) : wpF M A (evalArgs f true ((false, x) :: rest) []) Q E s := by
  unfold evalArgs
  exact wpF_then (m := spliced ((false, x) :: rest)) h fun vs s' h' => wpF_holding (wpF_bind (wpF_pure (wpF_bind (wpF_pure (wpF_pure h')))))
theorem fKeep {vs : List Value} {m : Sem α} {Q : α → Shared → Prop} (h : wpF M A m Q E s) : wpF M A (m.keep vs) Q E s := fun Γ p hΓ hf => by rw [Sem.wp_keep]; exact h Γ p hΓ hf
theorem fTuple {elts : List PySem.Expr} {k : Nat} {pos : Pos} {Q : Value → Shared → Prop} (h : wpF M A (spliced (backTo pos (starEach elts env))) (fun vs s₁ => wpF M A (newTuple vs) Q E s₁) E s) : wpF M A (eval (.Tuple elts k pos) env) Q E s := by
  rw [arm_eval_Tuple]; exact wpF_standAt (wpF_bind h)
theorem fList {elts : List PySem.Expr} {pos : Pos} {Q : Value → Shared → Prop} (h : wpF M A (spliced (backTo pos (starEach elts env))) (fun vs s₁ => wpF M A (newList vs) Q E s₁) E s) : wpF M A (eval (.List elts pos) env) Q E s := by
  rw [arm_eval_List]; exact wpF_standAt (wpF_bind h)
theorem fSubscript {value slice pos} {Q : Value → Shared → Prop} (h : wpF M A (eval value env) (fun o s₁ => wpF M A (eval slice env) (fun i s₂ => wpF M A (subscriptTail value slice o i) Q E s₂) E s₁) E s) : wpF M A (eval (.Subscript value slice pos) env) Q E s := by
  rw [eval_Subscript]
  exact wpF_then h fun o s₁ h₁ => wpF_then (wpF_holding h₁) fun i s₂ h₂ => wpF_standAt h₂
theorem fCall {func : PySem.Expr} {args : List PySem.Expr} {pos : Pos} {Q : Value → Shared → Prop}
    (h : wpF M A (eval func env) (fun f s₁ => wpF M A (callWith pos f [] (backTo pos (starEach args env)) []) Q E s₁) E s)
    (he : eval (.Call func args [] pos) env = (do callWith pos (← eval func env) [] (backTo pos (starEach args env)) (backToKw pos (keywordEach [] env)))) : wpF M A (eval (.Call func args [] pos) env) Q E s := by
  rw [he]; exact wpF_bind h
theorem fCallWith {P : Heap → Prop} {pos : Pos} {f : Value} {first : List Value} {args : List (Bool × Sem Value)} {Q : Value → Shared → Prop} (hplain : args.any (·.1) = false)
    (hk : ∀ h, P h → ∃ k, (k = Keeper.frame ∨ k = Keeper.machine ∨ k = Keeper.boundFrame) ∧ Looks M h (keeperOf f) k)
    (h : wpF M A (evalArgs f true args []) (fun a s₁ => P s₁.heap ∧ wpF M A (call f (first ++ a.pos) a.kw) Q E s₁) E s) : wpF M A (callWith pos f first args []) Q E s := by
  unfold callWith
  refine wpF_then (wpF_holding h) fun a s₁ h₁ => wpF_standAt ?_
  obtain ⟨hP, hc⟩ := h₁
  obtain ⟨k, hk', L⟩ := hk _ hP
  have tail : ∀ {t : Sem Value}, wpF M A t Q E s₁ → wpF M A (t >>= fun r => holding [r] point >>= fun u_ => pure r) Q E s₁ := fun ht => wpF_then ht fun r s₂ hr => wpF_then (P := fun u_ s' => Q r s') (wpF_holding (wpF_any (wpAny_point hr))) fun u_ u_ x => wpF_pure x
  have marked : ∀ mk, wpF M A (callMarked mk f (first ++ a.pos) a.kw) Q E s₁ := fun mk => fKeep hc
  have hst : (args.any (·.1) || ([] : List (Option PySem.Str × Sem Value)).any (·.1.isNone)) = false := by rw [hplain]; rfl
  simp only [hst]
  refine wpF_then (P := fun k' s' => k' = k ∧ s' = s₁) (wpF_any (L.here ⟨rfl, rfl⟩)) fun k' s' e => ?_
  obtain ⟨rfl, rfl⟩ := e
  rcases hk' with rfl | rfl | rfl
  · dsimp only
    split
    · exact tail hc
    · exact tail (marked _)
  · exact tail hc
  · dsimp only
    split
    · exact tail hc
    · exact tail (marked _)
theorem fExecsCons {st rest} {Q : Flow → Shared → Prop} (h : wpF M A (exec st env) (fun f s' => match f with | .next => wpF M A (execs rest env) Q E s' | f => Q f s') E s) : wpF M A (execs (st :: rest) env) Q E s := by
  rw [execs_cons]
  refine wpF_then h fun f s' h' => ?_
  cases f with
  | next => exact h'
  | brk => exact wpF_pure h'
  | cont => exact wpF_pure h'
  | ret v => exact wpF_pure h'
theorem fIf {test body orelse pos} {Q : Flow → Shared → Prop} (h : wpF M A (isTrue test env (eval test env)) (fun b s₂ => if b then wpF M A (execs body env) Q E s₂ else wpF M A (execs orelse env) Q E s₂) E s) : wpF M A (exec (.If test body orelse pos) env) Q E s := by
  rw [exec_If]
  refine wpF_standAt (wpF_then h fun c s₂ h₂ => ?_)
  cases c with
  | false => exact h₂
  | true => exact h₂
theorem fReturn {e pos} {Q : Flow → Shared → Prop} (h : wpF M A (eval e env) (fun v => Q (.ret v)) E s) : wpF M A (exec (.Return (some e) pos) env) Q E s := by
  rw [exec_Return_some]; exact wpF_standAt (wpF_then h fun v s' h' => wpF_pure h')
theorem fBindName {x : PySem.Str} {v : Value} {f : Unit → Sem β} {Q : β → Shared → Prop} (h : wpF M A (storeName env x v) (fun u_ s' => wpF M A (f ()) Q E s') E s) : wpF M A (bindName env x v >>= f) Q E s := fun Γ p hΓ hf => by
  rw [Sem.wp_bind', Sem.wp_bindName]
  exact Sem.wp_mono M Γ _ (fun u_ p' s' h' => h' Γ p' hΓ hf) (fun u_ u_ u_ x => x) p s (h Γ p hΓ hf)
theorem fAssignName {x pos' value pos} {Q : Flow → Shared → Prop} (h : wpF M A (eval value env) (fun v s₁ => wpF M A (storeName env x v) (fun u_ => Q .next) E s₁) E s) (hs : swapsWith value (some (.Name x pos')) pos.line env = pure false) :
    wpF M A (exec (.Assign [.Name x pos'] value pos) env) Q E s := by
  rw [exec_Assign_Name env x pos' value pos hs]
  exact wpF_standAt (wpF_then h fun v s₁ h₁ => wpF_standAt (fBindName (wpF_mono h₁ (fun u_ u_ q => wpF_pure q) fun u_ u_ x => x)))
theorem fAssignAttr {o attr pos' value pos} {Q : Flow → Shared → Prop} (h : wpF M A (eval value env) (fun v s₁ => wpF M A (eval o env) (fun ov s₂ => wpF M A (setAttr ov attr v) (fun u_ => Q .next) E s₂) E s₁) E s)
    (hs : swapsWith value (some (.Attribute o attr pos')) pos.line env = pure false) : wpF M A (exec (.Assign [.Attribute o attr pos'] value pos) env) Q E s := by
  rw [plainObj_exec_Assign_Attribute o attr pos' value pos hs]
  refine wpF_standAt (wpF_then h fun v s₁ h₁ => wpF_then (P := fun u_ s' => Q .next s') ?_ fun u_ u_ q => wpF_pure q)
  rw [assign_Attribute]
  exact wpF_then (wpF_holding h₁) fun ov s₂ h₂ => wpF_standAt (wpF_then (wpF_holding h₂) fun u_ s₃ h₃ => wpF_any (Sem_release h₃))
where
  Sem_release {vs keep : List Value} {s : Shared} {Q : Unit → Shared → Prop} (h : Q () s) : wpAny M A (release vs keep) Q E s := fun Γ p u_ => by rw [Sem.wp_release]; exact h
theorem fRelease {vs keep : List Value} {Q : Unit → Shared → Prop} (h : Q () s) : wpF M A (release vs keep) Q E s := fun Γ p u_ u_ => by rw [Sem.wp_release]; exact h
theorem fAssignSub {o i pos' value pos} {Q : Flow → Shared → Prop} (h : wpF M A (eval value env) (fun v s₁ => wpF M A (eval o env) (fun ov s₂ => wpF M A (eval i env) (fun iv s₃ => wpF M A (setItem ov iv v) (fun u_ => Q .next) E s₃) E s₂) E s₁) E s)
    (hs : swapsWith value (some (.Subscript o i pos')) pos.line env = pure false) : wpF M A (exec (.Assign [.Subscript o i pos'] value pos) env) Q E s := by
  rw [exec_Assign_Subscript o i pos' value pos hs]
  refine wpF_standAt (wpF_then h fun v s₁ h₁ => wpF_then (P := fun u_ s' => Q .next s') ?_ fun u_ u_ q => wpF_pure q)
  rw [assign_Subscript]
  exact wpF_then (wpF_holding h₁) fun ov s₂ h₂ => wpF_then (wpF_holding h₂) fun iv s₃ h₃ => wpF_standAt (wpF_then (wpF_holding h₃) fun u_ s₄ h₄ => fRelease h₄)
theorem fAugName {x pos' op value pos} {Q : Flow → Shared → Prop} (h : wpF M A (loadName env x) (fun old s₁ => wpF M A (eval value env) (fun v s₂ => wpF M A (inplaceOp op old v) (fun r s₃ => wpF M A (storeName env x r) (fun u_ => Q .next) E s₃) E s₂) E s₁) E s) :
    wpF M A (exec (.AugAssign (.Name x pos') op value pos) env) Q E s := by
  rw [exec_AugAssign_Name]
  exact wpF_standAt (wpF_then h fun old s₁ h₁ => wpF_then (wpF_holding h₁) fun v s₂ h₂ => wpF_standAt (wpF_then (wpF_operate h₂) fun r s₃ h₃ => wpF_standAt (fBindName (wpF_mono h₃ (fun u_ u_ q => wpF_pure q) fun u_ u_ x => x))))
theorem fAugAttr {o value : PySem.Expr} {attr : PySem.Str} {tpos pos : Pos} {op : Operator} {Q : Flow → Shared → Prop}
    (h : wpF M A (eval o env) (fun ov s₁ => wpF M A (getAttr ov attr true) (fun old s₂ => wpF M A (eval value env) (fun v s₃ => wpF M A (inplaceOp op old v) (fun new s₄ => wpF M A (setAttr ov attr new) (fun u_ => Q .next) E s₄) E s₃) E s₂) E s₁) E s) :
    wpF M A (exec (.AugAssign (.Attribute o attr tpos) op value pos) env) Q E s := by
  refine wpF_standAt (pos := pos) (wpF_then (m := eval o env) h fun ov s₁ h₁ => wpF_then (P := fun new s' => wpF M A (setAttr ov attr new) (fun u_ => Q .next) E s') (wpF_holding (wpF_standAt (pos := tpos.atName) (wpF_then h₁ fun old s₂ h₂ => wpF_then (wpF_holding h₂) fun v s₃ h₃ => wpF_standAt (pos := pos) (wpF_operate h₃)))) fun new s₄ h₄ => ?_)
  exact wpF_standAt (pos := tpos.atName) (wpF_then (wpF_holding h₄) fun u_ s₅ h₅ => wpF_release (wpF_pure h₅))
theorem fLetTemp {base : PySem.Expr} {o r : Value} {Q : Unit → Shared → Prop} {prog : Program} {w : World} (h : Q () s) : wpF (model prog w) A (letTemporaryGo base o r) Q E s := wpF_any (wpAny_letTemporaryGo h)
end
end Lx
namespace LxH
open Lx PySem PySem.W PySem.Calls PyProof.Rows PySem.Spec
theorem run_ends {prog : Program} {w : World} {t : Sem PySem.Fin} {s : Shared} {R : Result → Shared → Prop} (hz : s.asleep)
    (h : wpF (model prog w) callerA t (fun fin s' => ∃ f, fin = .done f ∧ (R (.ok f) s' ∧ leftWithCleanup s'.gens = false)) (fun e s' => R (.error e) s' ∧ leftWithCleanup s'.gens = false) s) :
    ∃ n r s' s'', runN (denote table) prog w n s ⟨t, .builtin "claim.caller" {}, default, []⟩ = .halted (outcomeOf r) s' ∧
      schedN (denote table) prog w n (.single s ⟨t, .builtin "claim.caller" {}, default, []⟩) = .halted (outcomeOf r) s' ∧ s'.forget = s''.forget ∧ R r s'' := by
  have fine : Fine ⟨.builtin "claim.caller" {}, none, none, [], none⟩ := ⟨by decide +kernel, fun x hx => by cases hx⟩
  obtain ⟨n, r, s₁, s₂, hs, hn, hfo, hR⟩ := wp_halts_full (M := model prog w) (R := R) (p := default) hz
    (Sem.wp_mono _ _ t (fun fin p' s' h' => (show Sem.finPost (model prog w) _ (fun r s' => R r s' ∧ leftWithCleanup s'.gens = false) fin p' s' from by obtain ⟨f, rfl, hf⟩ := h'; exact hf)) (fun u_ u_ u_ h' => h') default s (h _ default caller_in fine))
  exact ⟨n, r, s₂, s₁, hn, hs, hfo, hR⟩
abbrev WalkF (q : Program) (loose : List PySem.Str) (XP : (PySem.Str → Option Value) → Heap → Prop) (YP : World → Heap → Prop) (r : RowW) (d : DefRec) (kwd : List (PySem.Str × PySem.Expr)) : Prop :=
  ∀ (w : World) (s₀ s₁ : Shared) (mg mb : PySem.Str → Option Value), Ground q loose r.records XP w s₀ mg mb s₁.heap → YP w s₁.heap → ∀ (a : Addr) (o : Obj) (pm cd doc dV kV : Value), s₁.heap.get? a = some o →
    o.data = .func { docDef d.name d.params d.body d.scope pm cd doc with defaults := dV, kwdefaults := kV } → s₁.heap.CodeRec cd d.name → Dflts mg s₁.heap d.params kwd dV kV → mg d.name = some (.ref a) → s₁.gens = #[] →
    ∀ (args : List WData) (vals : List Value) (as : List Addr), r.claim.pre args = true → WData.layableAll args = true → ReadsAllW r.records (classAt s₀.heap) s₁.heap vals args as → WellAll w.params s₁.heap vals args → (∀ a ∈ as, (a == sysModules) = false) →
      wpF (model r.prog w) callerA (PySem.call (.ref a) vals) (fun v s' => GoodWG r.claim (classAt s₀.heap) (ExcName.means s₀.heap) args s₁ (.ok (.ret v)) s')
        (fun e s' => GoodWG r.claim (classAt s₀.heap) (ExcName.means s₀.heap) args s₁ (.error e) s') s₁
theorem PySem.W.holds_open {r : OpenRow} {q : Program} {loose : List PySem.Str} {Xt : Shared → Bool} {XP : (PySem.Str → Option Value) → Heap → Prop} {α : Type} {Yf : Shared → α} {Ya : World → α} {YP : World → Heap → Prop} {d : DefRec} {kwd : List (PySem.Str × PySem.Expr)} {N : Nat}
    (left : LeftO r.prog q loose Xt Yf Ya N) (hY : ∀ w s, Yf s = Ya w → YP w s.heap) (hYk : ∀ w h h', YP w h → (∀ b o, h.get? b = some o → h'.get? b = some o) → YP w h')
    (hX : ∀ s, Xt s = true → XP (s.heap.nsMap mainGlobals) s.heap) (hXk : ∀ mg h h', XP mg h → (∀ b o, h.get? b = some o → h'.get? b = some o) → XP mg h')
    (hdef : defOf q r.name = some (d, kwd)) (hp : r.prog.theDef r.name = some (d.params, d.body, d.scope)) (hk : kwWritten? d.params.kwonlyargs d.params.kw_defaults = some kwd) (hRf : ∀ s, Xt s = true → RecFacts r.records s.heap) (hwr : (!r.writes || r.records.isEmpty) = true)
    (k1 : r.wellSaid = true) (ok : (chainsOk q && opensWell r.prog && (frees r.toRowW && r.within.isEmpty)) = true) (hb : r.prog.bare) (hw : r.toRowW.promised)
    (call : WalkF q loose XP YP r.toRowW d kwd) : r.Holds := by
  have okk := ok
  (refine absG fun G_ hG_ => ?_; (rcases Bool.and_eq_true_iff.mp ok with ⟨ok1, k5⟩) <;> (refine hG_ ?_; clear hG_ G_))
  (refine absG fun G_ hG_ => ?_; (rcases Bool.and_eq_true_iff.mp ok1 with ⟨hch, o1⟩) <;> (refine hG_ ?_; clear hG_ G_))
  (refine absG fun G_ hG_ => ?_; (rcases Bool.and_eq_true_iff.mp k5 with ⟨k5, k6⟩) <;> (refine hG_ ?_; clear hG_ G_))
  (refine absG fun G_ hG_ => ?_; (rcases frees_parts k5 with ⟨hsame, hu, ha, hap, hm⟩) <;> (refine hG_ ?_; clear hG_ G_))
  have hi := ident_freeW hu ha hap
  have hwi : r.toRowW.claim.within = [] := List.isEmpty_iff.mp k6
  refine ⟨k1, hw, ⟨⟨hb, o1, by show r.toRowW.makers.map _ = []; rw [hm]; rfl⟩, hw.witness, fun w => ⟨(left.behind hX hch w).1, fun s' hs' => ?_⟩⟩⟩
  (refine absG fun G_ hG_ => ?_; (rcases (left.behind (XP := fun mg h => XP mg h ∧ RecFacts r.records h) (fun s hs => ⟨hX s hs, hRf s hs⟩) hch w).2 s' hs' with ⟨s₀, hf, hg0, s, hT, hz, hgens, hg, G00, y⟩) <;> (refine hG_ ?_; clear hG_ G_))
  have G0 : Ground q loose [] XP w s (s.heap.nsMap mainGlobals) (s.heap.nsMap builtinsNs) s.heap := ⟨G00.T, G00.B, G00.D, G00.TE, G00.TD, G00.W, G00.X.1, G00.cls, G00.has, G00.apart, G00.once, G00.K⟩
  have RF : RecFacts r.toRowW.records s.heap := G00.X.2
  have G := RF.ground G0
  have hgens : s.gens = #[] := Array.eq_empty_of_size_eq_zero (beq_iff_eq.mp hgens)
  refine ⟨s₀, hf, hg0, s, hT, fun n hn => ?_, RF.1, RF.2.1, fun args hpre hlay ord hord => ?_⟩
  · obtain rfl : n = r.name := by split at hn <;> simp_all
    exact pinned_of_view hg G0 hdef hp hk
  (refine absG fun G_ hG_ => ?_; (rcases Option.isSome_iff_exists.mp (layAllW_isSome (P := w.params) (ord := ord) G.has args r.toRowW.args s (pre_splitW hpre).1) with ⟨⟨vs, s₁⟩, hlaid⟩) <;> (refine hG_ ?_; clear hG_ G_))
  have keeps := layAllW_keeps _ _ _ hlaid
  have hal := layAllW_rest _ _ _ hlaid
  (refine absG fun G_ hG_ => ?_; (rcases reads_layAllW hord _ _ _ hlaid hlay s₁.heap (fun u_ u_ e => e) with ⟨as, hrd, hin, hold⟩) <;> (refine hG_ ?_; clear hG_ G_))
  have L : Laid r.toRowW.records w s s₁ args vs as := ⟨⟨ord, hord, hlaid⟩, hrd, hin, hold, keeps, hal.1.trans hgens, hal.2.2.1⟩
  have G₁ := G.keeps hXk keeps
  (refine absG fun G_ hG_ => ?_; (rcases G₁.fn hdef with ⟨a, o, pm, cd, doc, dV, kV, h1, h2, h3, h4, h5⟩) <;> (refine hG_ ?_; clear hG_ G_))
  have wk := call w s s₁ _ _ G₁ (hYk _ _ _ (hY w s y) keeps) a o pm cd doc dV kV h2 h3 h4 h5 (defOf_name hdef ▸ h1) L.gens args vs as hpre hlay L.reads L.well (L.low G.low)
  let kept : Heap → Prop := fun h => r.writes = true → namesKept r.prog r.keeps s.heap h ∧ ∀ x ∈ r.toRowW.records, ∀ a, classAt s.heap x.1 = some a → recordClass h a x.1 (x.2.map (·.1)) = true
  have done : ∀ res s', GoodWG r.toRowW.claim (classAt s.heap) (ExcName.means s.heap) args s₁ res s' → (r.toRowW.claim.Ends s args vs s₁ res s' ∧ s'.os = s.os ∧ kept s'.heap) ∧ leftWithCleanup s'.gens = false := fun res s' g => by
    have z := g.laid (c := r.toRowW.claim) hsame hwi hi L
    exact ⟨⟨z.1, z.2.1, fun q => ⟨namesKept_of hT hg _ keeps g.2.1.old, noTable hwr q⟩⟩, leftWithCleanup_false_of_bare z.2.2⟩
  obtain ⟨k, res, s₂, s₃, hrun, hsched, hfo, hcase, hos, hkp⟩ := run_ends (prog := r.prog) (w := w) (s := s₁) (t := do match ← nsGet mainNs r.name with
      | some f => do ret (← PySem.call f vs)
      | none => unsupported "claim.caller:no-such-global")
    (R := fun res s' => r.toRowW.claim.Ends s args vs s₁ res s' ∧ s'.os = s.os ∧ kept s'.heap) (Shared.asleep_of_life hal.2.2.2 hz)
    (wpF_bind (wpF_any (wpAny_nsGet G₁.T.g (by
      rw [show s.heap.nsMap mainGlobals r.name = some (.ref a) from h1]
      exact wpF_bind (wpF_mono wk (fun v s' g => wpF_pure ⟨_, rfl, done _ _ g⟩) fun e s' g => done _ _ g)))))
  (refine absG fun G_ hG_ => ?_; (rcases Shared.forget_eq hfo with ⟨eh, _, _, eo, _⟩) <;> (refine hG_ ?_; clear hG_ G_))
  have hcase := hcase.congr eh
  have hkp : kept s₂.heap := by rw [eh]; exact hkp
  rw [← eo] at hos
  have hlife : s₂.heap.life = s.heap.life := (runN_life _ _ _ hrun).trans hal.2.2.2
  refine ⟨vs, s₁, hlaid, k, _, s₂, hsched, ?_, (fun u_ i x hx => by rw [hgens] at hx; simp at hx), hkp, by rw [hlife], Shared.rest_eq hos⟩
  (refine absG fun G_ hG_ => ?_; (rcases hcase with ⟨v, rfl, d1, d2, d3, d4, d5⟩ | ⟨e, ob, cls, rfl, d1, d2, d3, d4, d5⟩) <;> (refine hG_ ?_; clear hG_ G_))
  · exact .inl ⟨v, rfl, d1, d2, d3, fun b o y u_ => d4 b o y, d5⟩
  · exact .inr ⟨e, ob, cls, rfl, d1, d2, d3, d4, fun b o y u_ => d5 b o y⟩
end LxH
namespace Lx
abbrev Nm := Nat
abbrev Ad := Nat
inductive B where
  | len | bytes | bytearray | abs | int | bool | isinstance | range | max | enumerate
  deriving DecidableEq
inductive V where
  | none
  | bool (b : Bool)
  | int (i : Int)
  | bytes (b : List UInt8)
  | tup (vs : List V)
  | ref (a : Ad)
  | stat (a : Ad)
  | bt (b : B)
structure P where
  l : Nat
  c : Nat
  el : Nat
  ec : Nat
abbrev Fs := Nm → Option V
noncomputable def Fs.set (m : Fs) (i : Nm) (v : V) : Fs := fun j => if j = i then some v else m j
inductive MO where
  | inst (C d : Ad)
  | exc (C : Ad) (d : Option Ad)
  | flds (fs : Fs)
  | list (vs : List V)
  | barr (bs : List UInt8)
  | bdict (kvs : List (List UInt8 × V))
abbrev MH := Ad → Option MO
noncomputable def MH.set (m : MH) (a : Ad) (o : MO) : MH := fun b => if b = a then some o else m b
noncomputable def MH.del (m : MH) (a : Ad) : MH := fun b => if b = a then none else m b
structure St where
  loc : Fs
  mh : MH
inductive Op where
  | add | sub | mul | fdiv | mod | band | shl
  deriving DecidableEq
inductive Cp where
  | eq | ne | lt | le | gt | ge | iss | isNot | inn | notIn
  deriving DecidableEq
set_option genInjectivity false
mutual
inductive E where
  | c (v : V) (p : P)
  | loc (i : Nm) (p : P)
  | cel (i : Nm) (p : P)
  | glob (i : Nm) (v : V) (p : P)
  | blt (b : B) (p : P)
  | attr (o : E) (f : Nm) (p : P)
  | bin (op : Op) (l r : E) (p : P)
  | neg (e : E) (p : P)
  | not (e : E) (p : P)
  | and (es : Es) (p : P)
  | or (es : Es) (p : P)
  | cmp1 (l : E) (op : Cp) (r : E) (p : P)
  | cmp2 (l : E) (op1 : Cp) (m : E) (op2 : Cp) (r : E) (p : P)
  | ite (t a b : E) (p : P)
  | tup (es : Es) (k : Nat) (p : P)
  | list (es : Es) (p : P)
  | idx (o i : E) (p : P)
  | slice (o lo hi : E) (sp p : P)
  | dict0 (p : P)
  | no
  | call (f : E) (args : Es) (p : P)
  | meth (o : E) (name : Nm) (args : Es) (ap p : P)
inductive Es where
  | nil
  | cons (e : E) (es : Es)
end
mutual
inductive S where
  | assign (i : Nm) (e : E) (ip p : P)
  | assignAttr (o : E) (f : Nm) (e : E) (ap p : P)
  | assignIdx (o i e : E) (ap p : P)
  | assignTup (is : List (Nm × P)) (k : Nat) (e : E) (tp p : P)
  | augName (i : Nm) (op : Op) (e : E) (ip p : P)
  | augAttr (o : E) (f : Nm) (op : Op) (e : E) (ap p : P)
  | iff (t : E) (a b : Ss) (p : P)
  | whil (t : E) (b : Ss) (p : P)
  | ret (e : E) (p : P)
  | expr (e : E) (p : P)
  | pass (p : P)
  | brk (p : P)
  | raise (e : E) (p : P)
  | tryRet (b : Ss) (g : Nm) (gp : P) (i : Nm) (p1 : P) (t : Bool) (p2 : P) (k : Nat) (p3 p4 hp p : P)
  | forEnum (i j : Nm) (ip jp : P) (k : Nat) (it : E) (b : Ss) (tp cp ep p : P)
  | opaq (k : Nat)
inductive Ss where
  | nil
  | cons (s : S) (ss : Ss)
end
set_option genInjectivity true
inductive Fl where
  | next
  | brk
  | ret (v : V)
noncomputable def LIM : Nat := 1000000
noncomputable def vNon (v : V) : Option Bool := @V.casesOn (fun u_ => Option Bool) v (some true) (fun u_ => none) (fun u_ => none) (fun u_ => none) (fun u_ => none) (fun u_ => none) (fun u_ => none) (fun u_ => none)
noncomputable def vBoo (v : V) : Option Bool := @V.casesOn (fun u_ => Option Bool) v none some (fun u_ => none) (fun u_ => none) (fun u_ => none) (fun u_ => none) (fun u_ => none) (fun u_ => none)
noncomputable def vInt (v : V) : Option Int := @V.casesOn (fun u_ => Option Int) v none (fun u_ => none) some (fun u_ => none) (fun u_ => none) (fun u_ => none) (fun u_ => none) (fun u_ => none)
noncomputable def vByt (v : V) : Option (List UInt8) := @V.casesOn (fun u_ => Option (List UInt8)) v none (fun u_ => none) (fun u_ => none) some (fun u_ => none) (fun u_ => none) (fun u_ => none) (fun u_ => none)
noncomputable def vTup (v : V) : Option (List V) := @V.casesOn (fun u_ => Option (List V)) v none (fun u_ => none) (fun u_ => none) (fun u_ => none) some (fun u_ => none) (fun u_ => none) (fun u_ => none)
noncomputable def vRef (v : V) : Option Ad := @V.casesOn (fun u_ => Option Ad) v none (fun u_ => none) (fun u_ => none) (fun u_ => none) (fun u_ => none) some (fun u_ => none) (fun u_ => none)
noncomputable def vStat (v : V) : Option Ad := @V.casesOn (fun u_ => Option Ad) v none (fun u_ => none) (fun u_ => none) (fun u_ => none) (fun u_ => none) (fun u_ => none) some (fun u_ => none)
noncomputable def eq0 (v u : V) : Option Bool := @V.casesOn (fun u_ => Option Bool) v (vNon u) (fun a => (vBoo u).map fun b => a == b) (fun a => (vInt u).map fun b => a == b) (fun a => (vByt u).map fun b => a == b) (fun u_ => none) (fun u_ => none) (fun u_ => none) (fun u_ => none)
noncomputable def eqL (f : V → V → Option Bool) : List V → List V → Option Bool
  | [], [] => some true
  | x :: xs, y :: ys => (f x y).bind fun a => (eqL f xs ys).map fun b => a && b
  | _, _ => none
noncomputable def eqLs (f : V → V → Option Bool) (xs ys : List V) : Option Bool :=
  if xs.length = ys.length then eqL f xs ys else some false
noncomputable def moList (o : MO) : Option (List V) := @MO.casesOn (fun u_ => Option (List V)) o (fun u_ u_ => none) (fun u_ u_ => none) (fun u_ => none) some (fun u_ => none) (fun u_ => none)
noncomputable def eq1 (v u : V) : Option Bool := @V.casesOn (fun u_ => Option Bool) v (eq0 .none u) (fun x => eq0 (.bool x) u) (fun x => eq0 (.int x) u) (fun x => eq0 (.bytes x) u) (fun xs => (vTup u).bind fun ys => eqL eq0 xs ys) (fun x => eq0 (.ref x) u) (fun x => eq0 (.stat x) u) (fun x => eq0 (.bt x) u)
noncomputable def eq2 (mh : MH) (v u : V) : Option Bool := @V.casesOn (fun u_ => Option Bool) v (eq1 .none u) (fun x => eq1 (.bool x) u) (fun x => eq1 (.int x) u) (fun x => eq1 (.bytes x) u) (fun x => eq1 (.tup x) u) (fun x => (vRef u).bind fun y => ((mh x).bind moList).bind fun xs => ((mh y).bind moList).bind fun ys => eqLs eq1 xs ys) (fun x => eq1 (.stat x) u) (fun x => eq1 (.bt x) u)
noncomputable def eq3 (mh : MH) (v u : V) : Option Bool := @V.casesOn (fun u_ => Option Bool) v (eq2 mh .none u) (fun x => eq2 mh (.bool x) u) (fun x => eq2 mh (.int x) u) (fun x => eq2 mh (.bytes x) u) (fun xs => (vTup u).bind fun ys => eqL (eq2 mh) xs ys) (fun x => eq2 mh (.ref x) u) (fun x => eq2 mh (.stat x) u) (fun x => eq2 mh (.bt x) u)
noncomputable def inT : V → List V → Option Bool
  | _, [] => some false
  | v, x :: xs => (eq0 v x).bind fun a => (inT v xs).map fun b => a || b
noncomputable def isNone (v : V) : Bool := @V.casesOn (fun u_ => Bool) v true (fun u_ => false) (fun u_ => false) (fun u_ => false) (fun u_ => false) (fun u_ => false) (fun u_ => false) (fun u_ => false)
noncomputable def memV (v u : V) : Option Bool := @V.casesOn (fun u_ => Option Bool) u none (fun u_ => none) (fun u_ => none) (fun b => (vInt v).bind fun i => ite (0 ≤ i ∧ i < 256) (some (b.contains (UInt8.ofNat i.toNat))) none) (fun xs => inT v xs) (fun u_ => none) (fun u_ => none) (fun u_ => none)
noncomputable def sameTy (v u : V) : Bool := @V.casesOn (fun u_ => Bool) v false (fun u_ => false) (fun u_ => (vInt u).isSome) (fun u_ => (vByt u).isSome) (fun u_ => (vTup u).isSome) (fun u_ => (vRef u).isSome) (fun u_ => false) (fun u_ => false)
noncomputable def cmpV2 (a b : V) (f : Int → Int → Bool) : Option Bool := (vInt a).bind fun x => (vInt b).bind fun y => some (f x y)
noncomputable def cmpV (mh : MH) (op : Cp) (a b : V) : Option Bool :=
  @Cp.casesOn (fun u_ => Option Bool) op (ite (sameTy a b = true) (eq3 mh a b) none) (ite (sameTy a b = true) ((eq3 mh a b).map (!·)) none)
    (cmpV2 a b fun x y => decide (x < y)) (cmpV2 a b fun x y => decide (x ≤ y)) (cmpV2 a b fun x y => decide (y < x)) (cmpV2 a b fun x y => decide (y ≤ x))
    ((vNon b).bind fun u_ => some (isNone a)) ((vNon b).bind fun u_ => some (!isNone a)) (memV a b) ((memV a b).map (!·))
set_option genInjectivity false in
structure Out where
  /-- a call of a static function or class -/
  C : Ad → List V → MH → (V → MH → Prop) → (MH → Prop) → Prop
  /-- the methods of the text's classes -/
  MT : Ad → Nm → Option Ad
  /-- the static lists -/
  SL : Ad → Option (List V)
  band : Int → Int → Int
  /-- names: append reverse find get -/
  nAppend : Nm
  nReverse : Nm
  nFind : Nm
  nGet : Nm
  LSE : Ad
  /-- statements that are told apart -/
  OP : Nat → St → (Fl → St → Prop) → (St → Prop) → Prop
noncomputable def intV (O : Out) (op : Op) (x y : Int) : Option V :=
  match op with
  | .add => some (.int (x + y))
  | .sub => some (.int (x - y))
  | .mul => if x.natAbs < 2 ^ 62 ∨ y.natAbs < 2 ^ 62 then some (.int (x * y)) else none
  | .fdiv => if 0 < y ∧ y.natAbs < 2 ^ 62 ∧ x.natAbs < 2 ^ 62 then some (.int (x / y)) else none
  | .mod => if 0 < y then some (.int (x % y)) else none
  | .band => some (.int (O.band x y))
  | .shl => if x.natAbs < 2 ^ 62 ∧ 0 ≤ y ∧ y < 1000 then some (.int (x * 2 ^ y.toNat)) else none
noncomputable def binV (O : Out) (op : Op) (a b : V) : Option V := @V.casesOn (fun u_ => Option V) a none (fun u_ => none) (fun x => (vInt b).bind fun y => intV O op x y) (fun x => (vByt b).bind fun y => @Op.casesOn (fun u_ => Option V) op (ite (x.length + y.length ≤ LIM) (some (.bytes (x ++ y))) none) none none none none none none) (fun u_ => none) (fun u_ => none) (fun u_ => none) (fun u_ => none)
noncomputable def addI (a b : V) : Option V := (vInt a).bind fun x => (vInt b).bind fun y => some (.int (x + y))
noncomputable def attrV (mh : MH) (v : V) (f : Nm) : Option V :=
  match v with
  | .ref x => match mh x with
    | some (.inst _ d) => match mh d with
      | some (.flds fs) => fs f
      | _ => none
    | _ => none
  | _ => none
noncomputable def setAttrP (mh : MH) (v : V) (f : Nm) (u : V) (Q : MH → Prop) : Prop :=
  match v with
  | .ref x => match mh x with
    | some (.inst _ d) => match mh d with
      | some (.flds fs) => Q (mh.set d (.flds (fs.set f u)))
      | _ => False
    | some (.exc _ (some d)) => match mh d with
      | some (.flds fs) => Q (mh.set d (.flds (fs.set f u)))
      | _ => False
    | some (.exc C none) => ∀ d, mh d = none → d ≠ x → Q ((mh.set d (.flds (Fs.set (fun u_ => none) f u))).set x (.exc C (some d)))
    | _ => False
  | _ => False
noncomputable def idxV (O : Out) (mh : MH) (o i : V) : Option V := @V.casesOn (fun u_ => Option V) i none (fun u_ => none) (fun k => ite (0 ≤ k) (@V.casesOn (fun u_ => Option V) o none (fun u_ => none) (fun u_ => none) (fun b => (b[k.toNat]?).map fun x => .int (x.toNat : Int)) (fun vs => vs[k.toNat]?) (fun a => ((mh a).bind moList).bind fun vs => vs[k.toNat]?) (fun a => (O.SL a).bind fun vs => vs[k.toNat]?) (fun u_ => none)) none) (fun u_ => none) (fun u_ => none) (fun u_ => none) (fun u_ => none) (fun u_ => none)
noncomputable def bound (n : Nat) (v : V) : Option Nat := @V.casesOn (fun u_ => Option Nat) v (some n) (fun u_ => none) (fun k => ite (0 ≤ k ∧ k.toNat ≤ LIM) (some k.toNat) none) (fun u_ => none) (fun u_ => none) (fun u_ => none) (fun u_ => none) (fun u_ => none)
noncomputable def cut {α : Type} (xs : List α) (lo hi : Nat) : List α := (xs.take hi).drop lo
noncomputable def optP {α : Type} (o : Option α) (f : α → Prop) : Prop := @Option.casesOn α (fun u_ => Prop) o False f
theorem optP_some {α : Type} {o : Option α} {f : α → Prop} {x : α} (h : o = some x) (q : f x) : optP o f := by rw [h]; exact q
theorem optP_inv {α : Type} {o : Option α} {f : α → Prop} (q : optP o f) : ∃ x, o = some x ∧ f x := by
  cases o with
  | none => exact q.elim
  | some x => exact ⟨x, rfl, q⟩
noncomputable def sliceV (mh : MH) (o lo hi : V) (Q : V → MH → Prop) : Prop := optP (bound 0 lo) fun l => @V.casesOn (fun u_ => Prop) o False (fun u_ => False) (fun u_ => False) (fun b => optP (bound b.length hi) fun h => Q (.bytes (cut b l h)) mh) (fun u_ => False) (fun a => optP (mh a) fun m => @MO.casesOn (fun u_ => Prop) m (fun u_ u_ => False) (fun u_ u_ => False) (fun u_ => False) (fun vs => optP (bound vs.length hi) fun h => ∀ n, mh n = none → Q (.ref n) (mh.set n (.list (cut vs l h)))) (fun bs => optP (bound bs.length hi) fun h => ∀ n, mh n = none → Q (.ref n) (mh.set n (.barr (cut bs l h)))) (fun u_ => False)) (fun u_ => False) (fun u_ => False)
noncomputable def moLen (o : MO) : Option Nat := @MO.casesOn (fun u_ => Option Nat) o (fun u_ u_ => none) (fun u_ u_ => none) (fun u_ => none) (fun vs => some vs.length) (fun bs => some bs.length) (fun u_ => none)
noncomputable def lenV (O : Out) (mh : MH) (v : V) : Option Nat := @V.casesOn (fun u_ => Option Nat) v none (fun u_ => none) (fun u_ => none) (fun b => some b.length) (fun u_ => none) (fun a => (mh a).bind moLen) (fun a => (O.SL a).map (·.length)) (fun u_ => none)
noncomputable def isInst : V → B → Option Bool
  | .int _, .int => some true
  | .int _, .bool => some false
  | .int _, .bytes => some false
  | .bytes _, .bytes => some true
  | _, _ => none
noncomputable def vBt (v : V) : Option B := @V.casesOn (fun u_ => Option B) v none (fun u_ => none) (fun u_ => none) (fun u_ => none) (fun u_ => none) (fun u_ => none) (fun u_ => none) some
noncomputable def on0 {α : Type} (vs : List α) (p : Prop) : Prop := @List.casesOn α (fun u_ => Prop) vs p (fun u_ u_ => False)
noncomputable def on1 {α : Type} (vs : List α) (f : α → Prop) : Prop := @List.casesOn α (fun u_ => Prop) vs False (fun v vs => on0 vs (f v))
noncomputable def on2 {α : Type} (vs : List α) (f : α → α → Prop) : Prop := @List.casesOn α (fun u_ => Prop) vs False (fun v vs => on1 vs (f v))
noncomputable def byF (Q : V → MH → Prop) (mh : MH) (m : MO) : Prop := @MO.casesOn (fun u_ => Prop) m (fun u_ u_ => False) (fun u_ u_ => False) (fun u_ => False) (fun vs => ∃ bs : List UInt8, vs = bs.map (fun b => V.int (b.toNat : Int)) ∧ Q (.bytes bs) mh) (fun bs => Q (.bytes bs) mh) (fun u_ => False)
noncomputable def bcall (O : Out) (b : B) (vs : List V) (mh : MH) (Q : V → MH → Prop) : Prop :=
  @B.casesOn (fun u_ => Prop) b
    (on1 vs fun v => optP (lenV O mh v) fun n => Q (.int n) mh)
    (on1 vs fun v => @V.casesOn (fun u_ => Prop) v False (fun u_ => False) (fun u_ => False) (fun u_ => False) (fun u_ => False) (fun a => optP (mh a) (byF Q mh)) (fun u_ => False) (fun u_ => False))
    (on0 vs (∀ n, mh n = none → Q (.ref n) (mh.set n (.barr []))))
    (on1 vs fun v => optP (vInt v) fun i => Q (.int i.natAbs) mh)
    (on1 vs fun v => optP (vInt v) fun i => Q (.int i) mh)
    False
    (on2 vs fun v u => optP (vBt u) fun t => optP (isInst v t) fun r => Q (.bool r) mh)
    False False False
noncomputable def findB (hay : List UInt8) (x : UInt8) : Int := match hay.findIdx? (· == x) with
  | some i => i
  | none => -1
noncomputable def lookB (kvs : List (List UInt8 × V)) (k : List UInt8) : V := match kvs.lookup k with
  | some v => v
  | none => .none
inductive MK where
  | own (f : Ad)
  | lAppend | lReverse | bAppend | dGet | bFind
noncomputable def moFlds (o : MO) : Option Fs := @MO.casesOn (fun u_ => Option Fs) o (fun u_ u_ => none) (fun u_ u_ => none) some (fun u_ => none) (fun u_ => none) (fun u_ => none)
noncomputable def mkind (O : Out) (name : Nm) (v : V) (mh : MH) : Option MK := @V.casesOn (fun u_ => Option MK) v none (fun u_ => none) (fun u_ => none) (fun u_ => ite (name = O.nFind) (some .bFind) none) (fun u_ => none) (fun a => (mh a).bind fun m => @MO.casesOn (fun u_ => Option MK) m (fun C d => ((mh d).bind moFlds).bind fun fs => @Option.casesOn V (fun u_ => Option MK) (fs name) ((O.MT C name).map MK.own) (fun u_ => none)) (fun u_ u_ => none) (fun u_ => none) (fun u_ => ite (name = O.nAppend) (some .lAppend) (ite (name = O.nReverse) (some .lReverse) none)) (fun u_ => ite (name = O.nAppend) (some .bAppend) none) (fun u_ => ite (name = O.nGet) (some .dGet) none)) (fun u_ => none) (fun u_ => none)
noncomputable def moBarr (o : MO) : Option (List UInt8) := @MO.casesOn (fun u_ => Option (List UInt8)) o (fun u_ u_ => none) (fun u_ u_ => none) (fun u_ => none) (fun u_ => none) some (fun u_ => none)
noncomputable def moDict (o : MO) : Option (List (List UInt8 × V)) := @MO.casesOn (fun u_ => Option (List (List UInt8 × V))) o (fun u_ u_ => none) (fun u_ u_ => none) (fun u_ => none) (fun u_ => none) (fun u_ => none) some
noncomputable def mrun (O : Out) (k : MK) (v : V) (args : List V) (mh : MH) (Q : V → MH → Prop) (X : MH → Prop) : Prop :=
  @MK.casesOn (fun u_ => Prop) k (fun f => O.C f (v :: args) mh Q X)
    (optP (vRef v) fun a => on1 args fun u => optP ((mh a).bind moList) fun vs => vs.length < LIM ∧ Q .none (mh.set a (.list (vs ++ [u]))))
    (optP (vRef v) fun a => on0 args (optP ((mh a).bind moList) fun vs => Q .none (mh.set a (.list vs.reverse))))
    (optP (vRef v) fun a => on1 args fun u => optP (vInt u) fun i => optP ((mh a).bind moBarr) fun bs => 0 ≤ i ∧ i < 256 ∧ bs.length < LIM ∧ Q .none (mh.set a (.barr (bs ++ [UInt8.ofNat i.toNat]))))
    (optP (vRef v) fun a => on1 args fun u => optP (vByt u) fun k => optP ((mh a).bind moDict) fun kvs => Q (lookB kvs k) mh)
    (optP (vByt v) fun b => on1 args fun u => optP (vByt u) fun k => on1 k fun x => Q (.int (findB b x)) mh)
noncomputable def onB (v : V) (f : Bool → Prop) : Prop := match v with
  | .bool b => f b
  | _ => False
mutual
noncomputable def wpE (O : Out) : E → St → (V → St → Prop) → (St → Prop) → Prop
  | .c v _, st, Q, _ => Q v st
  | .loc i _, st, Q, _ => match st.loc i with | some v => Q v st | none => False
  | .cel i _, st, Q, _ => match st.loc i with | some v => Q v st | none => False
  | .glob _ v _, st, Q, _ => Q v st
  | .blt b _, st, Q, _ => Q (.bt b) st
  | .attr o f _, st, Q, X => wpE O o st (fun v st => match attrV st.mh v f with | some u => Q u st | none => False) X
  | .bin op l r _, st, Q, X => wpE O l st (fun a st => wpE O r st (fun b st => match binV O op a b with | some v => Q v st | none => False) X) X
  | .neg e _, st, Q, X => wpE O e st (fun v st => match v with | .int i => Q (.int (-i)) st | _ => False) X
  | .not e _, st, Q, X => wpE O e st (fun v st => onB v fun b => Q (.bool (!b)) st) X
  | .and es _, st, Q, X => wpAnd O es st (fun b st => Q (.bool b) st) X
  | .or es _, st, Q, X => wpOr O es st (fun b st => Q (.bool b) st) X
  | .cmp1 l op r _, st, Q, X => wpE O l st (fun a st => wpE O r st (fun b st => match cmpV st.mh op a b with | some t => Q (.bool t) st | none => False) X) X
  | .cmp2 l op1 m op2 r _, st, Q, X => wpE O l st (fun a st => wpE O m st (fun b st => match cmpV st.mh op1 a b with
      | some true => wpE O r st (fun c st => match cmpV st.mh op2 b c with | some t => Q (.bool t) st | none => False) X
      | some false => Q (.bool false) st
      | none => False) X) X
  | .ite t a b _, st, Q, X => wpE O t st (fun v st => onB v fun c => match c with | true => wpE O a st Q X | false => wpE O b st Q X) X
  | .tup es _ _, st, Q, X => wpEs O es st (fun vs st => vs.length ≤ LIM ∧ Q (.tup vs) st) X
  | .list es _, st, Q, X => wpEs O es st (fun vs st => vs.length ≤ LIM ∧ ∀ n, st.mh n = none → Q (.ref n) { st with mh := st.mh.set n (.list vs) }) X
  | .idx o i _, st, Q, X => wpE O o st (fun a st => wpE O i st (fun b st => match idxV O st.mh a b with | some v => Q v st | none => False) X) X
  | .slice o lo hi _ _, st, Q, X => wpE O o st (fun a st => wpE O lo st (fun l st => wpE O hi st (fun h st => sliceV st.mh a l h (fun v mh => Q v { st with mh := mh })) X) X) X
  | .dict0 _, st, Q, _ => ∀ n, st.mh n = none → Q (.ref n) { st with mh := st.mh.set n (.bdict []) }
  | .no, st, Q, _ => Q .none st
  | .call f args _, st, Q, X => wpE O f st (fun fv st => wpEs O args st (fun vs st => match fv with
      | .stat a => O.C a vs st.mh (fun v mh => Q v { st with mh := mh }) (fun mh => X { st with mh := mh })
      | .bt b => bcall O b vs st.mh (fun v mh => Q v { st with mh := mh })
      | _ => False) X) X
  | .meth o name args _ _, st, Q, X => wpE O o st (fun ov st => match mkind O name ov st.mh with
      | some k => wpEs O args st (fun vs st => mrun O k ov vs st.mh (fun v mh => Q v { st with mh := mh }) (fun mh => X { st with mh := mh })) X
      | none => False) X
noncomputable def wpEs (O : Out) : Es → St → (List V → St → Prop) → (St → Prop) → Prop
  | .nil, st, Q, _ => Q [] st
  | .cons e es, st, Q, X => wpE O e st (fun v st => wpEs O es st (fun vs st => Q (v :: vs) st) X) X
noncomputable def wpAnd (O : Out) : Es → St → (Bool → St → Prop) → (St → Prop) → Prop
  | .nil, st, Q, _ => Q true st
  | .cons e es, st, Q, X => wpE O e st (fun v st => onB v fun c => match c with | true => wpAnd O es st Q X | false => Q false st) X
noncomputable def wpOr (O : Out) : Es → St → (Bool → St → Prop) → (St → Prop) → Prop
  | .nil, st, Q, _ => Q false st
  | .cons e es, st, Q, X => wpE O e st (fun v st => onB v fun c => match c with | true => Q true st | false => wpOr O es st Q X) X
end
noncomputable def setTup : Fs → List (Nm × P) → List V → Option Fs
  | m, [], [] => some m
  | m, (i, _) :: is, v :: vs => setTup (m.set i v) is vs
  | _, _, _ => none
noncomputable def partsV (mh : MH) (v : V) : Option (List V) := @V.casesOn (fun u_ => Option (List V)) v none (fun u_ => none) (fun u_ => none) (fun u_ => none) some (fun a => (mh a).bind moList) (fun u_ => none) (fun u_ => none)
mutual
noncomputable def wpS (O : Out) : S → St → (Fl → St → Prop) → (St → Prop) → Prop
  | .assign i e _ _, st, Q, X => wpE O e st (fun v st => Q .next { st with loc := st.loc.set i v }) X
  | .assignAttr o f e _ _, st, Q, X => wpE O e st (fun v st => wpE O o st (fun ov st => setAttrP st.mh ov f v fun mh => Q .next { st with mh := mh }) X) X
  | .assignIdx o i e _ _, st, Q, X => wpE O e st (fun v st => wpE O o st (fun ov st => wpE O i st (fun iv st => match ov, iv with
      | .ref a, .int k => (match st.mh a with
        | some (.list vs) => 0 ≤ k ∧ k.toNat < vs.length ∧ Q .next { st with mh := st.mh.set a (.list (vs.set k.toNat v)) }
        | _ => False)
      | .ref a, .bytes k => (match st.mh a with
        | some (.bdict kvs) => kvs.lookup k = none ∧ kvs.length < LIM ∧ Q .next { st with mh := st.mh.set a (.bdict (kvs ++ [(k, v)])) }
        | _ => False)
      | _, _ => False) X) X) X
  | .assignTup is _ e _ _, st, Q, X => wpE O e st (fun v st => match partsV st.mh v with
      | some vs => (match setTup st.loc is vs with | some m => Q .next { st with loc := m } | none => False)
      | none => False) X
  | .augName i _ e _ _, st, Q, X => match st.loc i with
      | some a => wpE O e st (fun b st => match addI a b with | some v => Q .next { st with loc := st.loc.set i v } | none => False) X
      | none => False
  | .augAttr o f _ e _ _, st, Q, X => wpE O o st (fun ov st => match attrV st.mh ov f with
      | some a => wpE O e st (fun b st => match addI a b with
        | some v => setAttrP st.mh ov f v fun mh => Q .next { st with mh := mh }
        | none => False) X
      | none => False) X
  | .iff t a b _, st, Q, X => wpE O t st (fun v st => onB v fun c => match c with | true => wpSs O a st Q X | false => wpSs O b st Q X) X
  | .whil t b _, st, Q, X => ∃ I : Nat → St → Prop, (∃ n, I n st) ∧ ∀ n st, I n st → wpE O t st (fun v st => onB v fun c => match c with
      | true => wpSs O b st (fun f st => match f with
        | .next => ∃ m, m < n ∧ I m st
        | .brk => Q .next st
        | .ret v => Q (.ret v) st) X
      | false => Q .next st) X
  | .ret e _, st, Q, X => wpE O e st (fun v st => Q (.ret v) st) X
  | .expr e _, st, Q, X => wpE O e st (fun u_ st => Q .next st) X
  | .pass _, st, Q, _ => Q .next st
  | .brk _, st, Q, _ => Q .brk st
  | .raise e _, st₀, _, X => wpE O e st₀ (fun v st => match v with
      | .ref a => st₀.mh a = none ∧ (match st.mh a with | some (.exc C _) => C = O.LSE ∧ X { st with mh := st.mh.del a } | _ => False)
      | _ => False) X
  | .tryRet b _ _ i _ t _ _ _ _ _ _, st, Q, X => wpSs O b st Q (fun st => match st.loc i with | some v => [v, V.bool t].length ≤ LIM ∧ Q (.ret (.tup [v, .bool t])) st | none => False)
  | .forEnum i j _ _ _ it b _ _ _ _, st, Q, X => wpE O it st (fun v st => match v with
      | .stat a => (match O.SL a with
        | some vs => ∃ I : Nat → St → Prop, I 0 st ∧ (∀ k st v, vs[k]? = some v → I k st → wpSs O b { st with loc := (st.loc.set i (.int k)).set j v } (fun f st => match f with
            | .next => I (k + 1) st
            | _ => False) X) ∧ ∀ st, I vs.length st → Q .next st
        | none => False)
      | _ => False) X
  | .opaq k, st, Q, X => O.OP k st Q X
noncomputable def wpSs (O : Out) : Ss → St → (Fl → St → Prop) → (St → Prop) → Prop
  | .nil, st, Q, _ => Q .next st
  | .cons s ss, st, Q, X => wpS O s st (fun f st => match f with | .next => wpSs O ss st Q X | f => Q f st) X
end
theorem we_c {O : Out} {v x0 st Q X} : wpE O (.c v x0) st Q X = (Q v st) := rfl
theorem we_loc {O : Out} {i x0 st Q X} : wpE O (.loc i x0) st Q X = (match st.loc i with | some v => Q v st | none => False) := rfl
theorem we_cel {O : Out} {i x0 st Q X} : wpE O (.cel i x0) st Q X = (match st.loc i with | some v => Q v st | none => False) := rfl
theorem we_glob {O : Out} {x0 v x1 st Q X} : wpE O (.glob x0 v x1) st Q X = (Q v st) := rfl
theorem we_blt {O : Out} {b x0 st Q X} : wpE O (.blt b x0) st Q X = (Q (.bt b) st) := rfl
theorem we_attr {O : Out} {o f x0 st Q X} : wpE O (.attr o f x0) st Q X = (wpE O o st (fun v st => match attrV st.mh v f with | some u => Q u st | none => False) X) := rfl
theorem we_bin {O : Out} {op l r x0 st Q X} : wpE O (.bin op l r x0) st Q X = (wpE O l st (fun a st => wpE O r st (fun b st => match binV O op a b with | some v => Q v st | none => False) X) X) := rfl
theorem we_neg {O : Out} {e x0 st Q X} : wpE O (.neg e x0) st Q X = (wpE O e st (fun v st => match v with | .int i => Q (.int (-i)) st | _ => False) X) := rfl
theorem we_not {O : Out} {e x0 st Q X} : wpE O (.not e x0) st Q X = (wpE O e st (fun v st => onB v fun b => Q (.bool (!b)) st) X) := rfl
theorem we_and {O : Out} {es x0 st Q X} : wpE O (.and es x0) st Q X = (wpAnd O es st (fun b st => Q (.bool b) st) X) := rfl
theorem we_or {O : Out} {es x0 st Q X} : wpE O (.or es x0) st Q X = (wpOr O es st (fun b st => Q (.bool b) st) X) := rfl
theorem we_cmp1 {O : Out} {l op r x0 st Q X} : wpE O (.cmp1 l op r x0) st Q X = (wpE O l st (fun a st => wpE O r st (fun b st => match cmpV st.mh op a b with | some t => Q (.bool t) st | none => False) X) X) := rfl
theorem we_cmp2 {O : Out} {l op1 m op2 r x0 st Q X} : wpE O (.cmp2 l op1 m op2 r x0) st Q X = (wpE O l st (fun a st => wpE O m st (fun b st => match cmpV st.mh op1 a b with
      | some true => wpE O r st (fun c st => match cmpV st.mh op2 b c with | some t => Q (.bool t) st | none => False) X
      | some false => Q (.bool false) st
      | none => False) X) X) := rfl
theorem we_ite {O : Out} {t a b x0 st Q X} : wpE O (.ite t a b x0) st Q X = (wpE O t st (fun v st => onB v fun c => match c with | true => wpE O a st Q X | false => wpE O b st Q X) X) := rfl
theorem we_tup {O : Out} {es x0 x1 st Q X} : wpE O (.tup es x0 x1) st Q X = (wpEs O es st (fun vs st => vs.length ≤ LIM ∧ Q (.tup vs) st) X) := rfl
theorem we_list {O : Out} {es x0 st Q X} : wpE O (.list es x0) st Q X = (wpEs O es st (fun vs st => vs.length ≤ LIM ∧ ∀ n, st.mh n = none → Q (.ref n) { st with mh := st.mh.set n (.list vs) }) X) := rfl
theorem we_idx {O : Out} {o i x0 st Q X} : wpE O (.idx o i x0) st Q X = (wpE O o st (fun a st => wpE O i st (fun b st => match idxV O st.mh a b with | some v => Q v st | none => False) X) X) := rfl
theorem we_slice {O : Out} {o lo hi x0 x1 st Q X} : wpE O (.slice o lo hi x0 x1) st Q X = (wpE O o st (fun a st => wpE O lo st (fun l st => wpE O hi st (fun h st => sliceV st.mh a l h (fun v mh => Q v { st with mh := mh })) X) X) X) := rfl
theorem we_dict0 {O : Out} {x0 st Q X} : wpE O (.dict0 x0) st Q X = (∀ n, st.mh n = none → Q (.ref n) { st with mh := st.mh.set n (.bdict []) }) := rfl
theorem we_no {O : Out} {st Q X} : wpE O .no st Q X = (Q .none st) := rfl
theorem we_call {O : Out} {f args x0 st Q X} : wpE O (.call f args x0) st Q X = (wpE O f st (fun fv st => wpEs O args st (fun vs st => match fv with
      | .stat a => O.C a vs st.mh (fun v mh => Q v { st with mh := mh }) (fun mh => X { st with mh := mh })
      | .bt b => bcall O b vs st.mh (fun v mh => Q v { st with mh := mh })
      | _ => False) X) X) := rfl
theorem we_meth {O : Out} {o name args x0 x1 st Q X} : wpE O (.meth o name args x0 x1) st Q X = (wpE O o st (fun ov st => match mkind O name ov st.mh with
      | some k => wpEs O args st (fun vs st => mrun O k ov vs st.mh (fun v mh => Q v { st with mh := mh }) (fun mh => X { st with mh := mh })) X
      | none => False) X) := rfl
theorem wes_nil {O : Out} {st Q X} : wpEs O .nil st Q X = (Q [] st) := rfl
theorem wes_cons {O : Out} {e es st Q X} : wpEs O (.cons e es) st Q X = (wpE O e st (fun v st => wpEs O es st (fun vs st => Q (v :: vs) st) X) X) := rfl
theorem wan_nil {O : Out} {st Q X} : wpAnd O .nil st Q X = (Q true st) := rfl
theorem wan_cons {O : Out} {e es st Q X} : wpAnd O (.cons e es) st Q X = (wpE O e st (fun v st => onB v fun c => match c with | true => wpAnd O es st Q X | false => Q false st) X) := rfl
theorem wor_nil {O : Out} {st Q X} : wpOr O .nil st Q X = (Q false st) := rfl
theorem wor_cons {O : Out} {e es st Q X} : wpOr O (.cons e es) st Q X = (wpE O e st (fun v st => onB v fun c => match c with | true => Q true st | false => wpOr O es st Q X) X) := rfl
theorem ws_assign {O : Out} {i e x0 x1 st Q X} : wpS O (.assign i e x0 x1) st Q X = (wpE O e st (fun v st => Q .next { st with loc := st.loc.set i v }) X) := rfl
theorem ws_assignAttr {O : Out} {o f e x0 x1 st Q X} : wpS O (.assignAttr o f e x0 x1) st Q X = (wpE O e st (fun v st => wpE O o st (fun ov st => setAttrP st.mh ov f v fun mh => Q .next { st with mh := mh }) X) X) := rfl
theorem ws_assignIdx {O : Out} {o i e x0 x1 st Q X} : wpS O (.assignIdx o i e x0 x1) st Q X = (wpE O e st (fun v st => wpE O o st (fun ov st => wpE O i st (fun iv st => match ov, iv with
      | .ref a, .int k => (match st.mh a with
        | some (.list vs) => 0 ≤ k ∧ k.toNat < vs.length ∧ Q .next { st with mh := st.mh.set a (.list (vs.set k.toNat v)) }
        | _ => False)
      | .ref a, .bytes k => (match st.mh a with
        | some (.bdict kvs) => kvs.lookup k = none ∧ kvs.length < LIM ∧ Q .next { st with mh := st.mh.set a (.bdict (kvs ++ [(k, v)])) }
        | _ => False)
      | _, _ => False) X) X) X) := rfl
theorem ws_assignTup {O : Out} {is x0 e x1 x2 st Q X} : wpS O (.assignTup is x0 e x1 x2) st Q X = (wpE O e st (fun v st => match partsV st.mh v with
      | some vs => (match setTup st.loc is vs with | some m => Q .next { st with loc := m } | none => False)
      | none => False) X) := rfl
theorem ws_augName {O : Out} {i x0 e x1 x2 st Q X} : wpS O (.augName i x0 e x1 x2) st Q X = (match st.loc i with
      | some a => wpE O e st (fun b st => match addI a b with | some v => Q .next { st with loc := st.loc.set i v } | none => False) X
      | none => False) := rfl
theorem ws_augAttr {O : Out} {o f x0 e x1 x2 st Q X} : wpS O (.augAttr o f x0 e x1 x2) st Q X = (wpE O o st (fun ov st => match attrV st.mh ov f with
      | some a => wpE O e st (fun b st => match addI a b with
        | some v => setAttrP st.mh ov f v fun mh => Q .next { st with mh := mh }
        | none => False) X
      | none => False) X) := rfl
theorem ws_iff {O : Out} {t a b x0 st Q X} : wpS O (.iff t a b x0) st Q X = (wpE O t st (fun v st => onB v fun c => match c with | true => wpSs O a st Q X | false => wpSs O b st Q X) X) := rfl
theorem ws_whil {O : Out} {t b x0 st Q X} : wpS O (.whil t b x0) st Q X = (∃ I : Nat → St → Prop, (∃ n, I n st) ∧ ∀ n st, I n st → wpE O t st (fun v st => onB v fun c => match c with
      | true => wpSs O b st (fun f st => match f with
        | .next => ∃ m, m < n ∧ I m st
        | .brk => Q .next st
        | .ret v => Q (.ret v) st) X
      | false => Q .next st) X) := rfl
theorem ws_ret {O : Out} {e x0 st Q X} : wpS O (.ret e x0) st Q X = (wpE O e st (fun v st => Q (.ret v) st) X) := rfl
theorem ws_expr {O : Out} {e x0 st Q X} : wpS O (.expr e x0) st Q X = (wpE O e st (fun u_ st => Q .next st) X) := rfl
theorem ws_pass {O : Out} {x0 st Q X} : wpS O (.pass x0) st Q X = (Q .next st) := rfl
theorem ws_brk {O : Out} {x0 st Q X} : wpS O (.brk x0) st Q X = (Q .brk st) := rfl
theorem ws_raise {O : Out} {e x0 st₀ Q X} : wpS O (.raise e x0) st₀ Q X = (wpE O e st₀ (fun v st => match v with
      | .ref a => st₀.mh a = none ∧ (match st.mh a with | some (.exc C _) => C = O.LSE ∧ X { st with mh := st.mh.del a } | _ => False)
      | _ => False) X) := rfl
theorem ws_tryRet {O : Out} {b x0 x1 i x2 t x3 x4 x5 x6 x7 x8 st Q X} : wpS O (.tryRet b x0 x1 i x2 t x3 x4 x5 x6 x7 x8) st Q X = (wpSs O b st Q (fun st => match st.loc i with | some v => [v, V.bool t].length ≤ LIM ∧ Q (.ret (.tup [v, .bool t])) st | none => False)) := rfl
theorem ws_forEnum {O : Out} {i j x0 x1 x2 it b x3 x4 x5 x6 st Q X} : wpS O (.forEnum i j x0 x1 x2 it b x3 x4 x5 x6) st Q X = (wpE O it st (fun v st => match v with
      | .stat a => (match O.SL a with
        | some vs => ∃ I : Nat → St → Prop, I 0 st ∧ (∀ k st v, vs[k]? = some v → I k st → wpSs O b { st with loc := (st.loc.set i (.int k)).set j v } (fun f st => match f with
            | .next => I (k + 1) st
            | _ => False) X) ∧ ∀ st, I vs.length st → Q .next st
        | none => False)
      | _ => False) X) := rfl
theorem ws_opaq {O : Out} {k st Q X} : wpS O (.opaq k) st Q X = (O.OP k st Q X) := rfl
theorem wss_nil {O : Out} {st Q X} : wpSs O .nil st Q X = (Q .next st) := rfl
theorem wss_cons {O : Out} {s ss st Q X} : wpSs O (.cons s ss) st Q X = (wpS O s st (fun f st => match f with | .next => wpSs O ss st Q X | f => Q f st) X) := rfl
noncomputable def bindF : List Nm → List V → Option Fs
  | [], [] => some (fun u_ => none)
  | i :: is, v :: vs => (bindF is vs).map fun m => m.set i v
  | _, _ => none
noncomputable def wpBody (O : Out) (ps : List Nm) (b : Ss) (args : List V) (mh : MH) (Q : V → MH → Prop) (X : MH → Prop) : Prop :=
  match bindF ps args with
  | some loc => wpSs O b ⟨loc, mh⟩ (fun f st => match f with
      | .ret v => Q v st.mh
      | .next => Q .none st.mh
      | .brk => False) (fun st => X st.mh)
  | none => False
end Lx
namespace Lx
noncomputable def names : List String := ["self", "width", "registers", "upvalues", "local_names", "ccalls", "frames", "stack", "flush", "steps", "text", "value", "trace", "is_in_handler", "n", "low", "octet", "BLANKS", "at", "base", "found", "most", "digit", "digit_of", "is_blank_values", "limits", "text_in_base", "is_below", "skip_blanks", "is_marked", "end", "read_digits", "wrap", "left", "append", "reverse", "is_number", "number_text", "source", "size", "c_text", "room", "name", "line", "first_line", "sign", "UNDERSCORE", "is_letter", "is_digit", "NEWLINE", "RETURN", "find", "kinds", "word", "RESERVED", "FIRST_RESERVED", "kind", "is_control", "to_text", "OTHER_TEXTS", "chunk", "chunk_id", "SOURCE_SIZE", "reserved_kinds", "END_OF_TEXT", "last_line", "buffer", "current", "Token", "TK_EOS", "ahead", "read", "message", "near_text", "LuaSyntaxError", "error", "TK_NAME", "TK_STRING", "TK_NUMBER", "token_text", "keep", "move", "signs", "keep_and_move", "first", "is_newline", "MOST_LINES", "syntax_error", "clear", "skip_blank", "QUOTE_DOUBLE", "QUOTE_SINGLE", "read_string", "BRACKET_OPEN", "read_bracket", "DOT", "read_dots", "read_numeral", "read_word", "MINUS", "EQUALS", "LESS", "GREATER", "TILDE", "read_compared", "end_line", "is_blank_lexer", "sign_behind", "skip_comment", "level", "read_level", "read_long", "TK_EQ", "TK_LE", "TK_GE", "TK_NE", "keep_if", "TK_DOTS", "TK_CONCAT", "is_name_sign", "get", "PLUS", "str_to_number", "bracket", "many", "is_text", "begin", "read_inner", "BRACKET_CLOSE", "quote", "BACKSLASH", "read_escape", "told", "escaped_sign", "lexer", "Lexer", "token", "next", "heap", "cells", "turn", "Limits", "here", "behind", "script", "tokens", "is_refused", "_law_told", "all_tokens", "far", "_law_tossed", "lookahead", "_law_ends", "_law_pieces"]
noncomputable def a_Limits___init__ : Ad := 36
noncomputable def p_Limits___init__ : List Nm := [0, 1, 2, 3, 4, 5, 6, 7, 8, 9, 10]
noncomputable def b_Limits___init__ : Ss :=
 (.cons (.assignAttr (.loc 0 ⟨9, 8, 9, 12⟩) 1 (.loc 1 ⟨9, 21, 9, 26⟩) ⟨9, 8, 9, 18⟩ ⟨9, 8, 9, 26⟩)
 (.cons (.assignAttr (.loc 0 ⟨10, 8, 10, 12⟩) 2 (.loc 2 ⟨10, 25, 10, 34⟩) ⟨10, 8, 10, 22⟩ ⟨10, 8, 10, 34⟩)
 (.cons (.assignAttr (.loc 0 ⟨11, 8, 11, 12⟩) 3 (.loc 3 ⟨11, 24, 11, 32⟩) ⟨11, 8, 11, 21⟩ ⟨11, 8, 11, 32⟩)
 (.cons (.assignAttr (.loc 0 ⟨12, 8, 12, 12⟩) 4 (.loc 4 ⟨12, 27, 12, 38⟩) ⟨12, 8, 12, 24⟩ ⟨12, 8, 12, 38⟩)
 (.cons (.assignAttr (.loc 0 ⟨13, 8, 13, 12⟩) 5 (.loc 5 ⟨13, 22, 13, 28⟩) ⟨13, 8, 13, 19⟩ ⟨13, 8, 13, 28⟩)
 (.cons (.assignAttr (.loc 0 ⟨14, 8, 14, 12⟩) 6 (.loc 6 ⟨14, 22, 14, 28⟩) ⟨14, 8, 14, 19⟩ ⟨14, 8, 14, 28⟩)
 (.cons (.assignAttr (.loc 0 ⟨15, 8, 15, 12⟩) 7 (.loc 7 ⟨15, 21, 15, 26⟩) ⟨15, 8, 15, 18⟩ ⟨15, 8, 15, 26⟩)
 (.cons (.assignAttr (.loc 0 ⟨16, 8, 16, 12⟩) 8 (.loc 8 ⟨16, 21, 16, 26⟩) ⟨16, 8, 16, 18⟩ ⟨16, 8, 16, 26⟩)
 (.cons (.assignAttr (.loc 0 ⟨17, 8, 17, 12⟩) 9 (.loc 9 ⟨17, 21, 17, 26⟩) ⟨17, 8, 17, 18⟩ ⟨17, 8, 17, 26⟩)
 (.cons (.assignAttr (.loc 0 ⟨18, 8, 18, 12⟩) 10 (.loc 10 ⟨18, 20, 18, 24⟩) ⟨18, 8, 18, 17⟩ ⟨18, 8, 18, 24⟩)
 .nil))))))))))
noncomputable def a_LuaError___init__ : Ad := 71
noncomputable def p_LuaError___init__ : List Nm := [0, 11]
noncomputable def b_LuaError___init__ : Ss :=
 (.cons (.assignAttr (.loc 0 ⟨28, 8, 28, 12⟩) 11 (.loc 11 ⟨28, 21, 28, 26⟩) ⟨28, 8, 28, 18⟩ ⟨28, 8, 28, 26⟩)
 (.cons (.assignAttr (.loc 0 ⟨29, 8, 29, 12⟩) 12 (.list .nil ⟨29, 21, 29, 23⟩) ⟨29, 8, 29, 18⟩ ⟨29, 8, 29, 23⟩)
 (.cons (.assignAttr (.loc 0 ⟨30, 8, 30, 12⟩) 13 (.c (.bool false) ⟨30, 29, 30, 34⟩) ⟨30, 8, 30, 26⟩ ⟨30, 8, 30, 34⟩)
 .nil)))
noncomputable def a_is_number : Ad := 96
noncomputable def p_is_number : List Nm := [11]
noncomputable def b_is_number : Ss :=
 (.cons (.ret (.and (.cons (.call (.blt .isinstance ⟨34, 11, 34, 21⟩) (.cons (.loc 11 ⟨34, 22, 34, 27⟩) (.cons (.blt .int ⟨34, 29, 34, 32⟩) .nil)) ⟨34, 11, 34, 33⟩) (.cons (.not (.call (.blt .isinstance ⟨34, 43, 34, 53⟩) (.cons (.loc 11 ⟨34, 54, 34, 59⟩) (.cons (.blt .bool ⟨34, 61, 34, 65⟩) .nil)) ⟨34, 43, 34, 66⟩) ⟨34, 39, 34, 66⟩) .nil)) ⟨34, 11, 34, 67⟩) ⟨34, 4, 34, 67⟩)
 .nil)
noncomputable def a_wrap : Ad := 103
noncomputable def p_wrap : List Nm := [14, 1]
noncomputable def b_wrap : Ss :=
 (.cons (.assign 15 (.bin .band (.loc 14 ⟨36, 10, 36, 11⟩) (.bin .sub (.bin .shl (.c (.int 1) ⟨36, 15, 36, 16⟩) (.loc 1 ⟨36, 20, 36, 25⟩) ⟨36, 15, 36, 25⟩) (.c (.int 1) ⟨36, 29, 36, 30⟩) ⟨36, 14, 36, 30⟩) ⟨36, 10, 36, 30⟩) ⟨36, 4, 36, 7⟩ ⟨36, 4, 36, 30⟩)
 (.cons (.iff (.cmp1 (.loc 15 ⟨37, 7, 37, 10⟩) .ge (.bin .shl (.c (.int 1) ⟨37, 14, 37, 15⟩) (.bin .sub (.loc 1 ⟨37, 19, 37, 24⟩) (.c (.int 1) ⟨37, 27, 37, 28⟩) ⟨37, 19, 37, 28⟩) ⟨37, 14, 37, 28⟩) ⟨37, 7, 37, 28⟩)
 (.cons (.ret (.bin .sub (.loc 15 ⟨38, 15, 38, 18⟩) (.bin .shl (.c (.int 1) ⟨38, 22, 38, 23⟩) (.loc 1 ⟨38, 27, 38, 32⟩) ⟨38, 22, 38, 32⟩) ⟨38, 15, 38, 33⟩) ⟨38, 8, 38, 33⟩)
 .nil)
 .nil ⟨37, 4, 38, 33⟩)
 (.cons (.ret (.loc 15 ⟨39, 11, 39, 14⟩) ⟨39, 4, 39, 14⟩)
 .nil)))
noncomputable def a_is_blank_v : Ad := 110
noncomputable def p_is_blank_v : List Nm := [16]
noncomputable def b_is_blank_v : Ss :=
 (.cons (.ret (.cmp1 (.loc 16 ⟨41, 11, 41, 16⟩) .inn (.glob 17 (.bytes [32, 9, 10, 11, 12, 13]) ⟨41, 20, 41, 26⟩) ⟨41, 11, 41, 26⟩) ⟨41, 4, 41, 26⟩)
 .nil)
noncomputable def a_digit_of : Ad := 117
noncomputable def p_digit_of : List Nm := [16]
noncomputable def b_digit_of : Ss :=
 (.cons (.iff (.cmp2 (.c (.int 48) ⟨44, 7, 44, 9⟩) .le (.loc 16 ⟨44, 13, 44, 18⟩) .le (.c (.int 57) ⟨44, 22, 44, 24⟩) ⟨44, 7, 44, 24⟩)
 (.cons (.ret (.bin .sub (.loc 16 ⟨45, 15, 45, 20⟩) (.c (.int 48) ⟨45, 23, 45, 25⟩) ⟨45, 15, 45, 25⟩) ⟨45, 8, 45, 25⟩)
 .nil)
 .nil ⟨44, 4, 45, 25⟩)
 (.cons (.iff (.cmp2 (.c (.int 97) ⟨46, 7, 46, 9⟩) .le (.loc 16 ⟨46, 13, 46, 18⟩) .le (.c (.int 122) ⟨46, 22, 46, 25⟩) ⟨46, 7, 46, 25⟩)
 (.cons (.ret (.bin .sub (.loc 16 ⟨47, 15, 47, 20⟩) (.c (.int 87) ⟨47, 23, 47, 25⟩) ⟨47, 15, 47, 25⟩) ⟨47, 8, 47, 25⟩)
 .nil)
 .nil ⟨46, 4, 47, 25⟩)
 (.cons (.iff (.cmp2 (.c (.int 65) ⟨48, 7, 48, 9⟩) .le (.loc 16 ⟨48, 13, 48, 18⟩) .le (.c (.int 90) ⟨48, 22, 48, 24⟩) ⟨48, 7, 48, 24⟩)
 (.cons (.ret (.bin .sub (.loc 16 ⟨49, 15, 49, 20⟩) (.c (.int 55) ⟨49, 23, 49, 25⟩) ⟨49, 15, 49, 25⟩) ⟨49, 8, 49, 25⟩)
 .nil)
 .nil ⟨48, 4, 49, 25⟩)
 (.cons (.ret (.neg (.c (.int 1) ⟨50, 12, 50, 13⟩) ⟨50, 11, 50, 13⟩) ⟨50, 4, 50, 13⟩)
 .nil))))
noncomputable def a_read_digits_v : Ad := 124
noncomputable def p_read_digits_v : List Nm := [10, 18, 19, 1]
noncomputable def b_read_digits_v : Ss :=
 (.cons (.assignTup [(20, ⟨52, 4, 52, 9⟩), (21, ⟨52, 11, 52, 15⟩)] 0 (.tup (.cons (.c (.int 0) ⟨52, 19, 52, 20⟩) (.cons (.bin .sub (.bin .shl (.c (.int 1) ⟨52, 23, 52, 24⟩) (.loc 1 ⟨52, 28, 52, 33⟩) ⟨52, 23, 52, 33⟩) (.c (.int 1) ⟨52, 37, 52, 38⟩) ⟨52, 22, 52, 38⟩) .nil)) 0 ⟨52, 18, 52, 39⟩) ⟨52, 4, 52, 15⟩ ⟨52, 4, 52, 39⟩)
 (.cons (.whil (.cmp1 (.loc 18 ⟨53, 10, 53, 12⟩) .lt (.call (.blt .len ⟨53, 15, 53, 18⟩) (.cons (.loc 10 ⟨53, 19, 53, 23⟩) .nil) ⟨53, 15, 53, 24⟩) ⟨53, 10, 53, 24⟩)
 (.cons (.assign 22 (.call (.glob 23 (.stat 117) ⟨54, 16, 54, 24⟩) (.cons (.idx (.loc 10 ⟨54, 25, 54, 29⟩) (.loc 18 ⟨54, 30, 54, 32⟩) ⟨54, 25, 54, 33⟩) .nil) ⟨54, 16, 54, 34⟩) ⟨54, 8, 54, 13⟩ ⟨54, 8, 54, 34⟩)
 (.cons (.iff (.or (.cons (.cmp1 (.loc 22 ⟨55, 11, 55, 16⟩) .lt (.c (.int 0) ⟨55, 19, 55, 20⟩) ⟨55, 11, 55, 20⟩) (.cons (.cmp1 (.loc 22 ⟨55, 24, 55, 29⟩) .ge (.loc 19 ⟨55, 33, 55, 37⟩) ⟨55, 24, 55, 37⟩) .nil)) ⟨55, 11, 55, 37⟩)
 (.cons (.brk ⟨56, 12, 56, 17⟩)
 .nil)
 .nil ⟨55, 8, 56, 17⟩)
 (.cons (.assign 20 (.bin .band (.bin .add (.bin .mul (.loc 20 ⟨57, 16, 57, 21⟩) (.loc 19 ⟨57, 24, 57, 28⟩) ⟨57, 16, 57, 28⟩) (.loc 22 ⟨57, 31, 57, 36⟩) ⟨57, 16, 57, 36⟩) (.loc 21 ⟨57, 39, 57, 43⟩) ⟨57, 16, 57, 43⟩) ⟨57, 8, 57, 13⟩ ⟨57, 8, 57, 43⟩)
 (.cons (.assign 18 (.bin .add (.loc 18 ⟨58, 13, 58, 15⟩) (.c (.int 1) ⟨58, 18, 58, 19⟩) ⟨58, 13, 58, 19⟩) ⟨58, 8, 58, 10⟩ ⟨58, 8, 58, 19⟩)
 .nil)))) ⟨53, 4, 58, 19⟩)
 (.cons (.ret (.tup (.cons (.loc 20 ⟨59, 12, 59, 17⟩) (.cons (.loc 18 ⟨59, 19, 59, 21⟩) .nil)) 0 ⟨59, 11, 59, 22⟩) ⟨59, 4, 59, 22⟩)
 .nil)))
noncomputable def a_skip_blanks : Ad := 131
noncomputable def p_skip_blanks : List Nm := [10, 18]
noncomputable def b_skip_blanks : Ss :=
 (.cons (.whil (.and (.cons (.cmp1 (.loc 18 ⟨61, 10, 61, 12⟩) .lt (.call (.blt .len ⟨61, 15, 61, 18⟩) (.cons (.loc 10 ⟨61, 19, 61, 23⟩) .nil) ⟨61, 15, 61, 24⟩) ⟨61, 10, 61, 24⟩) (.cons (.call (.glob 24 (.stat 110) ⟨61, 29, 61, 44⟩) (.cons (.idx (.loc 10 ⟨61, 45, 61, 49⟩) (.loc 18 ⟨61, 50, 61, 52⟩) ⟨61, 45, 61, 53⟩) .nil) ⟨61, 29, 61, 54⟩) .nil)) ⟨61, 10, 61, 54⟩)
 (.cons (.assign 18 (.bin .add (.loc 18 ⟨62, 13, 62, 15⟩) (.c (.int 1) ⟨62, 18, 62, 19⟩) ⟨62, 13, 62, 19⟩) ⟨62, 8, 62, 10⟩ ⟨62, 8, 62, 19⟩)
 .nil) ⟨61, 4, 62, 19⟩)
 (.cons (.ret (.loc 18 ⟨63, 11, 63, 13⟩) ⟨63, 4, 63, 13⟩)
 .nil))
noncomputable def a_str_to_number : Ad := 138
noncomputable def p_str_to_number : List Nm := [10, 25]
noncomputable def b_str_to_number : Ss :=
 (.cons (.ret (.call (.glob 26 (.stat 145) ⟨65, 11, 65, 23⟩) (.cons (.loc 10 ⟨65, 24, 65, 28⟩) (.cons (.c (.int 0) ⟨65, 30, 65, 31⟩) (.cons (.loc 25 ⟨65, 33, 65, 39⟩) .nil))) ⟨65, 11, 65, 40⟩) ⟨65, 4, 65, 40⟩)
 .nil)
noncomputable def a_text_in_base : Ad := 145
noncomputable def p_text_in_base : List Nm := [10, 19, 25]
noncomputable def b_text_in_base : Ss :=
 (.cons (.assignTup [(18, ⟨67, 4, 67, 6⟩), (27, ⟨67, 8, 67, 16⟩)] 0 (.tup (.cons (.call (.glob 28 (.stat 131) ⟨67, 20, 67, 31⟩) (.cons (.loc 10 ⟨67, 32, 67, 36⟩) (.cons (.c (.int 0) ⟨67, 38, 67, 39⟩) .nil)) ⟨67, 20, 67, 40⟩) (.cons (.c (.bool false) ⟨67, 42, 67, 47⟩) .nil)) 0 ⟨67, 19, 67, 48⟩) ⟨67, 4, 67, 16⟩ ⟨67, 4, 67, 48⟩)
 (.cons (.iff (.and (.cons (.cmp1 (.loc 18 ⟨68, 7, 68, 9⟩) .lt (.call (.blt .len ⟨68, 12, 68, 15⟩) (.cons (.loc 10 ⟨68, 16, 68, 20⟩) .nil) ⟨68, 12, 68, 21⟩) ⟨68, 7, 68, 21⟩) (.cons (.cmp1 (.idx (.loc 10 ⟨68, 26, 68, 30⟩) (.loc 18 ⟨68, 31, 68, 33⟩) ⟨68, 26, 68, 34⟩) .inn (.c (.bytes [43, 45]) ⟨68, 38, 68, 43⟩) ⟨68, 26, 68, 43⟩) .nil)) ⟨68, 7, 68, 43⟩)
 (.cons (.assign 27 (.cmp1 (.idx (.loc 10 ⟨69, 19, 69, 23⟩) (.loc 18 ⟨69, 24, 69, 26⟩) ⟨69, 19, 69, 27⟩) .eq (.c (.int 45) ⟨69, 31, 69, 33⟩) ⟨69, 19, 69, 33⟩) ⟨69, 8, 69, 16⟩ ⟨69, 8, 69, 33⟩)
 (.cons (.assign 18 (.bin .add (.loc 18 ⟨70, 13, 70, 15⟩) (.c (.int 1) ⟨70, 18, 70, 19⟩) ⟨70, 13, 70, 19⟩) ⟨70, 8, 70, 10⟩ ⟨70, 8, 70, 19⟩)
 .nil))
 .nil ⟨68, 4, 70, 19⟩)
 (.cons (.assign 29 (.and (.cons (.cmp1 (.bin .add (.loc 18 ⟨71, 16, 71, 18⟩) (.c (.int 2) ⟨71, 21, 71, 22⟩) ⟨71, 16, 71, 22⟩) .lt (.call (.blt .len ⟨71, 25, 71, 28⟩) (.cons (.loc 10 ⟨71, 29, 71, 33⟩) .nil) ⟨71, 25, 71, 34⟩) ⟨71, 16, 71, 34⟩) (.cons (.cmp1 (.idx (.loc 10 ⟨71, 39, 71, 43⟩) (.loc 18 ⟨71, 44, 71, 46⟩) ⟨71, 39, 71, 47⟩) .eq (.c (.int 48) ⟨71, 51, 71, 53⟩) ⟨71, 39, 71, 53⟩) (.cons (.cmp1 (.idx (.loc 10 ⟨71, 59, 71, 63⟩) (.bin .add (.loc 18 ⟨71, 64, 71, 66⟩) (.c (.int 1) ⟨71, 69, 71, 70⟩) ⟨71, 64, 71, 70⟩) ⟨71, 59, 71, 71⟩) .inn (.c (.bytes [120, 88]) ⟨71, 75, 71, 80⟩) ⟨71, 59, 71, 80⟩) (.cons (.cmp1 (.loc 19 ⟨71, 87, 71, 91⟩) .inn (.tup (.cons (.c (.int 0) ⟨71, 96, 71, 97⟩) (.cons (.c (.int 16) ⟨71, 99, 71, 101⟩) .nil)) 0 ⟨71, 95, 71, 102⟩) ⟨71, 87, 71, 102⟩) .nil)))) ⟨71, 16, 71, 103⟩) ⟨71, 4, 71, 13⟩ ⟨71, 4, 71, 103⟩)
 (.cons (.iff (.and (.cons (.loc 29 ⟨72, 7, 72, 16⟩) (.cons (.cmp2 (.c (.int 0) ⟨72, 21, 72, 22⟩) .le (.call (.glob 23 (.stat 117) ⟨72, 26, 72, 34⟩) (.cons (.idx (.loc 10 ⟨72, 35, 72, 39⟩) (.bin .add (.loc 18 ⟨72, 40, 72, 42⟩) (.c (.int 2) ⟨72, 45, 72, 46⟩) ⟨72, 40, 72, 46⟩) ⟨72, 35, 72, 47⟩) .nil) ⟨72, 26, 72, 48⟩) .lt (.c (.int 16) ⟨72, 51, 72, 53⟩) ⟨72, 21, 72, 53⟩) .nil)) ⟨72, 7, 72, 53⟩)
 (.cons (.assignTup [(18, ⟨73, 8, 73, 10⟩), (19, ⟨73, 12, 73, 16⟩)] 0 (.tup (.cons (.bin .add (.loc 18 ⟨73, 20, 73, 22⟩) (.c (.int 2) ⟨73, 25, 73, 26⟩) ⟨73, 20, 73, 26⟩) (.cons (.c (.int 16) ⟨73, 28, 73, 30⟩) .nil)) 0 ⟨73, 19, 73, 31⟩) ⟨73, 8, 73, 16⟩ ⟨73, 8, 73, 31⟩)
 .nil)
 .nil ⟨72, 4, 73, 31⟩)
 (.cons (.assignTup [(20, ⟨74, 4, 74, 9⟩), (30, ⟨74, 11, 74, 14⟩)] 0 (.call (.glob 31 (.stat 124) ⟨74, 17, 74, 28⟩) (.cons (.loc 10 ⟨74, 29, 74, 33⟩) (.cons (.loc 18 ⟨74, 35, 74, 37⟩) (.cons (.ite (.cmp1 (.loc 19 ⟨74, 45, 74, 49⟩) .eq (.c (.int 0) ⟨74, 53, 74, 54⟩) ⟨74, 45, 74, 54⟩) (.c (.int 10) ⟨74, 39, 74, 41⟩) (.loc 19 ⟨74, 60, 74, 64⟩) ⟨74, 39, 74, 64⟩) (.cons (.attr (.loc 25 ⟨74, 66, 74, 72⟩) 1 ⟨74, 66, 74, 78⟩) .nil)))) ⟨74, 17, 74, 79⟩) ⟨74, 4, 74, 14⟩ ⟨74, 4, 74, 79⟩)
 (.cons (.iff (.or (.cons (.cmp1 (.loc 30 ⟨75, 7, 75, 10⟩) .eq (.loc 18 ⟨75, 14, 75, 16⟩) ⟨75, 7, 75, 16⟩) (.cons (.cmp1 (.call (.glob 28 (.stat 131) ⟨75, 20, 75, 31⟩) (.cons (.loc 10 ⟨75, 32, 75, 36⟩) (.cons (.loc 30 ⟨75, 38, 75, 41⟩) .nil)) ⟨75, 20, 75, 42⟩) .ne (.call (.blt .len ⟨75, 46, 75, 49⟩) (.cons (.loc 10 ⟨75, 50, 75, 54⟩) .nil) ⟨75, 46, 75, 55⟩) ⟨75, 20, 75, 55⟩) .nil)) ⟨75, 7, 75, 55⟩)
 (.cons (.ret (.c .none ⟨76, 15, 76, 19⟩) ⟨76, 8, 76, 19⟩)
 .nil)
 .nil ⟨75, 4, 76, 19⟩)
 (.cons (.ret (.call (.glob 32 (.stat 103) ⟨77, 11, 77, 15⟩) (.cons (.ite (.loc 27 ⟨77, 26, 77, 34⟩) (.neg (.loc 20 ⟨77, 17, 77, 22⟩) ⟨77, 16, 77, 22⟩) (.loc 20 ⟨77, 40, 77, 45⟩) ⟨77, 16, 77, 45⟩) (.cons (.attr (.loc 25 ⟨77, 47, 77, 53⟩) 1 ⟨77, 47, 77, 59⟩) .nil)) ⟨77, 11, 77, 60⟩) ⟨77, 4, 77, 60⟩)
 .nil)))))))
noncomputable def a_number_text : Ad := 152
noncomputable def p_number_text : List Nm := [14]
noncomputable def b_number_text : Ss :=
 (.cons (.assignTup [(33, ⟨79, 4, 79, 8⟩), (20, ⟨79, 10, 79, 15⟩)] 0 (.tup (.cons (.call (.blt .abs ⟨79, 19, 79, 22⟩) (.cons (.loc 14 ⟨79, 23, 79, 24⟩) .nil) ⟨79, 19, 79, 25⟩) (.cons (.list .nil ⟨79, 27, 79, 29⟩) .nil)) 0 ⟨79, 18, 79, 30⟩) ⟨79, 4, 79, 15⟩ ⟨79, 4, 79, 30⟩)
 (.cons (.whil (.cmp1 (.loc 33 ⟨80, 10, 80, 14⟩) .gt (.c (.int 9) ⟨80, 17, 80, 18⟩) ⟨80, 10, 80, 18⟩)
 (.cons (.expr (.meth (.loc 20 ⟨81, 8, 81, 13⟩) 34 (.cons (.bin .add (.c (.int 48) ⟨81, 21, 81, 23⟩) (.bin .mod (.loc 33 ⟨81, 26, 81, 30⟩) (.c (.int 10) ⟨81, 33, 81, 35⟩) ⟨81, 26, 81, 35⟩) ⟨81, 21, 81, 35⟩) .nil) ⟨81, 8, 81, 20⟩ ⟨81, 8, 81, 36⟩) ⟨81, 8, 81, 36⟩)
 (.cons (.assign 33 (.bin .fdiv (.loc 33 ⟨82, 15, 82, 19⟩) (.c (.int 10) ⟨82, 23, 82, 25⟩) ⟨82, 15, 82, 25⟩) ⟨82, 8, 82, 12⟩ ⟨82, 8, 82, 25⟩)
 .nil)) ⟨80, 4, 82, 25⟩)
 (.cons (.expr (.meth (.loc 20 ⟨83, 4, 83, 9⟩) 34 (.cons (.bin .add (.c (.int 48) ⟨83, 17, 83, 19⟩) (.loc 33 ⟨83, 22, 83, 26⟩) ⟨83, 17, 83, 26⟩) .nil) ⟨83, 4, 83, 16⟩ ⟨83, 4, 83, 27⟩) ⟨83, 4, 83, 27⟩)
 (.cons (.iff (.cmp1 (.loc 14 ⟨84, 7, 84, 8⟩) .lt (.c (.int 0) ⟨84, 11, 84, 12⟩) ⟨84, 7, 84, 12⟩)
 (.cons (.expr (.meth (.loc 20 ⟨85, 8, 85, 13⟩) 34 (.cons (.c (.int 45) ⟨85, 21, 85, 23⟩) .nil) ⟨85, 8, 85, 20⟩ ⟨85, 8, 85, 24⟩) ⟨85, 8, 85, 24⟩)
 .nil)
 .nil ⟨84, 4, 85, 24⟩)
 (.cons (.expr (.meth (.loc 20 ⟨86, 4, 86, 9⟩) 35 .nil ⟨86, 4, 86, 17⟩ ⟨86, 4, 86, 19⟩) ⟨86, 4, 86, 19⟩)
 (.cons (.ret (.call (.blt .bytes ⟨87, 11, 87, 16⟩) (.cons (.loc 20 ⟨87, 17, 87, 22⟩) .nil) ⟨87, 11, 87, 23⟩) ⟨87, 4, 87, 23⟩)
 .nil))))))
noncomputable def a_to_text : Ad := 159
noncomputable def p_to_text : List Nm := [11]
noncomputable def b_to_text : Ss :=
 (.cons (.iff (.call (.blt .isinstance ⟨89, 7, 89, 17⟩) (.cons (.loc 11 ⟨89, 18, 89, 23⟩) (.cons (.blt .bytes ⟨89, 25, 89, 30⟩) .nil)) ⟨89, 7, 89, 31⟩)
 (.cons (.ret (.loc 11 ⟨90, 15, 90, 20⟩) ⟨90, 8, 90, 20⟩)
 .nil)
 .nil ⟨89, 4, 90, 20⟩)
 (.cons (.iff (.call (.glob 36 (.stat 96) ⟨91, 7, 91, 16⟩) (.cons (.loc 11 ⟨91, 17, 91, 22⟩) .nil) ⟨91, 7, 91, 23⟩)
 (.cons (.ret (.call (.glob 37 (.stat 152) ⟨92, 15, 92, 26⟩) (.cons (.loc 11 ⟨92, 27, 92, 32⟩) .nil) ⟨92, 15, 92, 33⟩) ⟨92, 8, 92, 33⟩)
 .nil)
 .nil ⟨91, 4, 92, 33⟩)
 (.cons (.ret (.c .none ⟨93, 11, 93, 15⟩) ⟨93, 4, 93, 15⟩)
 .nil)))
noncomputable def a_c_text : Ad := 166
noncomputable def p_c_text : List Nm := [10]
noncomputable def b_c_text : Ss :=
 (.cons (.assign 18 (.c (.int 0) ⟨95, 9, 95, 10⟩) ⟨95, 4, 95, 6⟩ ⟨95, 4, 95, 10⟩)
 (.cons (.whil (.and (.cons (.cmp1 (.loc 18 ⟨96, 10, 96, 12⟩) .lt (.call (.blt .len ⟨96, 15, 96, 18⟩) (.cons (.loc 10 ⟨96, 19, 96, 23⟩) .nil) ⟨96, 15, 96, 24⟩) ⟨96, 10, 96, 24⟩) (.cons (.cmp1 (.idx (.loc 10 ⟨96, 29, 96, 33⟩) (.loc 18 ⟨96, 34, 96, 36⟩) ⟨96, 29, 96, 37⟩) .ne (.c (.int 0) ⟨96, 41, 96, 42⟩) ⟨96, 29, 96, 42⟩) .nil)) ⟨96, 10, 96, 42⟩)
 (.cons (.assign 18 (.bin .add (.loc 18 ⟨97, 13, 97, 15⟩) (.c (.int 1) ⟨97, 18, 97, 19⟩) ⟨97, 13, 97, 19⟩) ⟨97, 8, 97, 10⟩ ⟨97, 8, 97, 19⟩)
 .nil) ⟨96, 4, 97, 19⟩)
 (.cons (.ret (.slice (.loc 10 ⟨98, 11, 98, 15⟩) .no (.loc 18 ⟨98, 17, 98, 19⟩) ⟨98, 16, 98, 19⟩ ⟨98, 11, 98, 20⟩) ⟨98, 4, 98, 20⟩)
 .nil)))
noncomputable def a_first_line : Ad := 173
noncomputable def p_first_line : List Nm := [10]
noncomputable def b_first_line : Ss :=
 (.cons (.assign 18 (.c (.int 0) ⟨100, 9, 100, 10⟩) ⟨100, 4, 100, 6⟩ ⟨100, 4, 100, 10⟩)
 (.cons (.whil (.and (.cons (.cmp1 (.loc 18 ⟨101, 10, 101, 12⟩) .lt (.call (.blt .len ⟨101, 15, 101, 18⟩) (.cons (.loc 10 ⟨101, 19, 101, 23⟩) .nil) ⟨101, 15, 101, 24⟩) ⟨101, 10, 101, 24⟩) (.cons (.cmp1 (.idx (.loc 10 ⟨101, 29, 101, 33⟩) (.loc 18 ⟨101, 34, 101, 36⟩) ⟨101, 29, 101, 37⟩) .ne (.c (.int 10) ⟨101, 41, 101, 43⟩) ⟨101, 29, 101, 43⟩) (.cons (.cmp1 (.idx (.loc 10 ⟨101, 49, 101, 53⟩) (.loc 18 ⟨101, 54, 101, 56⟩) ⟨101, 49, 101, 57⟩) .ne (.c (.int 13) ⟨101, 61, 101, 63⟩) ⟨101, 49, 101, 63⟩) .nil))) ⟨101, 10, 101, 64⟩)
 (.cons (.assign 18 (.bin .add (.loc 18 ⟨102, 13, 102, 15⟩) (.c (.int 1) ⟨102, 18, 102, 19⟩) ⟨102, 13, 102, 19⟩) ⟨102, 8, 102, 10⟩ ⟨102, 8, 102, 19⟩)
 .nil) ⟨101, 4, 102, 19⟩)
 (.cons (.ret (.slice (.loc 10 ⟨103, 11, 103, 15⟩) .no (.loc 18 ⟨103, 17, 103, 19⟩) ⟨103, 16, 103, 19⟩ ⟨103, 11, 103, 20⟩) ⟨103, 4, 103, 20⟩)
 .nil)))
noncomputable def a_chunk_id : Ad := 180
noncomputable def p_chunk_id : List Nm := [38, 39]
noncomputable def b_chunk_id : Ss :=
 (.cons (.assign 38 (.call (.glob 40 (.stat 166) ⟨105, 13, 105, 19⟩) (.cons (.loc 38 ⟨105, 20, 105, 26⟩) .nil) ⟨105, 13, 105, 27⟩) ⟨105, 4, 105, 10⟩ ⟨105, 4, 105, 27⟩)
 (.cons (.iff (.cmp1 (.slice (.loc 38 ⟨106, 7, 106, 13⟩) .no (.c (.int 1) ⟨106, 15, 106, 16⟩) ⟨106, 14, 106, 16⟩ ⟨106, 7, 106, 17⟩) .eq (.c (.bytes [61]) ⟨106, 21, 106, 25⟩) ⟨106, 7, 106, 25⟩)
 (.cons (.ret (.slice (.loc 38 ⟨107, 15, 107, 21⟩) (.c (.int 1) ⟨107, 22, 107, 23⟩) (.loc 39 ⟨107, 24, 107, 28⟩) ⟨107, 22, 107, 28⟩ ⟨107, 15, 107, 29⟩) ⟨107, 8, 107, 29⟩)
 .nil)
 .nil ⟨106, 4, 107, 29⟩)
 (.cons (.iff (.cmp1 (.slice (.loc 38 ⟨108, 7, 108, 13⟩) .no (.c (.int 1) ⟨108, 15, 108, 16⟩) ⟨108, 14, 108, 16⟩ ⟨108, 7, 108, 17⟩) .eq (.c (.bytes [64]) ⟨108, 21, 108, 25⟩) ⟨108, 7, 108, 25⟩)
 (.cons (.assignTup [(41, ⟨109, 8, 109, 12⟩), (42, ⟨109, 14, 109, 18⟩)] 0 (.tup (.cons (.call (.blt .max ⟨109, 22, 109, 25⟩) (.cons (.bin .sub (.loc 39 ⟨109, 26, 109, 30⟩) (.c (.int 8) ⟨109, 33, 109, 34⟩) ⟨109, 26, 109, 34⟩) (.cons (.c (.int 0) ⟨109, 36, 109, 37⟩) .nil)) ⟨109, 22, 109, 38⟩) (.cons (.slice (.loc 38 ⟨109, 40, 109, 46⟩) (.c (.int 1) ⟨109, 47, 109, 48⟩) .no ⟨109, 47, 109, 49⟩ ⟨109, 40, 109, 50⟩) .nil)) 0 ⟨109, 21, 109, 51⟩) ⟨109, 8, 109, 18⟩ ⟨109, 8, 109, 51⟩)
 (.cons (.ret (.ite (.cmp1 (.call (.blt .len ⟨110, 51, 110, 54⟩) (.cons (.loc 42 ⟨110, 55, 110, 59⟩) .nil) ⟨110, 51, 110, 60⟩) .gt (.loc 41 ⟨110, 63, 110, 67⟩) ⟨110, 51, 110, 67⟩) (.bin .add (.c (.bytes [46, 46, 46]) ⟨110, 15, 110, 21⟩) (.slice (.loc 42 ⟨110, 24, 110, 28⟩) (.bin .sub (.call (.blt .len ⟨110, 29, 110, 32⟩) (.cons (.loc 42 ⟨110, 33, 110, 37⟩) .nil) ⟨110, 29, 110, 38⟩) (.loc 41 ⟨110, 41, 110, 45⟩) ⟨110, 29, 110, 45⟩) .no ⟨110, 29, 110, 46⟩ ⟨110, 24, 110, 47⟩) ⟨110, 15, 110, 47⟩) (.loc 42 ⟨110, 73, 110, 77⟩) ⟨110, 15, 110, 77⟩) ⟨110, 8, 110, 77⟩)
 .nil))
 .nil ⟨108, 4, 110, 77⟩)
 (.cons (.assignTup [(43, ⟨111, 4, 111, 8⟩), (41, ⟨111, 10, 111, 14⟩)] 0 (.tup (.cons (.call (.glob 44 (.stat 173) ⟨111, 18, 111, 28⟩) (.cons (.loc 38 ⟨111, 29, 111, 35⟩) .nil) ⟨111, 18, 111, 36⟩) (.cons (.call (.blt .max ⟨111, 38, 111, 41⟩) (.cons (.bin .sub (.loc 39 ⟨111, 42, 111, 46⟩) (.c (.int 17) ⟨111, 49, 111, 51⟩) ⟨111, 42, 111, 51⟩) (.cons (.c (.int 0) ⟨111, 53, 111, 54⟩) .nil)) ⟨111, 38, 111, 55⟩) .nil)) 0 ⟨111, 17, 111, 56⟩) ⟨111, 4, 111, 14⟩ ⟨111, 4, 111, 56⟩)
 (.cons (.iff (.cmp1 (.call (.blt .len ⟨112, 7, 112, 10⟩) (.cons (.loc 43 ⟨112, 11, 112, 15⟩) .nil) ⟨112, 7, 112, 16⟩) .gt (.loc 41 ⟨112, 19, 112, 23⟩) ⟨112, 7, 112, 23⟩)
 (.cons (.assign 43 (.slice (.loc 43 ⟨113, 15, 113, 19⟩) .no (.loc 41 ⟨113, 21, 113, 25⟩) ⟨113, 20, 113, 25⟩ ⟨113, 15, 113, 26⟩) ⟨113, 8, 113, 12⟩ ⟨113, 8, 113, 26⟩)
 .nil)
 .nil ⟨112, 4, 113, 26⟩)
 (.cons (.iff (.cmp1 (.call (.blt .len ⟨114, 7, 114, 10⟩) (.cons (.loc 43 ⟨114, 11, 114, 15⟩) .nil) ⟨114, 7, 114, 16⟩) .lt (.call (.blt .len ⟨114, 19, 114, 22⟩) (.cons (.loc 38 ⟨114, 23, 114, 29⟩) .nil) ⟨114, 19, 114, 30⟩) ⟨114, 7, 114, 30⟩)
 (.cons (.assign 43 (.bin .add (.loc 43 ⟨115, 15, 115, 19⟩) (.c (.bytes [46, 46, 46]) ⟨115, 22, 115, 28⟩) ⟨115, 15, 115, 28⟩) ⟨115, 8, 115, 12⟩ ⟨115, 8, 115, 28⟩)
 .nil)
 .nil ⟨114, 4, 115, 28⟩)
 (.cons (.ret (.bin .add (.bin .add (.c (.bytes [91, 115, 116, 114, 105, 110, 103, 32, 34]) ⟨116, 11, 116, 23⟩) (.loc 43 ⟨116, 26, 116, 30⟩) ⟨116, 11, 116, 30⟩) (.c (.bytes [34, 93]) ⟨116, 33, 116, 38⟩) ⟨116, 11, 116, 38⟩) ⟨116, 4, 116, 38⟩)
 .nil)))))))
noncomputable def a_is_digit : Ad := 189
noncomputable def p_is_digit : List Nm := [45]
noncomputable def b_is_digit : Ss :=
 (.cons (.ret (.cmp2 (.c (.int 48) ⟨150, 11, 150, 13⟩) .le (.loc 45 ⟨150, 17, 150, 21⟩) .le (.c (.int 57) ⟨150, 25, 150, 27⟩) ⟨150, 11, 150, 27⟩) ⟨150, 4, 150, 27⟩)
 .nil)
noncomputable def a_is_letter : Ad := 196
noncomputable def p_is_letter : List Nm := [45]
noncomputable def b_is_letter : Ss :=
 (.cons (.ret (.or (.cons (.cmp2 (.c (.int 65) ⟨152, 11, 152, 13⟩) .le (.loc 45 ⟨152, 17, 152, 21⟩) .le (.c (.int 90) ⟨152, 25, 152, 27⟩) ⟨152, 11, 152, 27⟩) (.cons (.cmp2 (.c (.int 97) ⟨152, 31, 152, 33⟩) .le (.loc 45 ⟨152, 37, 152, 41⟩) .le (.c (.int 122) ⟨152, 45, 152, 48⟩) ⟨152, 31, 152, 48⟩) (.cons (.cmp1 (.loc 45 ⟨152, 52, 152, 56⟩) .eq (.glob 46 (.int 95) ⟨152, 60, 152, 70⟩) ⟨152, 52, 152, 70⟩) .nil))) ⟨152, 11, 152, 70⟩) ⟨152, 4, 152, 70⟩)
 .nil)
noncomputable def a_is_name_sign : Ad := 203
noncomputable def p_is_name_sign : List Nm := [45]
noncomputable def b_is_name_sign : Ss :=
 (.cons (.ret (.or (.cons (.call (.glob 47 (.stat 196) ⟨154, 11, 154, 20⟩) (.cons (.loc 45 ⟨154, 21, 154, 25⟩) .nil) ⟨154, 11, 154, 26⟩) (.cons (.call (.glob 48 (.stat 189) ⟨154, 30, 154, 38⟩) (.cons (.loc 45 ⟨154, 39, 154, 43⟩) .nil) ⟨154, 30, 154, 44⟩) .nil)) ⟨154, 11, 154, 44⟩) ⟨154, 4, 154, 44⟩)
 .nil)
noncomputable def a_is_blank : Ad := 210
noncomputable def p_is_blank : List Nm := [45]
noncomputable def b_is_blank : Ss :=
 (.cons (.ret (.or (.cons (.cmp1 (.loc 45 ⟨156, 11, 156, 15⟩) .eq (.c (.int 32) ⟨156, 19, 156, 21⟩) ⟨156, 11, 156, 21⟩) (.cons (.cmp2 (.c (.int 9) ⟨156, 25, 156, 26⟩) .le (.loc 45 ⟨156, 30, 156, 34⟩) .le (.c (.int 13) ⟨156, 38, 156, 40⟩) ⟨156, 25, 156, 40⟩) .nil)) ⟨156, 11, 156, 40⟩) ⟨156, 4, 156, 40⟩)
 .nil)
noncomputable def a_is_control : Ad := 217
noncomputable def p_is_control : List Nm := [45]
noncomputable def b_is_control : Ss :=
 (.cons (.ret (.or (.cons (.cmp2 (.c (.int 0) ⟨159, 11, 159, 12⟩) .le (.loc 45 ⟨159, 16, 159, 20⟩) .lt (.c (.int 32) ⟨159, 23, 159, 25⟩) ⟨159, 11, 159, 25⟩) (.cons (.cmp1 (.loc 45 ⟨159, 29, 159, 33⟩) .eq (.c (.int 127) ⟨159, 37, 159, 40⟩) ⟨159, 29, 159, 40⟩) .nil)) ⟨159, 11, 159, 40⟩) ⟨159, 4, 159, 40⟩)
 .nil)
noncomputable def a_is_newline : Ad := 224
noncomputable def p_is_newline : List Nm := [45]
noncomputable def b_is_newline : Ss :=
 (.cons (.ret (.cmp1 (.loc 45 ⟨161, 11, 161, 15⟩) .inn (.tup (.cons (.glob 49 (.int 10) ⟨161, 20, 161, 27⟩) (.cons (.glob 50 (.int 13) ⟨161, 29, 161, 35⟩) .nil)) 0 ⟨161, 19, 161, 36⟩) ⟨161, 11, 161, 36⟩) ⟨161, 4, 161, 36⟩)
 .nil)
noncomputable def a_escaped_sign : Ad := 231
noncomputable def p_escaped_sign : List Nm := [45]
noncomputable def b_escaped_sign : Ss :=
 (.cons (.assign 18 (.meth (.c (.bytes [97, 98, 102, 110, 114, 116, 118]) ⟨163, 9, 163, 19⟩) 51 (.cons (.call (.blt .bytes ⟨163, 25, 163, 30⟩) (.cons (.list (.cons (.loc 45 ⟨163, 32, 163, 36⟩) .nil) ⟨163, 31, 163, 37⟩) .nil) ⟨163, 25, 163, 38⟩) .nil) ⟨163, 9, 163, 24⟩ ⟨163, 9, 163, 39⟩) ⟨163, 4, 163, 6⟩ ⟨163, 4, 163, 39⟩)
 (.cons (.ret (.ite (.cmp1 (.loc 18 ⟨164, 19, 164, 21⟩) .lt (.c (.int 0) ⟨164, 24, 164, 25⟩) ⟨164, 19, 164, 25⟩) (.c .none ⟨164, 11, 164, 15⟩) (.idx (.c (.bytes [7, 8, 12, 10, 13, 9, 11]) ⟨164, 31, 164, 56⟩) (.loc 18 ⟨164, 57, 164, 59⟩) ⟨164, 31, 164, 60⟩) ⟨164, 11, 164, 60⟩) ⟨164, 4, 164, 60⟩)
 .nil))
noncomputable def a_reserved_kinds : Ad := 238
noncomputable def p_reserved_kinds : List Nm := []
noncomputable def b_reserved_kinds : Ss :=
 (.cons (.assign 52 (.dict0 ⟨166, 12, 166, 14⟩) ⟨166, 4, 166, 9⟩ ⟨166, 4, 166, 14⟩)
 (.cons (.forEnum 18 53 ⟨167, 8, 167, 10⟩ ⟨167, 12, 167, 16⟩ 0 (.glob 54 (.stat 181) ⟨167, 30, 167, 38⟩)
 (.cons (.assignIdx (.loc 52 ⟨168, 8, 168, 13⟩) (.loc 53 ⟨168, 14, 168, 18⟩) (.bin .add (.glob 55 (.int 257) ⟨168, 22, 168, 36⟩) (.loc 18 ⟨168, 39, 168, 41⟩) ⟨168, 22, 168, 41⟩) ⟨168, 8, 168, 19⟩ ⟨168, 8, 168, 41⟩)
 .nil) ⟨167, 8, 167, 16⟩ ⟨167, 20, 167, 39⟩ ⟨167, 20, 167, 29⟩ ⟨167, 4, 168, 41⟩)
 (.cons (.ret (.loc 52 ⟨169, 11, 169, 16⟩) ⟨169, 4, 169, 16⟩)
 .nil)))
noncomputable def a_token_text : Ad := 245
noncomputable def p_token_text : List Nm := [56]
noncomputable def b_token_text : Ss :=
 (.cons (.iff (.cmp1 (.loc 56 ⟨171, 7, 171, 11⟩) .lt (.glob 55 (.int 257) ⟨171, 14, 171, 28⟩) ⟨171, 7, 171, 28⟩)
 (.cons (.iff (.call (.glob 57 (.stat 217) ⟨172, 11, 172, 21⟩) (.cons (.loc 56 ⟨172, 22, 172, 26⟩) .nil) ⟨172, 11, 172, 27⟩)
 (.cons (.ret (.bin .add (.bin .add (.c (.bytes [99, 104, 97, 114, 40]) ⟨173, 19, 173, 27⟩) (.call (.glob 58 (.stat 159) ⟨173, 30, 173, 37⟩) (.cons (.loc 56 ⟨173, 38, 173, 42⟩) .nil) ⟨173, 30, 173, 43⟩) ⟨173, 19, 173, 43⟩) (.c (.bytes [41]) ⟨173, 46, 173, 50⟩) ⟨173, 19, 173, 50⟩) ⟨173, 12, 173, 50⟩)
 .nil)
 .nil ⟨172, 8, 173, 50⟩)
 (.cons (.ret (.call (.blt .bytes ⟨174, 15, 174, 20⟩) (.cons (.list (.cons (.loc 56 ⟨174, 22, 174, 26⟩) .nil) ⟨174, 21, 174, 27⟩) .nil) ⟨174, 15, 174, 28⟩) ⟨174, 8, 174, 28⟩)
 .nil))
 .nil ⟨171, 4, 174, 28⟩)
 (.cons (.assign 18 (.bin .sub (.loc 56 ⟨175, 9, 175, 13⟩) (.glob 55 (.int 257) ⟨175, 16, 175, 30⟩) ⟨175, 9, 175, 30⟩) ⟨175, 4, 175, 6⟩ ⟨175, 4, 175, 30⟩)
 (.cons (.ret (.ite (.cmp1 (.loc 18 ⟨176, 27, 176, 29⟩) .lt (.call (.blt .len ⟨176, 32, 176, 35⟩) (.cons (.glob 54 (.stat 181) ⟨176, 36, 176, 44⟩) .nil) ⟨176, 32, 176, 45⟩) ⟨176, 27, 176, 45⟩) (.idx (.glob 54 (.stat 181) ⟨176, 11, 176, 19⟩) (.loc 18 ⟨176, 20, 176, 22⟩) ⟨176, 11, 176, 23⟩) (.idx (.glob 59 (.stat 182) ⟨176, 51, 176, 62⟩) (.bin .sub (.loc 18 ⟨176, 63, 176, 65⟩) (.call (.blt .len ⟨176, 68, 176, 71⟩) (.cons (.glob 54 (.stat 181) ⟨176, 72, 176, 80⟩) .nil) ⟨176, 68, 176, 81⟩) ⟨176, 63, 176, 81⟩) ⟨176, 51, 176, 82⟩) ⟨176, 11, 176, 82⟩) ⟨176, 4, 176, 82⟩)
 .nil)))
noncomputable def a_Token___init__ : Ad := 259
noncomputable def p_Token___init__ : List Nm := [0, 56, 11]
noncomputable def b_Token___init__ : Ss :=
 (.cons (.assignAttr (.loc 0 ⟨180, 8, 180, 12⟩) 56 (.loc 56 ⟨180, 20, 180, 24⟩) ⟨180, 8, 180, 17⟩ ⟨180, 8, 180, 24⟩)
 (.cons (.assignAttr (.loc 0 ⟨181, 8, 181, 12⟩) 11 (.loc 11 ⟨181, 21, 181, 26⟩) ⟨181, 8, 181, 18⟩ ⟨181, 8, 181, 26⟩)
 .nil))
noncomputable def a_Lexer___init__ : Ad := 280
noncomputable def p_Lexer___init__ : List Nm := [0, 10, 60, 25]
noncomputable def b_Lexer___init__ : Ss :=
 (.cons (.assignAttr (.loc 0 ⟨185, 8, 185, 12⟩) 10 (.loc 10 ⟨185, 20, 185, 24⟩) ⟨185, 8, 185, 17⟩ ⟨185, 8, 185, 24⟩)
 (.cons (.assignAttr (.loc 0 ⟨186, 8, 186, 12⟩) 38 (.loc 60 ⟨186, 22, 186, 27⟩) ⟨186, 8, 186, 19⟩ ⟨186, 8, 186, 27⟩)
 (.cons (.assignAttr (.loc 0 ⟨187, 8, 187, 12⟩) 60 (.call (.glob 61 (.stat 180) ⟨187, 21, 187, 29⟩) (.cons (.loc 60 ⟨187, 30, 187, 35⟩) (.cons (.glob 62 (.int 80) ⟨187, 37, 187, 48⟩) .nil)) ⟨187, 21, 187, 49⟩) ⟨187, 8, 187, 18⟩ ⟨187, 8, 187, 49⟩)
 (.cons (.assignAttr (.loc 0 ⟨188, 8, 188, 12⟩) 25 (.loc 25 ⟨188, 22, 188, 28⟩) ⟨188, 8, 188, 19⟩ ⟨188, 8, 188, 28⟩)
 (.cons (.assignAttr (.loc 0 ⟨189, 8, 189, 12⟩) 52 (.call (.glob 63 (.stat 238) ⟨189, 21, 189, 35⟩) .nil ⟨189, 21, 189, 37⟩) ⟨189, 8, 189, 18⟩ ⟨189, 8, 189, 37⟩)
 (.cons (.assignAttr (.loc 0 ⟨190, 8, 190, 12⟩) 18 (.c (.int 0) ⟨190, 18, 190, 19⟩) ⟨190, 8, 190, 15⟩ ⟨190, 8, 190, 19⟩)
 (.cons (.assignAttr (.loc 0 ⟨191, 8, 191, 12⟩) 45 (.ite (.cmp1 (.call (.blt .len ⟨191, 31, 191, 34⟩) (.cons (.loc 10 ⟨191, 35, 191, 39⟩) .nil) ⟨191, 31, 191, 40⟩) .gt (.c (.int 0) ⟨191, 43, 191, 44⟩) ⟨191, 31, 191, 44⟩) (.idx (.loc 10 ⟨191, 20, 191, 24⟩) (.c (.int 0) ⟨191, 25, 191, 26⟩) ⟨191, 20, 191, 27⟩) (.glob 64 (.int (-1)) ⟨191, 50, 191, 61⟩) ⟨191, 20, 191, 61⟩) ⟨191, 8, 191, 17⟩ ⟨191, 8, 191, 61⟩)
 (.cons (.assignAttr (.loc 0 ⟨192, 8, 192, 12⟩) 43 (.c (.int 1) ⟨192, 20, 192, 21⟩) ⟨192, 8, 192, 17⟩ ⟨192, 8, 192, 21⟩)
 (.cons (.assignAttr (.loc 0 ⟨193, 8, 193, 12⟩) 65 (.c (.int 1) ⟨193, 25, 193, 26⟩) ⟨193, 8, 193, 22⟩ ⟨193, 8, 193, 26⟩)
 (.cons (.assignAttr (.loc 0 ⟨194, 8, 194, 12⟩) 66 (.call (.blt .bytearray ⟨194, 22, 194, 31⟩) .nil ⟨194, 22, 194, 33⟩) ⟨194, 8, 194, 19⟩ ⟨194, 8, 194, 33⟩)
 (.cons (.assignAttr (.loc 0 ⟨195, 8, 195, 12⟩) 67 (.call (.glob 68 (.stat 262) ⟨195, 23, 195, 28⟩) (.cons (.glob 69 (.int 287) ⟨195, 29, 195, 35⟩) (.cons (.c .none ⟨195, 37, 195, 41⟩) .nil)) ⟨195, 23, 195, 42⟩) ⟨195, 8, 195, 20⟩ ⟨195, 8, 195, 42⟩)
 (.cons (.assignAttr (.loc 0 ⟨196, 8, 196, 12⟩) 70 (.c .none ⟨196, 21, 196, 25⟩) ⟨196, 8, 196, 18⟩ ⟨196, 8, 196, 25⟩)
 .nil))))))))))))
noncomputable def a_Lexer_next : Ad := 287
noncomputable def p_Lexer_next : List Nm := [0]
noncomputable def b_Lexer_next : Ss :=
 (.cons (.assignAttr (.loc 0 ⟨199, 8, 199, 12⟩) 65 (.attr (.loc 0 ⟨199, 25, 199, 29⟩) 43 ⟨199, 25, 199, 34⟩) ⟨199, 8, 199, 22⟩ ⟨199, 8, 199, 34⟩)
 (.cons (.iff (.cmp1 (.attr (.loc 0 ⟨200, 11, 200, 15⟩) 70 ⟨200, 11, 200, 21⟩) .isNot (.c .none ⟨200, 29, 200, 33⟩) ⟨200, 11, 200, 33⟩)
 (.cons (.assignAttr (.loc 0 ⟨201, 12, 201, 16⟩) 67 (.attr (.loc 0 ⟨201, 27, 201, 31⟩) 70 ⟨201, 27, 201, 37⟩) ⟨201, 12, 201, 24⟩ ⟨201, 12, 201, 37⟩)
 (.cons (.assignAttr (.loc 0 ⟨202, 12, 202, 16⟩) 70 (.c .none ⟨202, 25, 202, 29⟩) ⟨202, 12, 202, 22⟩ ⟨202, 12, 202, 29⟩)
 .nil))
 (.cons (.assignAttr (.loc 0 ⟨204, 12, 204, 16⟩) 67 (.meth (.loc 0 ⟨204, 27, 204, 31⟩) 71 .nil ⟨204, 27, 204, 36⟩ ⟨204, 27, 204, 38⟩) ⟨204, 12, 204, 24⟩ ⟨204, 12, 204, 38⟩)
 .nil) ⟨200, 8, 204, 38⟩)
 (.cons (.ret (.attr (.loc 0 ⟨205, 15, 205, 19⟩) 67 ⟨205, 15, 205, 27⟩) ⟨205, 8, 205, 27⟩)
 .nil)))
noncomputable def a_Lexer_lookahead : Ad := 294
noncomputable def p_Lexer_lookahead : List Nm := [0]
noncomputable def b_Lexer_lookahead : Ss :=
 (.cons (.iff (.cmp1 (.attr (.loc 0 ⟨208, 11, 208, 15⟩) 70 ⟨208, 11, 208, 21⟩) .iss (.c .none ⟨208, 25, 208, 29⟩) ⟨208, 11, 208, 29⟩)
 (.cons (.assignAttr (.loc 0 ⟨209, 12, 209, 16⟩) 70 (.meth (.loc 0 ⟨209, 25, 209, 29⟩) 71 .nil ⟨209, 25, 209, 34⟩ ⟨209, 25, 209, 36⟩) ⟨209, 12, 209, 22⟩ ⟨209, 12, 209, 36⟩)
 .nil)
 .nil ⟨208, 8, 209, 36⟩)
 (.cons (.ret (.attr (.loc 0 ⟨210, 15, 210, 19⟩) 70 ⟨210, 15, 210, 25⟩) ⟨210, 8, 210, 25⟩)
 .nil))
noncomputable def a_Lexer_error : Ad := 301
noncomputable def p_Lexer_error : List Nm := [0, 10, 56]
noncomputable def b_Lexer_error : Ss :=
 (.cons (.assign 72 (.bin .add (.bin .add (.bin .add (.bin .add (.attr (.loc 0 ⟨213, 18, 213, 22⟩) 60 ⟨213, 18, 213, 28⟩) (.c (.bytes [58]) ⟨213, 31, 213, 35⟩) ⟨213, 18, 213, 35⟩) (.call (.glob 58 (.stat 159) ⟨213, 38, 213, 45⟩) (.cons (.attr (.loc 0 ⟨213, 46, 213, 50⟩) 43 ⟨213, 46, 213, 55⟩) .nil) ⟨213, 38, 213, 56⟩) ⟨213, 18, 213, 56⟩) (.c (.bytes [58, 32]) ⟨213, 59, 213, 64⟩) ⟨213, 18, 213, 64⟩) (.loc 10 ⟨213, 67, 213, 71⟩) ⟨213, 18, 213, 71⟩) ⟨213, 8, 213, 15⟩ ⟨213, 8, 213, 71⟩)
 (.cons (.iff (.and (.cons (.cmp1 (.loc 56 ⟨214, 11, 214, 15⟩) .isNot (.c .none ⟨214, 23, 214, 27⟩) ⟨214, 11, 214, 27⟩) (.cons (.cmp1 (.loc 56 ⟨214, 32, 214, 36⟩) .ne (.c (.int 0) ⟨214, 40, 214, 41⟩) ⟨214, 32, 214, 41⟩) .nil)) ⟨214, 11, 214, 41⟩)
 (.cons (.assign 72 (.bin .add (.bin .add (.bin .add (.loc 72 ⟨215, 22, 215, 29⟩) (.c (.bytes [32, 110, 101, 97, 114, 32, 39]) ⟨215, 32, 215, 42⟩) ⟨215, 22, 215, 42⟩) (.meth (.loc 0 ⟨215, 45, 215, 49⟩) 73 (.cons (.loc 56 ⟨215, 60, 215, 64⟩) .nil) ⟨215, 45, 215, 59⟩ ⟨215, 45, 215, 65⟩) ⟨215, 22, 215, 65⟩) (.c (.bytes [39]) ⟨215, 68, 215, 72⟩) ⟨215, 22, 215, 72⟩) ⟨215, 12, 215, 19⟩ ⟨215, 12, 215, 72⟩)
 .nil)
 .nil ⟨214, 8, 215, 72⟩)
 (.cons (.raise (.call (.glob 74 (.stat 87) ⟨216, 14, 216, 28⟩) (.cons (.loc 72 ⟨216, 29, 216, 36⟩) .nil) ⟨216, 14, 216, 37⟩) ⟨216, 8, 216, 37⟩)
 .nil)))
noncomputable def a_Lexer_syntax_error : Ad := 308
noncomputable def p_Lexer_syntax_error : List Nm := [0, 10]
noncomputable def b_Lexer_syntax_error : Ss :=
 (.cons (.expr (.meth (.loc 0 ⟨219, 8, 219, 12⟩) 75 (.cons (.loc 10 ⟨219, 19, 219, 23⟩) (.cons (.attr (.attr (.loc 0 ⟨219, 25, 219, 29⟩) 67 ⟨219, 25, 219, 37⟩) 56 ⟨219, 25, 219, 42⟩) .nil)) ⟨219, 8, 219, 18⟩ ⟨219, 8, 219, 43⟩) ⟨219, 8, 219, 43⟩)
 .nil)
noncomputable def a_Lexer_near_text : Ad := 315
noncomputable def p_Lexer_near_text : List Nm := [0, 56]
noncomputable def b_Lexer_near_text : Ss :=
 (.cons (.iff (.cmp1 (.loc 56 ⟨222, 11, 222, 15⟩) .inn (.tup (.cons (.glob 76 (.int 285) ⟨222, 20, 222, 27⟩) (.cons (.glob 77 (.int 286) ⟨222, 29, 222, 38⟩) (.cons (.glob 78 (.int 284) ⟨222, 40, 222, 49⟩) .nil))) 0 ⟨222, 19, 222, 50⟩) ⟨222, 11, 222, 50⟩)
 (.cons (.ret (.call (.glob 40 (.stat 166) ⟨223, 19, 223, 25⟩) (.cons (.call (.blt .bytes ⟨223, 26, 223, 31⟩) (.cons (.attr (.loc 0 ⟨223, 32, 223, 36⟩) 66 ⟨223, 32, 223, 43⟩) .nil) ⟨223, 26, 223, 44⟩) .nil) ⟨223, 19, 223, 45⟩) ⟨223, 12, 223, 45⟩)
 .nil)
 .nil ⟨222, 8, 223, 45⟩)
 (.cons (.ret (.call (.glob 79 (.stat 245) ⟨224, 15, 224, 25⟩) (.cons (.loc 56 ⟨224, 26, 224, 30⟩) .nil) ⟨224, 15, 224, 31⟩) ⟨224, 8, 224, 31⟩)
 .nil))
noncomputable def a_Lexer_move : Ad := 322
noncomputable def p_Lexer_move : List Nm := [0]
noncomputable def b_Lexer_move : Ss :=
 (.cons (.augAttr (.loc 0 ⟨227, 8, 227, 12⟩) 18 .add (.c (.int 1) ⟨227, 19, 227, 20⟩) ⟨227, 8, 227, 15⟩ ⟨227, 8, 227, 20⟩)
 (.cons (.assignAttr (.loc 0 ⟨228, 8, 228, 12⟩) 45 (.ite (.cmp1 (.attr (.loc 0 ⟨228, 42, 228, 46⟩) 18 ⟨228, 42, 228, 49⟩) .lt (.call (.blt .len ⟨228, 52, 228, 55⟩) (.cons (.attr (.loc 0 ⟨228, 56, 228, 60⟩) 10 ⟨228, 56, 228, 65⟩) .nil) ⟨228, 52, 228, 66⟩) ⟨228, 42, 228, 66⟩) (.idx (.attr (.loc 0 ⟨228, 20, 228, 24⟩) 10 ⟨228, 20, 228, 29⟩) (.attr (.loc 0 ⟨228, 30, 228, 34⟩) 18 ⟨228, 30, 228, 37⟩) ⟨228, 20, 228, 38⟩) (.glob 64 (.int (-1)) ⟨228, 72, 228, 83⟩) ⟨228, 20, 228, 83⟩) ⟨228, 8, 228, 17⟩ ⟨228, 8, 228, 83⟩)
 .nil))
noncomputable def a_Lexer_keep : Ad := 329
noncomputable def p_Lexer_keep : List Nm := [0, 45]
noncomputable def b_Lexer_keep : Ss :=
 (.cons (.iff (.cmp1 (.call (.blt .len ⟨231, 11, 231, 14⟩) (.cons (.attr (.loc 0 ⟨231, 15, 231, 19⟩) 66 ⟨231, 15, 231, 26⟩) .nil) ⟨231, 11, 231, 27⟩) .ge (.attr (.attr (.loc 0 ⟨231, 31, 231, 35⟩) 25 ⟨231, 31, 231, 42⟩) 10 ⟨231, 31, 231, 47⟩) ⟨231, 11, 231, 47⟩)
 (.cons (.expr (.meth (.loc 0 ⟨232, 12, 232, 16⟩) 75 (.cons (.c (.bytes [108, 101, 120, 105, 99, 97, 108, 32, 101, 108, 101, 109, 101, 110, 116, 32, 116, 111, 111, 32, 108, 111, 110, 103]) ⟨232, 23, 232, 50⟩) (.cons (.c .none ⟨232, 52, 232, 56⟩) .nil)) ⟨232, 12, 232, 22⟩ ⟨232, 12, 232, 57⟩) ⟨232, 12, 232, 57⟩)
 .nil)
 .nil ⟨231, 8, 232, 57⟩)
 (.cons (.expr (.meth (.attr (.loc 0 ⟨233, 8, 233, 12⟩) 66 ⟨233, 8, 233, 19⟩) 34 (.cons (.loc 45 ⟨233, 27, 233, 31⟩) .nil) ⟨233, 8, 233, 26⟩ ⟨233, 8, 233, 32⟩) ⟨233, 8, 233, 32⟩)
 .nil))
noncomputable def a_Lexer_keep_and_move : Ad := 336
noncomputable def p_Lexer_keep_and_move : List Nm := [0]
noncomputable def b_Lexer_keep_and_move : Ss :=
 (.cons (.expr (.meth (.loc 0 ⟨236, 8, 236, 12⟩) 80 (.cons (.attr (.loc 0 ⟨236, 18, 236, 22⟩) 45 ⟨236, 18, 236, 27⟩) .nil) ⟨236, 8, 236, 17⟩ ⟨236, 8, 236, 28⟩) ⟨236, 8, 236, 28⟩)
 (.cons (.expr (.meth (.loc 0 ⟨237, 8, 237, 12⟩) 81 .nil ⟨237, 8, 237, 17⟩ ⟨237, 8, 237, 19⟩) ⟨237, 8, 237, 19⟩)
 .nil))
noncomputable def a_Lexer_keep_if : Ad := 343
noncomputable def p_Lexer_keep_if : List Nm := [0, 82]
noncomputable def b_Lexer_keep_if : Ss :=
 (.cons (.iff (.cmp1 (.attr (.loc 0 ⟨240, 11, 240, 15⟩) 45 ⟨240, 11, 240, 20⟩) .notIn (.loc 82 ⟨240, 28, 240, 33⟩) ⟨240, 11, 240, 33⟩)
 (.cons (.ret (.c (.bool false) ⟨241, 19, 241, 24⟩) ⟨241, 12, 241, 24⟩)
 .nil)
 .nil ⟨240, 8, 241, 24⟩)
 (.cons (.expr (.meth (.loc 0 ⟨242, 8, 242, 12⟩) 83 .nil ⟨242, 8, 242, 26⟩ ⟨242, 8, 242, 28⟩) ⟨242, 8, 242, 28⟩)
 (.cons (.ret (.c (.bool true) ⟨243, 15, 243, 19⟩) ⟨243, 8, 243, 19⟩)
 .nil)))
noncomputable def a_Lexer_clear : Ad := 350
noncomputable def p_Lexer_clear : List Nm := [0]
noncomputable def b_Lexer_clear : Ss :=
 (.cons (.assignAttr (.loc 0 ⟨246, 8, 246, 12⟩) 66 (.call (.blt .bytearray ⟨246, 22, 246, 31⟩) .nil ⟨246, 22, 246, 33⟩) ⟨246, 8, 246, 19⟩ ⟨246, 8, 246, 33⟩)
 .nil)
noncomputable def a_Lexer_end_line : Ad := 357
noncomputable def p_Lexer_end_line : List Nm := [0]
noncomputable def b_Lexer_end_line : Ss :=
 (.cons (.assign 84 (.attr (.loc 0 ⟨249, 16, 249, 20⟩) 45 ⟨249, 16, 249, 25⟩) ⟨249, 8, 249, 13⟩ ⟨249, 8, 249, 25⟩)
 (.cons (.expr (.meth (.loc 0 ⟨250, 8, 250, 12⟩) 81 .nil ⟨250, 8, 250, 17⟩ ⟨250, 8, 250, 19⟩) ⟨250, 8, 250, 19⟩)
 (.cons (.iff (.and (.cons (.call (.glob 85 (.stat 224) ⟨251, 11, 251, 21⟩) (.cons (.attr (.loc 0 ⟨251, 22, 251, 26⟩) 45 ⟨251, 22, 251, 31⟩) .nil) ⟨251, 11, 251, 32⟩) (.cons (.cmp1 (.attr (.loc 0 ⟨251, 37, 251, 41⟩) 45 ⟨251, 37, 251, 46⟩) .ne (.loc 84 ⟨251, 50, 251, 55⟩) ⟨251, 37, 251, 55⟩) .nil)) ⟨251, 11, 251, 55⟩)
 (.cons (.expr (.meth (.loc 0 ⟨252, 12, 252, 16⟩) 81 .nil ⟨252, 12, 252, 21⟩ ⟨252, 12, 252, 23⟩) ⟨252, 12, 252, 23⟩)
 .nil)
 .nil ⟨251, 8, 252, 23⟩)
 (.cons (.augAttr (.loc 0 ⟨253, 8, 253, 12⟩) 43 .add (.c (.int 1) ⟨253, 21, 253, 22⟩) ⟨253, 8, 253, 17⟩ ⟨253, 8, 253, 22⟩)
 (.cons (.iff (.cmp1 (.attr (.loc 0 ⟨254, 11, 254, 15⟩) 43 ⟨254, 11, 254, 20⟩) .ge (.glob 86 (.int 2147483645) ⟨254, 24, 254, 34⟩) ⟨254, 11, 254, 34⟩)
 (.cons (.expr (.meth (.loc 0 ⟨255, 12, 255, 16⟩) 87 (.cons (.c (.bytes [99, 104, 117, 110, 107, 32, 104, 97, 115, 32, 116, 111, 111, 32, 109, 97, 110, 121, 32, 108, 105, 110, 101, 115]) ⟨255, 30, 255, 57⟩) .nil) ⟨255, 12, 255, 29⟩ ⟨255, 12, 255, 58⟩) ⟨255, 12, 255, 58⟩)
 .nil)
 .nil ⟨254, 8, 255, 58⟩)
 .nil)))))
noncomputable def a_Lexer_read : Ad := 364
noncomputable def p_Lexer_read : List Nm := [0]
noncomputable def b_Lexer_read : Ss :=
 (.cons (.expr (.meth (.loc 0 ⟨258, 8, 258, 12⟩) 88 .nil ⟨258, 8, 258, 18⟩ ⟨258, 8, 258, 20⟩) ⟨258, 8, 258, 20⟩)
 (.cons (.whil (.meth (.loc 0 ⟨259, 14, 259, 18⟩) 89 .nil ⟨259, 14, 259, 29⟩ ⟨259, 14, 259, 31⟩)
 (.cons (.pass ⟨260, 12, 260, 16⟩)
 .nil) ⟨259, 8, 260, 16⟩)
 (.cons (.assign 45 (.attr (.loc 0 ⟨261, 15, 261, 19⟩) 45 ⟨261, 15, 261, 24⟩) ⟨261, 8, 261, 12⟩ ⟨261, 8, 261, 24⟩)
 (.cons (.iff (.cmp1 (.loc 45 ⟨262, 11, 262, 15⟩) .eq (.glob 64 (.int (-1)) ⟨262, 19, 262, 30⟩) ⟨262, 11, 262, 30⟩)
 (.cons (.ret (.call (.glob 68 (.stat 262) ⟨263, 19, 263, 24⟩) (.cons (.glob 69 (.int 287) ⟨263, 25, 263, 31⟩) (.cons (.c .none ⟨263, 33, 263, 37⟩) .nil)) ⟨263, 19, 263, 38⟩) ⟨263, 12, 263, 38⟩)
 .nil)
 .nil ⟨262, 8, 263, 38⟩)
 (.cons (.iff (.cmp1 (.loc 45 ⟨264, 11, 264, 15⟩) .inn (.tup (.cons (.glob 90 (.int 34) ⟨264, 20, 264, 32⟩) (.cons (.glob 91 (.int 39) ⟨264, 34, 264, 46⟩) .nil)) 0 ⟨264, 19, 264, 47⟩) ⟨264, 11, 264, 47⟩)
 (.cons (.ret (.meth (.loc 0 ⟨265, 19, 265, 23⟩) 92 (.cons (.loc 45 ⟨265, 36, 265, 40⟩) .nil) ⟨265, 19, 265, 35⟩ ⟨265, 19, 265, 41⟩) ⟨265, 12, 265, 41⟩)
 .nil)
 .nil ⟨264, 8, 265, 41⟩)
 (.cons (.iff (.cmp1 (.loc 45 ⟨266, 11, 266, 15⟩) .eq (.glob 93 (.int 91) ⟨266, 19, 266, 31⟩) ⟨266, 11, 266, 31⟩)
 (.cons (.ret (.meth (.loc 0 ⟨267, 19, 267, 23⟩) 94 .nil ⟨267, 19, 267, 36⟩ ⟨267, 19, 267, 38⟩) ⟨267, 12, 267, 38⟩)
 .nil)
 .nil ⟨266, 8, 267, 38⟩)
 (.cons (.iff (.cmp1 (.loc 45 ⟨268, 11, 268, 15⟩) .eq (.glob 95 (.int 46) ⟨268, 19, 268, 22⟩) ⟨268, 11, 268, 22⟩)
 (.cons (.ret (.meth (.loc 0 ⟨269, 19, 269, 23⟩) 96 .nil ⟨269, 19, 269, 33⟩ ⟨269, 19, 269, 35⟩) ⟨269, 12, 269, 35⟩)
 .nil)
 .nil ⟨268, 8, 269, 35⟩)
 (.cons (.iff (.call (.glob 48 (.stat 189) ⟨270, 11, 270, 19⟩) (.cons (.loc 45 ⟨270, 20, 270, 24⟩) .nil) ⟨270, 11, 270, 25⟩)
 (.cons (.ret (.meth (.loc 0 ⟨271, 19, 271, 23⟩) 97 .nil ⟨271, 19, 271, 36⟩ ⟨271, 19, 271, 38⟩) ⟨271, 12, 271, 38⟩)
 .nil)
 .nil ⟨270, 8, 271, 38⟩)
 (.cons (.iff (.call (.glob 47 (.stat 196) ⟨272, 11, 272, 20⟩) (.cons (.loc 45 ⟨272, 21, 272, 25⟩) .nil) ⟨272, 11, 272, 26⟩)
 (.cons (.ret (.meth (.loc 0 ⟨273, 19, 273, 23⟩) 98 .nil ⟨273, 19, 273, 33⟩ ⟨273, 19, 273, 35⟩) ⟨273, 12, 273, 35⟩)
 .nil)
 .nil ⟨272, 8, 273, 35⟩)
 (.cons (.iff (.cmp1 (.loc 45 ⟨274, 11, 274, 15⟩) .eq (.glob 99 (.int 45) ⟨274, 19, 274, 24⟩) ⟨274, 11, 274, 24⟩)
 (.cons (.expr (.meth (.loc 0 ⟨275, 12, 275, 16⟩) 81 .nil ⟨275, 12, 275, 21⟩ ⟨275, 12, 275, 23⟩) ⟨275, 12, 275, 23⟩)
 (.cons (.ret (.call (.glob 68 (.stat 262) ⟨276, 19, 276, 24⟩) (.cons (.glob 99 (.int 45) ⟨276, 25, 276, 30⟩) (.cons (.c .none ⟨276, 32, 276, 36⟩) .nil)) ⟨276, 19, 276, 37⟩) ⟨276, 12, 276, 37⟩)
 .nil))
 .nil ⟨274, 8, 276, 37⟩)
 (.cons (.iff (.cmp1 (.loc 45 ⟨277, 11, 277, 15⟩) .inn (.tup (.cons (.glob 100 (.int 61) ⟨277, 20, 277, 26⟩) (.cons (.glob 101 (.int 60) ⟨277, 28, 277, 32⟩) (.cons (.glob 102 (.int 62) ⟨277, 34, 277, 41⟩) (.cons (.glob 103 (.int 126) ⟨277, 43, 277, 48⟩) .nil)))) 0 ⟨277, 19, 277, 49⟩) ⟨277, 11, 277, 49⟩)
 (.cons (.ret (.meth (.loc 0 ⟨278, 19, 278, 23⟩) 104 (.cons (.loc 45 ⟨278, 38, 278, 42⟩) .nil) ⟨278, 19, 278, 37⟩ ⟨278, 19, 278, 43⟩) ⟨278, 12, 278, 43⟩)
 .nil)
 .nil ⟨277, 8, 278, 43⟩)
 (.cons (.expr (.meth (.loc 0 ⟨279, 8, 279, 12⟩) 81 .nil ⟨279, 8, 279, 17⟩ ⟨279, 8, 279, 19⟩) ⟨279, 8, 279, 19⟩)
 (.cons (.ret (.call (.glob 68 (.stat 262) ⟨280, 15, 280, 20⟩) (.cons (.loc 45 ⟨280, 21, 280, 25⟩) (.cons (.c .none ⟨280, 27, 280, 31⟩) .nil)) ⟨280, 15, 280, 32⟩) ⟨280, 8, 280, 32⟩)
 .nil)))))))))))))
noncomputable def a_Lexer_skip_blank : Ad := 371
noncomputable def p_Lexer_skip_blank : List Nm := [0]
noncomputable def b_Lexer_skip_blank : Ss :=
 (.cons (.iff (.call (.glob 85 (.stat 224) ⟨283, 11, 283, 21⟩) (.cons (.attr (.loc 0 ⟨283, 22, 283, 26⟩) 45 ⟨283, 22, 283, 31⟩) .nil) ⟨283, 11, 283, 32⟩)
 (.cons (.expr (.meth (.loc 0 ⟨284, 12, 284, 16⟩) 105 .nil ⟨284, 12, 284, 25⟩ ⟨284, 12, 284, 27⟩) ⟨284, 12, 284, 27⟩)
 (.cons (.ret (.c (.bool true) ⟨285, 19, 285, 23⟩) ⟨285, 12, 285, 23⟩)
 .nil))
 .nil ⟨283, 8, 285, 23⟩)
 (.cons (.iff (.call (.glob 106 (.stat 210) ⟨286, 11, 286, 25⟩) (.cons (.attr (.loc 0 ⟨286, 26, 286, 30⟩) 45 ⟨286, 26, 286, 35⟩) .nil) ⟨286, 11, 286, 36⟩)
 (.cons (.expr (.meth (.loc 0 ⟨287, 12, 287, 16⟩) 81 .nil ⟨287, 12, 287, 21⟩ ⟨287, 12, 287, 23⟩) ⟨287, 12, 287, 23⟩)
 (.cons (.ret (.c (.bool true) ⟨288, 19, 288, 23⟩) ⟨288, 12, 288, 23⟩)
 .nil))
 .nil ⟨286, 8, 288, 23⟩)
 (.cons (.iff (.and (.cons (.cmp1 (.attr (.loc 0 ⟨289, 11, 289, 15⟩) 45 ⟨289, 11, 289, 20⟩) .eq (.glob 99 (.int 45) ⟨289, 24, 289, 29⟩) ⟨289, 11, 289, 29⟩) (.cons (.cmp1 (.meth (.loc 0 ⟨289, 34, 289, 38⟩) 107 .nil ⟨289, 34, 289, 50⟩ ⟨289, 34, 289, 52⟩) .eq (.glob 99 (.int 45) ⟨289, 56, 289, 61⟩) ⟨289, 34, 289, 61⟩) .nil)) ⟨289, 11, 289, 61⟩)
 (.cons (.expr (.meth (.loc 0 ⟨290, 12, 290, 16⟩) 108 .nil ⟨290, 12, 290, 29⟩ ⟨290, 12, 290, 31⟩) ⟨290, 12, 290, 31⟩)
 (.cons (.ret (.c (.bool true) ⟨291, 19, 291, 23⟩) ⟨291, 12, 291, 23⟩)
 .nil))
 .nil ⟨289, 8, 291, 23⟩)
 (.cons (.ret (.c (.bool false) ⟨292, 15, 292, 20⟩) ⟨292, 8, 292, 20⟩)
 .nil))))
noncomputable def a_Lexer_sign_behind : Ad := 378
noncomputable def p_Lexer_sign_behind : List Nm := [0]
noncomputable def b_Lexer_sign_behind : Ss :=
 (.cons (.ret (.ite (.cmp1 (.bin .add (.attr (.loc 0 ⟨295, 41, 295, 45⟩) 18 ⟨295, 41, 295, 48⟩) (.c (.int 1) ⟨295, 51, 295, 52⟩) ⟨295, 41, 295, 52⟩) .lt (.call (.blt .len ⟨295, 55, 295, 58⟩) (.cons (.attr (.loc 0 ⟨295, 59, 295, 63⟩) 10 ⟨295, 59, 295, 68⟩) .nil) ⟨295, 55, 295, 69⟩) ⟨295, 41, 295, 69⟩) (.idx (.attr (.loc 0 ⟨295, 15, 295, 19⟩) 10 ⟨295, 15, 295, 24⟩) (.bin .add (.attr (.loc 0 ⟨295, 25, 295, 29⟩) 18 ⟨295, 25, 295, 32⟩) (.c (.int 1) ⟨295, 35, 295, 36⟩) ⟨295, 25, 295, 36⟩) ⟨295, 15, 295, 37⟩) (.glob 64 (.int (-1)) ⟨295, 75, 295, 86⟩) ⟨295, 15, 295, 86⟩) ⟨295, 8, 295, 86⟩)
 .nil)
noncomputable def a_Lexer_skip_comment : Ad := 385
noncomputable def p_Lexer_skip_comment : List Nm := [0]
noncomputable def b_Lexer_skip_comment : Ss :=
 (.cons (.expr (.meth (.loc 0 ⟨298, 8, 298, 12⟩) 81 .nil ⟨298, 8, 298, 17⟩ ⟨298, 8, 298, 19⟩) ⟨298, 8, 298, 19⟩)
 (.cons (.expr (.meth (.loc 0 ⟨299, 8, 299, 12⟩) 81 .nil ⟨299, 8, 299, 17⟩ ⟨299, 8, 299, 19⟩) ⟨299, 8, 299, 19⟩)
 (.cons (.iff (.cmp1 (.attr (.loc 0 ⟨300, 11, 300, 15⟩) 45 ⟨300, 11, 300, 20⟩) .eq (.glob 93 (.int 91) ⟨300, 24, 300, 36⟩) ⟨300, 11, 300, 36⟩)
 (.cons (.assign 109 (.meth (.loc 0 ⟨301, 20, 301, 24⟩) 110 .nil ⟨301, 20, 301, 35⟩ ⟨301, 20, 301, 37⟩) ⟨301, 12, 301, 17⟩ ⟨301, 12, 301, 37⟩)
 (.cons (.expr (.meth (.loc 0 ⟨302, 12, 302, 16⟩) 88 .nil ⟨302, 12, 302, 22⟩ ⟨302, 12, 302, 24⟩) ⟨302, 12, 302, 24⟩)
 (.cons (.iff (.cmp1 (.loc 109 ⟨303, 15, 303, 20⟩) .ge (.c (.int 0) ⟨303, 24, 303, 25⟩) ⟨303, 15, 303, 25⟩)
 (.cons (.expr (.meth (.loc 0 ⟨304, 16, 304, 20⟩) 111 (.cons (.loc 109 ⟨304, 31, 304, 36⟩) (.cons (.c (.bool false) ⟨304, 38, 304, 43⟩) .nil)) ⟨304, 16, 304, 30⟩ ⟨304, 16, 304, 44⟩) ⟨304, 16, 304, 44⟩)
 (.cons (.expr (.meth (.loc 0 ⟨305, 16, 305, 20⟩) 88 .nil ⟨305, 16, 305, 26⟩ ⟨305, 16, 305, 28⟩) ⟨305, 16, 305, 28⟩)
 (.cons (.ret .no ⟨306, 16, 306, 22⟩)
 .nil)))
 .nil ⟨303, 12, 306, 22⟩)
 .nil)))
 .nil ⟨300, 8, 306, 22⟩)
 (.cons (.whil (.and (.cons (.not (.call (.glob 85 (.stat 224) ⟨307, 18, 307, 28⟩) (.cons (.attr (.loc 0 ⟨307, 29, 307, 33⟩) 45 ⟨307, 29, 307, 38⟩) .nil) ⟨307, 18, 307, 39⟩) ⟨307, 14, 307, 39⟩) (.cons (.cmp1 (.attr (.loc 0 ⟨307, 44, 307, 48⟩) 45 ⟨307, 44, 307, 53⟩) .ne (.glob 64 (.int (-1)) ⟨307, 57, 307, 68⟩) ⟨307, 44, 307, 68⟩) .nil)) ⟨307, 14, 307, 68⟩)
 (.cons (.expr (.meth (.loc 0 ⟨308, 12, 308, 16⟩) 81 .nil ⟨308, 12, 308, 21⟩ ⟨308, 12, 308, 23⟩) ⟨308, 12, 308, 23⟩)
 .nil) ⟨307, 8, 308, 23⟩)
 .nil))))
noncomputable def a_Lexer_read_compared : Ad := 392
noncomputable def p_Lexer_read_compared : List Nm := [0, 45]
noncomputable def b_Lexer_read_compared : Ss :=
 (.cons (.expr (.meth (.loc 0 ⟨311, 8, 311, 12⟩) 81 .nil ⟨311, 8, 311, 17⟩ ⟨311, 8, 311, 19⟩) ⟨311, 8, 311, 19⟩)
 (.cons (.iff (.cmp1 (.attr (.loc 0 ⟨312, 11, 312, 15⟩) 45 ⟨312, 11, 312, 20⟩) .ne (.glob 100 (.int 61) ⟨312, 24, 312, 30⟩) ⟨312, 11, 312, 30⟩)
 (.cons (.ret (.call (.glob 68 (.stat 262) ⟨313, 19, 313, 24⟩) (.cons (.loc 45 ⟨313, 25, 313, 29⟩) (.cons (.c .none ⟨313, 31, 313, 35⟩) .nil)) ⟨313, 19, 313, 36⟩) ⟨313, 12, 313, 36⟩)
 .nil)
 .nil ⟨312, 8, 313, 36⟩)
 (.cons (.expr (.meth (.loc 0 ⟨314, 8, 314, 12⟩) 81 .nil ⟨314, 8, 314, 17⟩ ⟨314, 8, 314, 19⟩) ⟨314, 8, 314, 19⟩)
 (.cons (.iff (.cmp1 (.loc 45 ⟨315, 11, 315, 15⟩) .eq (.glob 100 (.int 61) ⟨315, 19, 315, 25⟩) ⟨315, 11, 315, 25⟩)
 (.cons (.ret (.call (.glob 68 (.stat 262) ⟨316, 19, 316, 24⟩) (.cons (.glob 112 (.int 280) ⟨316, 25, 316, 30⟩) (.cons (.c .none ⟨316, 32, 316, 36⟩) .nil)) ⟨316, 19, 316, 37⟩) ⟨316, 12, 316, 37⟩)
 .nil)
 .nil ⟨315, 8, 316, 37⟩)
 (.cons (.iff (.cmp1 (.loc 45 ⟨317, 11, 317, 15⟩) .eq (.glob 101 (.int 60) ⟨317, 19, 317, 23⟩) ⟨317, 11, 317, 23⟩)
 (.cons (.ret (.call (.glob 68 (.stat 262) ⟨318, 19, 318, 24⟩) (.cons (.glob 113 (.int 282) ⟨318, 25, 318, 30⟩) (.cons (.c .none ⟨318, 32, 318, 36⟩) .nil)) ⟨318, 19, 318, 37⟩) ⟨318, 12, 318, 37⟩)
 .nil)
 .nil ⟨317, 8, 318, 37⟩)
 (.cons (.ret (.call (.glob 68 (.stat 262) ⟨319, 15, 319, 20⟩) (.cons (.ite (.cmp1 (.loc 45 ⟨319, 30, 319, 34⟩) .eq (.glob 102 (.int 62) ⟨319, 38, 319, 45⟩) ⟨319, 30, 319, 45⟩) (.glob 114 (.int 281) ⟨319, 21, 319, 26⟩) (.glob 115 (.int 283) ⟨319, 51, 319, 56⟩) ⟨319, 21, 319, 56⟩) (.cons (.c .none ⟨319, 58, 319, 62⟩) .nil)) ⟨319, 15, 319, 63⟩) ⟨319, 8, 319, 63⟩)
 .nil))))))
noncomputable def a_Lexer_read_dots : Ad := 399
noncomputable def p_Lexer_read_dots : List Nm := [0]
noncomputable def b_Lexer_read_dots : Ss :=
 (.cons (.expr (.meth (.loc 0 ⟨322, 8, 322, 12⟩) 83 .nil ⟨322, 8, 322, 26⟩ ⟨322, 8, 322, 28⟩) ⟨322, 8, 322, 28⟩)
 (.cons (.iff (.meth (.loc 0 ⟨323, 11, 323, 15⟩) 116 (.cons (.tup (.cons (.glob 95 (.int 46) ⟨323, 25, 323, 28⟩) .nil) 0 ⟨323, 24, 323, 30⟩) .nil) ⟨323, 11, 323, 23⟩ ⟨323, 11, 323, 31⟩)
 (.cons (.iff (.meth (.loc 0 ⟨324, 15, 324, 19⟩) 116 (.cons (.tup (.cons (.glob 95 (.int 46) ⟨324, 29, 324, 32⟩) .nil) 0 ⟨324, 28, 324, 34⟩) .nil) ⟨324, 15, 324, 27⟩ ⟨324, 15, 324, 35⟩)
 (.cons (.ret (.call (.glob 68 (.stat 262) ⟨325, 23, 325, 28⟩) (.cons (.glob 117 (.int 279) ⟨325, 29, 325, 36⟩) (.cons (.c .none ⟨325, 38, 325, 42⟩) .nil)) ⟨325, 23, 325, 43⟩) ⟨325, 16, 325, 43⟩)
 .nil)
 .nil ⟨324, 12, 325, 43⟩)
 (.cons (.ret (.call (.glob 68 (.stat 262) ⟨326, 19, 326, 24⟩) (.cons (.glob 118 (.int 278) ⟨326, 25, 326, 34⟩) (.cons (.c .none ⟨326, 36, 326, 40⟩) .nil)) ⟨326, 19, 326, 41⟩) ⟨326, 12, 326, 41⟩)
 .nil))
 .nil ⟨323, 8, 326, 41⟩)
 (.cons (.iff (.call (.glob 48 (.stat 189) ⟨327, 11, 327, 19⟩) (.cons (.attr (.loc 0 ⟨327, 20, 327, 24⟩) 45 ⟨327, 20, 327, 29⟩) .nil) ⟨327, 11, 327, 30⟩)
 (.cons (.ret (.meth (.loc 0 ⟨328, 19, 328, 23⟩) 97 .nil ⟨328, 19, 328, 36⟩ ⟨328, 19, 328, 38⟩) ⟨328, 12, 328, 38⟩)
 .nil)
 .nil ⟨327, 8, 328, 38⟩)
 (.cons (.ret (.call (.glob 68 (.stat 262) ⟨329, 15, 329, 20⟩) (.cons (.glob 95 (.int 46) ⟨329, 21, 329, 24⟩) (.cons (.c .none ⟨329, 26, 329, 30⟩) .nil)) ⟨329, 15, 329, 31⟩) ⟨329, 8, 329, 31⟩)
 .nil))))
noncomputable def a_Lexer_read_word : Ad := 406
noncomputable def p_Lexer_read_word : List Nm := [0]
noncomputable def b_Lexer_read_word : Ss :=
 (.cons (.whil (.call (.glob 119 (.stat 203) ⟨332, 14, 332, 26⟩) (.cons (.attr (.loc 0 ⟨332, 27, 332, 31⟩) 45 ⟨332, 27, 332, 36⟩) .nil) ⟨332, 14, 332, 37⟩)
 (.cons (.expr (.meth (.loc 0 ⟨333, 12, 333, 16⟩) 83 .nil ⟨333, 12, 333, 30⟩ ⟨333, 12, 333, 32⟩) ⟨333, 12, 333, 32⟩)
 .nil) ⟨332, 8, 333, 32⟩)
 (.cons (.assign 53 (.call (.blt .bytes ⟨334, 15, 334, 20⟩) (.cons (.attr (.loc 0 ⟨334, 21, 334, 25⟩) 66 ⟨334, 21, 334, 32⟩) .nil) ⟨334, 15, 334, 33⟩) ⟨334, 8, 334, 12⟩ ⟨334, 8, 334, 33⟩)
 (.cons (.assign 56 (.meth (.attr (.loc 0 ⟨335, 15, 335, 19⟩) 52 ⟨335, 15, 335, 25⟩) 120 (.cons (.loc 53 ⟨335, 30, 335, 34⟩) .nil) ⟨335, 15, 335, 29⟩ ⟨335, 15, 335, 35⟩) ⟨335, 8, 335, 12⟩ ⟨335, 8, 335, 35⟩)
 (.cons (.ret (.ite (.cmp1 (.loc 56 ⟨336, 39, 336, 43⟩) .iss (.c .none ⟨336, 47, 336, 51⟩) ⟨336, 39, 336, 51⟩) (.call (.glob 68 (.stat 262) ⟨336, 15, 336, 20⟩) (.cons (.glob 76 (.int 285) ⟨336, 21, 336, 28⟩) (.cons (.loc 53 ⟨336, 30, 336, 34⟩) .nil)) ⟨336, 15, 336, 35⟩) (.call (.glob 68 (.stat 262) ⟨336, 57, 336, 62⟩) (.cons (.loc 56 ⟨336, 63, 336, 67⟩) (.cons (.c .none ⟨336, 69, 336, 73⟩) .nil)) ⟨336, 57, 336, 74⟩) ⟨336, 15, 336, 74⟩) ⟨336, 8, 336, 74⟩)
 .nil))))
noncomputable def a_Lexer_read_numeral : Ad := 413
noncomputable def p_Lexer_read_numeral : List Nm := [0]
noncomputable def b_Lexer_read_numeral : Ss :=
 (.cons (.whil (.or (.cons (.call (.glob 48 (.stat 189) ⟨339, 14, 339, 22⟩) (.cons (.attr (.loc 0 ⟨339, 23, 339, 27⟩) 45 ⟨339, 23, 339, 32⟩) .nil) ⟨339, 14, 339, 33⟩) (.cons (.cmp1 (.attr (.loc 0 ⟨339, 37, 339, 41⟩) 45 ⟨339, 37, 339, 46⟩) .eq (.glob 95 (.int 46) ⟨339, 50, 339, 53⟩) ⟨339, 37, 339, 53⟩) .nil)) ⟨339, 14, 339, 53⟩)
 (.cons (.expr (.meth (.loc 0 ⟨340, 12, 340, 16⟩) 83 .nil ⟨340, 12, 340, 30⟩ ⟨340, 12, 340, 32⟩) ⟨340, 12, 340, 32⟩)
 .nil) ⟨339, 8, 340, 32⟩)
 (.cons (.iff (.meth (.loc 0 ⟨341, 11, 341, 15⟩) 116 (.cons (.tup (.cons (.c (.int 69) ⟨341, 25, 341, 27⟩) (.cons (.c (.int 101) ⟨341, 29, 341, 32⟩) .nil)) 0 ⟨341, 24, 341, 33⟩) .nil) ⟨341, 11, 341, 23⟩ ⟨341, 11, 341, 34⟩)
 (.cons (.expr (.meth (.loc 0 ⟨342, 12, 342, 16⟩) 116 (.cons (.tup (.cons (.glob 121 (.int 43) ⟨342, 26, 342, 30⟩) (.cons (.glob 99 (.int 45) ⟨342, 32, 342, 37⟩) .nil)) 0 ⟨342, 25, 342, 38⟩) .nil) ⟨342, 12, 342, 24⟩ ⟨342, 12, 342, 39⟩) ⟨342, 12, 342, 39⟩)
 .nil)
 .nil ⟨341, 8, 342, 39⟩)
 (.cons (.whil (.call (.glob 119 (.stat 203) ⟨343, 14, 343, 26⟩) (.cons (.attr (.loc 0 ⟨343, 27, 343, 31⟩) 45 ⟨343, 27, 343, 36⟩) .nil) ⟨343, 14, 343, 37⟩)
 (.cons (.expr (.meth (.loc 0 ⟨344, 12, 344, 16⟩) 83 .nil ⟨344, 12, 344, 30⟩ ⟨344, 12, 344, 32⟩) ⟨344, 12, 344, 32⟩)
 .nil) ⟨343, 8, 344, 32⟩)
 (.cons (.assign 11 (.call (.glob 122 (.stat 138) ⟨345, 16, 345, 29⟩) (.cons (.call (.blt .bytes ⟨345, 30, 345, 35⟩) (.cons (.attr (.loc 0 ⟨345, 36, 345, 40⟩) 66 ⟨345, 36, 345, 47⟩) .nil) ⟨345, 30, 345, 48⟩) (.cons (.attr (.loc 0 ⟨345, 50, 345, 54⟩) 25 ⟨345, 50, 345, 61⟩) .nil)) ⟨345, 16, 345, 62⟩) ⟨345, 8, 345, 13⟩ ⟨345, 8, 345, 62⟩)
 (.cons (.iff (.cmp1 (.loc 11 ⟨346, 11, 346, 16⟩) .iss (.c .none ⟨346, 20, 346, 24⟩) ⟨346, 11, 346, 24⟩)
 (.cons (.expr (.meth (.loc 0 ⟨347, 12, 347, 16⟩) 75 (.cons (.c (.bytes [109, 97, 108, 102, 111, 114, 109, 101, 100, 32, 110, 117, 109, 98, 101, 114]) ⟨347, 23, 347, 42⟩) (.cons (.glob 78 (.int 284) ⟨347, 44, 347, 53⟩) .nil)) ⟨347, 12, 347, 22⟩ ⟨347, 12, 347, 54⟩) ⟨347, 12, 347, 54⟩)
 .nil)
 .nil ⟨346, 8, 347, 54⟩)
 (.cons (.ret (.call (.glob 68 (.stat 262) ⟨348, 15, 348, 20⟩) (.cons (.glob 78 (.int 284) ⟨348, 21, 348, 30⟩) (.cons (.loc 11 ⟨348, 32, 348, 37⟩) .nil)) ⟨348, 15, 348, 38⟩) ⟨348, 8, 348, 38⟩)
 .nil))))))
noncomputable def a_Lexer_read_bracket : Ad := 420
noncomputable def p_Lexer_read_bracket : List Nm := [0]
noncomputable def b_Lexer_read_bracket : Ss :=
 (.cons (.assign 109 (.meth (.loc 0 ⟨351, 16, 351, 20⟩) 110 .nil ⟨351, 16, 351, 31⟩ ⟨351, 16, 351, 33⟩) ⟨351, 8, 351, 13⟩ ⟨351, 8, 351, 33⟩)
 (.cons (.iff (.cmp1 (.loc 109 ⟨352, 11, 352, 16⟩) .ge (.c (.int 0) ⟨352, 20, 352, 21⟩) ⟨352, 11, 352, 21⟩)
 (.cons (.ret (.call (.glob 68 (.stat 262) ⟨353, 19, 353, 24⟩) (.cons (.glob 77 (.int 286) ⟨353, 25, 353, 34⟩) (.cons (.meth (.loc 0 ⟨353, 36, 353, 40⟩) 111 (.cons (.loc 109 ⟨353, 51, 353, 56⟩) (.cons (.c (.bool true) ⟨353, 58, 353, 62⟩) .nil)) ⟨353, 36, 353, 50⟩ ⟨353, 36, 353, 63⟩) .nil)) ⟨353, 19, 353, 64⟩) ⟨353, 12, 353, 64⟩)
 .nil)
 .nil ⟨352, 8, 353, 64⟩)
 (.cons (.iff (.cmp1 (.loc 109 ⟨354, 11, 354, 16⟩) .lt (.neg (.c (.int 1) ⟨354, 20, 354, 21⟩) ⟨354, 19, 354, 21⟩) ⟨354, 11, 354, 21⟩)
 (.cons (.expr (.meth (.loc 0 ⟨355, 12, 355, 16⟩) 75 (.cons (.c (.bytes [105, 110, 118, 97, 108, 105, 100, 32, 108, 111, 110, 103, 32, 115, 116, 114, 105, 110, 103, 32, 100, 101, 108, 105, 109, 105, 116, 101, 114]) ⟨355, 23, 355, 55⟩) (.cons (.glob 77 (.int 286) ⟨355, 57, 355, 66⟩) .nil)) ⟨355, 12, 355, 22⟩ ⟨355, 12, 355, 67⟩) ⟨355, 12, 355, 67⟩)
 .nil)
 .nil ⟨354, 8, 355, 67⟩)
 (.cons (.ret (.call (.glob 68 (.stat 262) ⟨356, 15, 356, 20⟩) (.cons (.glob 93 (.int 91) ⟨356, 21, 356, 33⟩) (.cons (.c .none ⟨356, 35, 356, 39⟩) .nil)) ⟨356, 15, 356, 40⟩) ⟨356, 8, 356, 40⟩)
 .nil))))
noncomputable def a_Lexer_read_level : Ad := 427
noncomputable def p_Lexer_read_level : List Nm := [0]
noncomputable def b_Lexer_read_level : Ss :=
 (.cons (.assign 123 (.attr (.loc 0 ⟨359, 18, 359, 22⟩) 45 ⟨359, 18, 359, 27⟩) ⟨359, 8, 359, 15⟩ ⟨359, 8, 359, 27⟩)
 (.cons (.assign 124 (.c (.int 0) ⟨360, 15, 360, 16⟩) ⟨360, 8, 360, 12⟩ ⟨360, 8, 360, 16⟩)
 (.cons (.expr (.meth (.loc 0 ⟨361, 8, 361, 12⟩) 83 .nil ⟨361, 8, 361, 26⟩ ⟨361, 8, 361, 28⟩) ⟨361, 8, 361, 28⟩)
 (.cons (.whil (.cmp1 (.attr (.loc 0 ⟨362, 14, 362, 18⟩) 45 ⟨362, 14, 362, 23⟩) .eq (.glob 100 (.int 61) ⟨362, 27, 362, 33⟩) ⟨362, 14, 362, 33⟩)
 (.cons (.expr (.meth (.loc 0 ⟨363, 12, 363, 16⟩) 83 .nil ⟨363, 12, 363, 30⟩ ⟨363, 12, 363, 32⟩) ⟨363, 12, 363, 32⟩)
 (.cons (.augName 124 .add (.c (.int 1) ⟨364, 20, 364, 21⟩) ⟨364, 12, 364, 16⟩ ⟨364, 12, 364, 21⟩)
 .nil)) ⟨362, 8, 364, 21⟩)
 (.cons (.ret (.ite (.cmp1 (.attr (.loc 0 ⟨365, 23, 365, 27⟩) 45 ⟨365, 23, 365, 32⟩) .eq (.loc 123 ⟨365, 36, 365, 43⟩) ⟨365, 23, 365, 43⟩) (.loc 124 ⟨365, 15, 365, 19⟩) (.bin .sub (.neg (.loc 124 ⟨365, 50, 365, 54⟩) ⟨365, 49, 365, 54⟩) (.c (.int 1) ⟨365, 57, 365, 58⟩) ⟨365, 49, 365, 58⟩) ⟨365, 15, 365, 58⟩) ⟨365, 8, 365, 58⟩)
 .nil)))))
noncomputable def a_Lexer_read_long : Ad := 434
noncomputable def p_Lexer_read_long : List Nm := [0, 109, 125]
noncomputable def b_Lexer_read_long : Ss :=
 (.cons (.expr (.meth (.loc 0 ⟨368, 8, 368, 12⟩) 83 .nil ⟨368, 8, 368, 26⟩ ⟨368, 8, 368, 28⟩) ⟨368, 8, 368, 28⟩)
 (.cons (.iff (.call (.glob 85 (.stat 224) ⟨369, 11, 369, 21⟩) (.cons (.attr (.loc 0 ⟨369, 22, 369, 26⟩) 45 ⟨369, 22, 369, 31⟩) .nil) ⟨369, 11, 369, 32⟩)
 (.cons (.expr (.meth (.loc 0 ⟨370, 12, 370, 16⟩) 105 .nil ⟨370, 12, 370, 25⟩ ⟨370, 12, 370, 27⟩) ⟨370, 12, 370, 27⟩)
 .nil)
 .nil ⟨369, 8, 370, 27⟩)
 (.cons (.assign 126 (.call (.blt .len ⟨371, 16, 371, 19⟩) (.cons (.attr (.loc 0 ⟨371, 20, 371, 24⟩) 66 ⟨371, 20, 371, 31⟩) .nil) ⟨371, 16, 371, 32⟩) ⟨371, 8, 371, 13⟩ ⟨371, 8, 371, 32⟩)
 (.cons (.whil (.c (.bool true) ⟨372, 14, 372, 18⟩)
 (.cons (.iff (.cmp1 (.attr (.loc 0 ⟨373, 15, 373, 19⟩) 45 ⟨373, 15, 373, 24⟩) .eq (.glob 64 (.int (-1)) ⟨373, 28, 373, 39⟩) ⟨373, 15, 373, 39⟩)
 (.cons (.expr (.meth (.loc 0 ⟨374, 16, 374, 20⟩) 75 (.cons (.ite (.loc 125 ⟨374, 56, 374, 63⟩) (.c (.bytes [117, 110, 102, 105, 110, 105, 115, 104, 101, 100, 32, 108, 111, 110, 103, 32, 115, 116, 114, 105, 110, 103]) ⟨374, 27, 374, 52⟩) (.c (.bytes [117, 110, 102, 105, 110, 105, 115, 104, 101, 100, 32, 108, 111, 110, 103, 32, 99, 111, 109, 109, 101, 110, 116]) ⟨374, 69, 374, 95⟩) ⟨374, 27, 374, 95⟩) (.cons (.glob 69 (.int 287) ⟨374, 97, 374, 103⟩) .nil)) ⟨374, 16, 374, 26⟩ ⟨374, 16, 374, 104⟩) ⟨374, 16, 374, 104⟩)
 .nil)
 (.cons (.iff (.cmp1 (.attr (.loc 0 ⟨375, 17, 375, 21⟩) 45 ⟨375, 17, 375, 26⟩) .eq (.glob 93 (.int 91) ⟨375, 30, 375, 42⟩) ⟨375, 17, 375, 42⟩)
 (.cons (.expr (.meth (.loc 0 ⟨376, 16, 376, 20⟩) 127 (.cons (.loc 109 ⟨376, 32, 376, 37⟩) .nil) ⟨376, 16, 376, 31⟩ ⟨376, 16, 376, 38⟩) ⟨376, 16, 376, 38⟩)
 .nil)
 (.cons (.iff (.cmp1 (.attr (.loc 0 ⟨377, 17, 377, 21⟩) 45 ⟨377, 17, 377, 26⟩) .eq (.glob 128 (.int 93) ⟨377, 30, 377, 43⟩) ⟨377, 17, 377, 43⟩)
 (.cons (.iff (.cmp1 (.meth (.loc 0 ⟨378, 19, 378, 23⟩) 110 .nil ⟨378, 19, 378, 34⟩ ⟨378, 19, 378, 36⟩) .eq (.loc 109 ⟨378, 40, 378, 45⟩) ⟨378, 19, 378, 45⟩)
 (.cons (.expr (.meth (.loc 0 ⟨379, 20, 379, 24⟩) 83 .nil ⟨379, 20, 379, 38⟩ ⟨379, 20, 379, 40⟩) ⟨379, 20, 379, 40⟩)
 (.cons (.ret (.call (.blt .bytes ⟨380, 27, 380, 32⟩) (.cons (.slice (.attr (.loc 0 ⟨380, 33, 380, 37⟩) 66 ⟨380, 33, 380, 44⟩) (.loc 126 ⟨380, 45, 380, 50⟩) (.bin .sub (.bin .sub (.call (.blt .len ⟨380, 51, 380, 54⟩) (.cons (.attr (.loc 0 ⟨380, 55, 380, 59⟩) 66 ⟨380, 55, 380, 66⟩) .nil) ⟨380, 51, 380, 67⟩) (.loc 109 ⟨380, 70, 380, 75⟩) ⟨380, 51, 380, 75⟩) (.c (.int 2) ⟨380, 78, 380, 79⟩) ⟨380, 51, 380, 79⟩) ⟨380, 45, 380, 79⟩ ⟨380, 33, 380, 80⟩) .nil) ⟨380, 27, 380, 81⟩) ⟨380, 20, 380, 81⟩)
 .nil))
 .nil ⟨378, 16, 380, 81⟩)
 .nil)
 (.cons (.iff (.call (.glob 85 (.stat 224) ⟨381, 17, 381, 27⟩) (.cons (.attr (.loc 0 ⟨381, 28, 381, 32⟩) 45 ⟨381, 28, 381, 37⟩) .nil) ⟨381, 17, 381, 38⟩)
 (.cons (.expr (.meth (.loc 0 ⟨382, 16, 382, 20⟩) 80 (.cons (.glob 49 (.int 10) ⟨382, 26, 382, 33⟩) .nil) ⟨382, 16, 382, 25⟩ ⟨382, 16, 382, 34⟩) ⟨382, 16, 382, 34⟩)
 (.cons (.expr (.meth (.loc 0 ⟨383, 16, 383, 20⟩) 105 .nil ⟨383, 16, 383, 29⟩ ⟨383, 16, 383, 31⟩) ⟨383, 16, 383, 31⟩)
 (.cons (.iff (.not (.loc 125 ⟨384, 23, 384, 30⟩) ⟨384, 19, 384, 30⟩)
 (.cons (.assignAttr (.loc 0 ⟨385, 20, 385, 24⟩) 66 (.slice (.attr (.loc 0 ⟨385, 34, 385, 38⟩) 66 ⟨385, 34, 385, 45⟩) .no (.loc 126 ⟨385, 47, 385, 52⟩) ⟨385, 46, 385, 52⟩ ⟨385, 34, 385, 53⟩) ⟨385, 20, 385, 31⟩ ⟨385, 20, 385, 53⟩)
 .nil)
 .nil ⟨384, 16, 385, 53⟩)
 .nil)))
 (.cons (.iff (.loc 125 ⟨386, 17, 386, 24⟩)
 (.cons (.expr (.meth (.loc 0 ⟨387, 16, 387, 20⟩) 83 .nil ⟨387, 16, 387, 34⟩ ⟨387, 16, 387, 36⟩) ⟨387, 16, 387, 36⟩)
 .nil)
 (.cons (.expr (.meth (.loc 0 ⟨389, 16, 389, 20⟩) 81 .nil ⟨389, 16, 389, 25⟩ ⟨389, 16, 389, 27⟩) ⟨389, 16, 389, 27⟩)
 .nil) ⟨386, 12, 389, 27⟩)
 .nil) ⟨381, 12, 389, 27⟩)
 .nil) ⟨377, 12, 389, 27⟩)
 .nil) ⟨375, 12, 389, 27⟩)
 .nil) ⟨373, 12, 389, 27⟩)
 .nil) ⟨372, 8, 389, 27⟩)
 .nil))))
noncomputable def a_Lexer_read_inner : Ad := 441
noncomputable def p_Lexer_read_inner : List Nm := [0, 109]
noncomputable def b_Lexer_read_inner : Ss :=
 (.cons (.iff (.cmp1 (.meth (.loc 0 ⟨392, 11, 392, 15⟩) 110 .nil ⟨392, 11, 392, 26⟩ ⟨392, 11, 392, 28⟩) .eq (.loc 109 ⟨392, 32, 392, 37⟩) ⟨392, 11, 392, 37⟩)
 (.cons (.expr (.meth (.loc 0 ⟨393, 12, 393, 16⟩) 83 .nil ⟨393, 12, 393, 30⟩ ⟨393, 12, 393, 32⟩) ⟨393, 12, 393, 32⟩)
 (.cons (.iff (.cmp1 (.loc 109 ⟨394, 15, 394, 20⟩) .eq (.c (.int 0) ⟨394, 24, 394, 25⟩) ⟨394, 15, 394, 25⟩)
 (.cons (.expr (.meth (.loc 0 ⟨395, 16, 395, 20⟩) 75 (.cons (.c (.bytes [110, 101, 115, 116, 105, 110, 103, 32, 111, 102, 32, 91, 91, 46, 46, 46, 93, 93, 32, 105, 115, 32, 100, 101, 112, 114, 101, 99, 97, 116, 101, 100]) ⟨395, 27, 395, 62⟩) (.cons (.glob 93 (.int 91) ⟨395, 64, 395, 76⟩) .nil)) ⟨395, 16, 395, 26⟩ ⟨395, 16, 395, 77⟩) ⟨395, 16, 395, 77⟩)
 .nil)
 .nil ⟨394, 12, 395, 77⟩)
 .nil))
 .nil ⟨392, 8, 395, 77⟩)
 .nil)
noncomputable def a_Lexer_read_string : Ad := 448
noncomputable def p_Lexer_read_string : List Nm := [0, 129]
noncomputable def b_Lexer_read_string : Ss :=
 (.cons (.expr (.meth (.loc 0 ⟨398, 8, 398, 12⟩) 83 .nil ⟨398, 8, 398, 26⟩ ⟨398, 8, 398, 28⟩) ⟨398, 8, 398, 28⟩)
 (.cons (.whil (.cmp1 (.attr (.loc 0 ⟨399, 14, 399, 18⟩) 45 ⟨399, 14, 399, 23⟩) .ne (.loc 129 ⟨399, 27, 399, 32⟩) ⟨399, 14, 399, 32⟩)
 (.cons (.iff (.cmp1 (.attr (.loc 0 ⟨400, 15, 400, 19⟩) 45 ⟨400, 15, 400, 24⟩) .eq (.glob 64 (.int (-1)) ⟨400, 28, 400, 39⟩) ⟨400, 15, 400, 39⟩)
 (.cons (.expr (.meth (.loc 0 ⟨401, 16, 401, 20⟩) 75 (.cons (.c (.bytes [117, 110, 102, 105, 110, 105, 115, 104, 101, 100, 32, 115, 116, 114, 105, 110, 103]) ⟨401, 27, 401, 47⟩) (.cons (.glob 69 (.int 287) ⟨401, 49, 401, 55⟩) .nil)) ⟨401, 16, 401, 26⟩ ⟨401, 16, 401, 56⟩) ⟨401, 16, 401, 56⟩)
 .nil)
 (.cons (.iff (.call (.glob 85 (.stat 224) ⟨402, 17, 402, 27⟩) (.cons (.attr (.loc 0 ⟨402, 28, 402, 32⟩) 45 ⟨402, 28, 402, 37⟩) .nil) ⟨402, 17, 402, 38⟩)
 (.cons (.expr (.meth (.loc 0 ⟨403, 16, 403, 20⟩) 75 (.cons (.c (.bytes [117, 110, 102, 105, 110, 105, 115, 104, 101, 100, 32, 115, 116, 114, 105, 110, 103]) ⟨403, 27, 403, 47⟩) (.cons (.glob 77 (.int 286) ⟨403, 49, 403, 58⟩) .nil)) ⟨403, 16, 403, 26⟩ ⟨403, 16, 403, 59⟩) ⟨403, 16, 403, 59⟩)
 .nil)
 (.cons (.iff (.cmp1 (.attr (.loc 0 ⟨404, 17, 404, 21⟩) 45 ⟨404, 17, 404, 26⟩) .eq (.glob 130 (.int 92) ⟨404, 30, 404, 39⟩) ⟨404, 17, 404, 39⟩)
 (.cons (.expr (.meth (.loc 0 ⟨405, 16, 405, 20⟩) 81 .nil ⟨405, 16, 405, 25⟩ ⟨405, 16, 405, 27⟩) ⟨405, 16, 405, 27⟩)
 (.cons (.expr (.meth (.loc 0 ⟨406, 16, 406, 20⟩) 131 .nil ⟨406, 16, 406, 32⟩ ⟨406, 16, 406, 34⟩) ⟨406, 16, 406, 34⟩)
 .nil))
 (.cons (.expr (.meth (.loc 0 ⟨408, 16, 408, 20⟩) 83 .nil ⟨408, 16, 408, 34⟩ ⟨408, 16, 408, 36⟩) ⟨408, 16, 408, 36⟩)
 .nil) ⟨404, 12, 408, 36⟩)
 .nil) ⟨402, 12, 408, 36⟩)
 .nil) ⟨400, 12, 408, 36⟩)
 .nil) ⟨399, 8, 408, 36⟩)
 (.cons (.expr (.meth (.loc 0 ⟨409, 8, 409, 12⟩) 83 .nil ⟨409, 8, 409, 26⟩ ⟨409, 8, 409, 28⟩) ⟨409, 8, 409, 28⟩)
 (.cons (.ret (.call (.glob 68 (.stat 262) ⟨410, 15, 410, 20⟩) (.cons (.glob 77 (.int 286) ⟨410, 21, 410, 30⟩) (.cons (.call (.blt .bytes ⟨410, 32, 410, 37⟩) (.cons (.slice (.attr (.loc 0 ⟨410, 38, 410, 42⟩) 66 ⟨410, 38, 410, 49⟩) (.c (.int 1) ⟨410, 50, 410, 51⟩) (.bin .sub (.call (.blt .len ⟨410, 52, 410, 55⟩) (.cons (.attr (.loc 0 ⟨410, 56, 410, 60⟩) 66 ⟨410, 56, 410, 67⟩) .nil) ⟨410, 52, 410, 68⟩) (.c (.int 1) ⟨410, 71, 410, 72⟩) ⟨410, 52, 410, 72⟩) ⟨410, 50, 410, 72⟩ ⟨410, 38, 410, 73⟩) .nil) ⟨410, 32, 410, 74⟩) .nil)) ⟨410, 15, 410, 75⟩) ⟨410, 8, 410, 75⟩)
 .nil))))
noncomputable def a_Lexer_read_escape : Ad := 455
noncomputable def p_Lexer_read_escape : List Nm := [0]
noncomputable def b_Lexer_read_escape : Ss :=
 (.cons (.iff (.cmp1 (.attr (.loc 0 ⟨413, 11, 413, 15⟩) 45 ⟨413, 11, 413, 20⟩) .eq (.glob 64 (.int (-1)) ⟨413, 24, 413, 35⟩) ⟨413, 11, 413, 35⟩)
 (.cons (.ret .no ⟨414, 12, 414, 18⟩)
 .nil)
 .nil ⟨413, 8, 414, 18⟩)
 (.cons (.iff (.call (.glob 85 (.stat 224) ⟨415, 11, 415, 21⟩) (.cons (.attr (.loc 0 ⟨415, 22, 415, 26⟩) 45 ⟨415, 22, 415, 31⟩) .nil) ⟨415, 11, 415, 32⟩)
 (.cons (.expr (.meth (.loc 0 ⟨416, 12, 416, 16⟩) 80 (.cons (.glob 49 (.int 10) ⟨416, 22, 416, 29⟩) .nil) ⟨416, 12, 416, 21⟩ ⟨416, 12, 416, 30⟩) ⟨416, 12, 416, 30⟩)
 (.cons (.expr (.meth (.loc 0 ⟨417, 12, 417, 16⟩) 105 .nil ⟨417, 12, 417, 25⟩ ⟨417, 12, 417, 27⟩) ⟨417, 12, 417, 27⟩)
 (.cons (.ret .no ⟨418, 12, 418, 18⟩)
 .nil)))
 .nil ⟨415, 8, 418, 18⟩)
 (.cons (.iff (.call (.glob 48 (.stat 189) ⟨419, 11, 419, 19⟩) (.cons (.attr (.loc 0 ⟨419, 20, 419, 24⟩) 45 ⟨419, 20, 419, 29⟩) .nil) ⟨419, 11, 419, 30⟩)
 (.cons (.expr (.meth (.loc 0 ⟨420, 12, 420, 16⟩) 31 .nil ⟨420, 12, 420, 28⟩ ⟨420, 12, 420, 30⟩) ⟨420, 12, 420, 30⟩)
 (.cons (.ret .no ⟨421, 12, 421, 18⟩)
 .nil))
 .nil ⟨419, 8, 421, 18⟩)
 (.cons (.assign 132 (.call (.glob 133 (.stat 231) ⟨422, 15, 422, 27⟩) (.cons (.attr (.loc 0 ⟨422, 28, 422, 32⟩) 45 ⟨422, 28, 422, 37⟩) .nil) ⟨422, 15, 422, 38⟩) ⟨422, 8, 422, 12⟩ ⟨422, 8, 422, 38⟩)
 (.cons (.expr (.meth (.loc 0 ⟨423, 8, 423, 12⟩) 80 (.cons (.ite (.cmp1 (.loc 132 ⟨423, 31, 423, 35⟩) .iss (.c .none ⟨423, 39, 423, 43⟩) ⟨423, 31, 423, 43⟩) (.attr (.loc 0 ⟨423, 18, 423, 22⟩) 45 ⟨423, 18, 423, 27⟩) (.loc 132 ⟨423, 49, 423, 53⟩) ⟨423, 18, 423, 53⟩) .nil) ⟨423, 8, 423, 17⟩ ⟨423, 8, 423, 54⟩) ⟨423, 8, 423, 54⟩)
 (.cons (.expr (.meth (.loc 0 ⟨424, 8, 424, 12⟩) 81 .nil ⟨424, 8, 424, 17⟩ ⟨424, 8, 424, 19⟩) ⟨424, 8, 424, 19⟩)
 .nil))))))
noncomputable def a_Lexer_read_digits : Ad := 462
noncomputable def p_Lexer_read_digits : List Nm := [0]
noncomputable def b_Lexer_read_digits : Ss :=
 (.cons (.assignTup [(11, ⟨427, 8, 427, 13⟩), (124, ⟨427, 15, 427, 19⟩)] 0 (.tup (.cons (.c (.int 0) ⟨427, 23, 427, 24⟩) (.cons (.c (.int 0) ⟨427, 26, 427, 27⟩) .nil)) 0 ⟨427, 22, 427, 28⟩) ⟨427, 8, 427, 19⟩ ⟨427, 8, 427, 28⟩)
 (.cons (.whil (.and (.cons (.cmp1 (.loc 124 ⟨428, 14, 428, 18⟩) .lt (.c (.int 3) ⟨428, 21, 428, 22⟩) ⟨428, 14, 428, 22⟩) (.cons (.call (.glob 48 (.stat 189) ⟨428, 27, 428, 35⟩) (.cons (.attr (.loc 0 ⟨428, 36, 428, 40⟩) 45 ⟨428, 36, 428, 45⟩) .nil) ⟨428, 27, 428, 46⟩) .nil)) ⟨428, 14, 428, 46⟩)
 (.cons (.assign 11 (.bin .sub (.bin .add (.bin .mul (.c (.int 10) ⟨429, 20, 429, 22⟩) (.loc 11 ⟨429, 25, 429, 30⟩) ⟨429, 20, 429, 30⟩) (.attr (.loc 0 ⟨429, 33, 429, 37⟩) 45 ⟨429, 33, 429, 42⟩) ⟨429, 20, 429, 42⟩) (.c (.int 48) ⟨429, 45, 429, 47⟩) ⟨429, 20, 429, 47⟩) ⟨429, 12, 429, 17⟩ ⟨429, 12, 429, 47⟩)
 (.cons (.augName 124 .add (.c (.int 1) ⟨430, 20, 430, 21⟩) ⟨430, 12, 430, 16⟩ ⟨430, 12, 430, 21⟩)
 (.cons (.expr (.meth (.loc 0 ⟨431, 12, 431, 16⟩) 81 .nil ⟨431, 12, 431, 21⟩ ⟨431, 12, 431, 23⟩) ⟨431, 12, 431, 23⟩)
 .nil))) ⟨428, 8, 431, 23⟩)
 (.cons (.iff (.cmp1 (.loc 11 ⟨432, 11, 432, 16⟩) .gt (.c (.int 255) ⟨432, 19, 432, 22⟩) ⟨432, 11, 432, 22⟩)
 (.cons (.expr (.meth (.loc 0 ⟨433, 12, 433, 16⟩) 75 (.cons (.c (.bytes [101, 115, 99, 97, 112, 101, 32, 115, 101, 113, 117, 101, 110, 99, 101, 32, 116, 111, 111, 32, 108, 97, 114, 103, 101]) ⟨433, 23, 433, 51⟩) (.cons (.glob 77 (.int 286) ⟨433, 53, 433, 62⟩) .nil)) ⟨433, 12, 433, 22⟩ ⟨433, 12, 433, 63⟩) ⟨433, 12, 433, 63⟩)
 .nil)
 .nil ⟨432, 8, 433, 63⟩)
 (.cons (.expr (.meth (.loc 0 ⟨434, 8, 434, 12⟩) 80 (.cons (.loc 11 ⟨434, 18, 434, 23⟩) .nil) ⟨434, 8, 434, 17⟩ ⟨434, 8, 434, 24⟩) ⟨434, 8, 434, 24⟩)
 .nil))))
noncomputable def a_all_tokens : Ad := 476
noncomputable def p_all_tokens : List Nm := [10, 60, 25]
noncomputable def b_all_tokens : Ss :=
 (.cons (.assignTup [(134, ⟨436, 4, 436, 9⟩), (20, ⟨436, 11, 436, 16⟩)] 0 (.tup (.cons (.call (.glob 135 (.stat 465) ⟨436, 20, 436, 25⟩) (.cons (.loc 10 ⟨436, 26, 436, 30⟩) (.cons (.loc 60 ⟨436, 32, 436, 37⟩) (.cons (.loc 25 ⟨436, 39, 436, 45⟩) .nil))) ⟨436, 20, 436, 46⟩) (.cons (.list .nil ⟨436, 48, 436, 50⟩) .nil)) 0 ⟨436, 19, 436, 51⟩) ⟨436, 4, 436, 16⟩ ⟨436, 4, 436, 51⟩)
 (.cons (.assign 136 (.meth (.loc 134 ⟨437, 12, 437, 17⟩) 137 .nil ⟨437, 12, 437, 22⟩ ⟨437, 12, 437, 24⟩) ⟨437, 4, 437, 9⟩ ⟨437, 4, 437, 24⟩)
 (.cons (.whil (.cmp1 (.attr (.loc 136 ⟨438, 10, 438, 15⟩) 56 ⟨438, 10, 438, 20⟩) .ne (.glob 69 (.int 287) ⟨438, 24, 438, 30⟩) ⟨438, 10, 438, 30⟩)
 (.cons (.expr (.meth (.loc 20 ⟨439, 8, 439, 13⟩) 34 (.cons (.tup (.cons (.attr (.loc 136 ⟨439, 22, 439, 27⟩) 56 ⟨439, 22, 439, 32⟩) (.cons (.attr (.loc 136 ⟨439, 34, 439, 39⟩) 11 ⟨439, 34, 439, 45⟩) .nil)) 0 ⟨439, 21, 439, 46⟩) .nil) ⟨439, 8, 439, 20⟩ ⟨439, 8, 439, 47⟩) ⟨439, 8, 439, 47⟩)
 (.cons (.assign 136 (.meth (.loc 134 ⟨440, 16, 440, 21⟩) 137 .nil ⟨440, 16, 440, 26⟩ ⟨440, 16, 440, 28⟩) ⟨440, 8, 440, 13⟩ ⟨440, 8, 440, 28⟩)
 .nil)) ⟨438, 4, 440, 28⟩)
 (.cons (.ret (.loc 20 ⟨441, 11, 441, 16⟩) ⟨441, 4, 441, 16⟩)
 .nil))))
noncomputable def a_f_law_tossed : Ad := 483
noncomputable def p_f_law_tossed : List Nm := [138, 124]
noncomputable def b_f_law_tossed : Ss :=
 (.cons (.assignTup [(139, ⟨444, 4, 444, 9⟩), (140, ⟨444, 11, 444, 15⟩)] 0 (.loc 138 ⟨444, 18, 444, 22⟩) ⟨444, 4, 444, 15⟩ ⟨444, 4, 444, 22⟩)
 (.cons (.assignIdx (.loc 138 ⟨445, 4, 445, 8⟩) (.c (.int 1) ⟨445, 9, 445, 10⟩) (.bin .add (.loc 140 ⟨445, 14, 445, 18⟩) (.c (.int 1) ⟨445, 21, 445, 22⟩) ⟨445, 14, 445, 22⟩) ⟨445, 4, 445, 11⟩ ⟨445, 4, 445, 22⟩)
 (.cons (.ret (.ite (.cmp1 (.loc 140 ⟨446, 43, 446, 47⟩) .lt (.call (.blt .len ⟨446, 50, 446, 53⟩) (.cons (.loc 139 ⟨446, 54, 446, 59⟩) .nil) ⟨446, 50, 446, 60⟩) ⟨446, 43, 446, 60⟩) (.bin .mod (.call (.blt .abs ⟨446, 11, 446, 14⟩) (.cons (.call (.blt .int ⟨446, 15, 446, 18⟩) (.cons (.idx (.loc 139 ⟨446, 19, 446, 24⟩) (.loc 140 ⟨446, 25, 446, 29⟩) ⟨446, 19, 446, 30⟩) .nil) ⟨446, 15, 446, 31⟩) .nil) ⟨446, 11, 446, 32⟩) (.loc 124 ⟨446, 35, 446, 39⟩) ⟨446, 11, 446, 39⟩) (.bin .mod (.bin .add (.bin .add (.bin .mul (.c (.int 7) ⟨446, 67, 446, 68⟩) (.loc 140 ⟨446, 71, 446, 75⟩) ⟨446, 67, 446, 75⟩) (.bin .fdiv (.loc 140 ⟨446, 78, 446, 82⟩) (.c (.int 2) ⟨446, 86, 446, 87⟩) ⟨446, 78, 446, 87⟩) ⟨446, 67, 446, 87⟩) (.c (.int 4) ⟨446, 90, 446, 91⟩) ⟨446, 67, 446, 91⟩) (.loc 124 ⟨446, 95, 446, 99⟩) ⟨446, 66, 446, 99⟩) ⟨446, 11, 446, 99⟩) ⟨446, 4, 446, 99⟩)
 .nil)))
noncomputable def a_f_law_told : Ad := 490
noncomputable def p_f_law_told : List Nm := [10]
noncomputable def b_f_law_told : Ss :=
 (.cons (.assignTup [(134, ⟨448, 4, 448, 9⟩), (20, ⟨448, 11, 448, 16⟩)] 0 (.tup (.cons (.call (.glob 135 (.stat 465) ⟨448, 20, 448, 25⟩) (.cons (.loc 10 ⟨448, 26, 448, 30⟩) (.cons (.c (.bytes [61, 108, 97, 119]) ⟨448, 32, 448, 39⟩) (.cons (.call (.glob 141 (.stat 53) ⟨448, 41, 448, 47⟩) .nil ⟨448, 41, 448, 49⟩) .nil))) ⟨448, 20, 448, 50⟩) (.cons (.list .nil ⟨448, 52, 448, 54⟩) .nil)) 0 ⟨448, 19, 448, 55⟩) ⟨448, 4, 448, 16⟩ ⟨448, 4, 448, 55⟩)
 (.cons (.tryRet (.cons (.assign 136 (.meth (.loc 134 ⟨450, 16, 450, 21⟩) 137 .nil ⟨450, 16, 450, 26⟩ ⟨450, 16, 450, 28⟩) ⟨450, 8, 450, 13⟩ ⟨450, 8, 450, 28⟩)
 (.cons (.whil (.cmp1 (.attr (.loc 136 ⟨451, 14, 451, 19⟩) 56 ⟨451, 14, 451, 24⟩) .ne (.glob 69 (.int 287) ⟨451, 28, 451, 34⟩) ⟨451, 14, 451, 34⟩)
 (.cons (.expr (.meth (.loc 20 ⟨452, 12, 452, 17⟩) 34 (.cons (.tup (.cons (.attr (.loc 136 ⟨452, 26, 452, 31⟩) 56 ⟨452, 26, 452, 36⟩) (.cons (.attr (.loc 136 ⟨452, 38, 452, 43⟩) 11 ⟨452, 38, 452, 49⟩) .nil)) 0 ⟨452, 25, 452, 50⟩) .nil) ⟨452, 12, 452, 24⟩ ⟨452, 12, 452, 51⟩) ⟨452, 12, 452, 51⟩)
 (.cons (.assign 136 (.meth (.loc 134 ⟨453, 20, 453, 25⟩) 137 .nil ⟨453, 20, 453, 30⟩ ⟨453, 20, 453, 32⟩) ⟨453, 12, 453, 17⟩ ⟨453, 12, 453, 32⟩)
 .nil)) ⟨451, 8, 453, 32⟩)
 .nil))
 74 ⟨454, 11, 454, 25⟩ 20 ⟨455, 16, 455, 21⟩ true ⟨455, 23, 455, 27⟩ 0 ⟨455, 15, 455, 28⟩ ⟨455, 8, 455, 28⟩ ⟨454, 4, 455, 28⟩ ⟨449, 4, 455, 28⟩)
 (.cons (.ret (.tup (.cons (.loc 20 ⟨456, 12, 456, 17⟩) (.cons (.c (.bool false) ⟨456, 19, 456, 24⟩) .nil)) 0 ⟨456, 11, 456, 25⟩) ⟨456, 4, 456, 25⟩)
 .nil)))
noncomputable def a_f_law_ends : Ad := 497
noncomputable def p_f_law_ends : List Nm := [10]
noncomputable def b_f_law_ends : Ss :=
 (.cons (.assignTup [(20, ⟨458, 4, 458, 9⟩), (18, ⟨458, 11, 458, 13⟩)] 0 (.tup (.cons (.c (.int 0) ⟨458, 17, 458, 18⟩) (.cons (.c (.int 0) ⟨458, 20, 458, 21⟩) .nil)) 0 ⟨458, 16, 458, 22⟩) ⟨458, 4, 458, 13⟩ ⟨458, 4, 458, 22⟩)
 (.cons (.whil (.cmp1 (.loc 18 ⟨459, 10, 459, 12⟩) .lt (.call (.blt .len ⟨459, 15, 459, 18⟩) (.cons (.loc 10 ⟨459, 19, 459, 23⟩) .nil) ⟨459, 15, 459, 24⟩) ⟨459, 10, 459, 24⟩)
 (.cons (.assignTup [(142, ⟨460, 8, 460, 12⟩), (143, ⟨460, 14, 460, 20⟩)] 0 (.tup (.cons (.slice (.loc 10 ⟨460, 24, 460, 28⟩) (.loc 18 ⟨460, 29, 460, 31⟩) (.bin .add (.loc 18 ⟨460, 32, 460, 34⟩) (.c (.int 1) ⟨460, 37, 460, 38⟩) ⟨460, 32, 460, 38⟩) ⟨460, 29, 460, 38⟩ ⟨460, 24, 460, 39⟩) (.cons (.slice (.loc 10 ⟨460, 41, 460, 45⟩) (.bin .add (.loc 18 ⟨460, 46, 460, 48⟩) (.c (.int 1) ⟨460, 51, 460, 52⟩) ⟨460, 46, 460, 52⟩) (.bin .add (.loc 18 ⟨460, 53, 460, 55⟩) (.c (.int 2) ⟨460, 58, 460, 59⟩) ⟨460, 53, 460, 59⟩) ⟨460, 46, 460, 59⟩ ⟨460, 41, 460, 60⟩) .nil)) 0 ⟨460, 23, 460, 61⟩) ⟨460, 8, 460, 20⟩ ⟨460, 8, 460, 61⟩)
 (.cons (.iff (.cmp1 (.loc 142 ⟨461, 11, 461, 15⟩) .inn (.tup (.cons (.c (.bytes [10]) ⟨461, 20, 461, 25⟩) (.cons (.c (.bytes [13]) ⟨461, 27, 461, 32⟩) .nil)) 0 ⟨461, 19, 461, 33⟩) ⟨461, 11, 461, 33⟩)
 (.cons (.assignTup [(20, ⟨462, 12, 462, 17⟩), (18, ⟨462, 19, 462, 21⟩)] 0 (.tup (.cons (.bin .add (.loc 20 ⟨462, 25, 462, 30⟩) (.c (.int 1) ⟨462, 33, 462, 34⟩) ⟨462, 25, 462, 34⟩) (.cons (.bin .add (.loc 18 ⟨462, 36, 462, 38⟩) (.ite (.and (.cons (.cmp1 (.loc 143 ⟨462, 47, 462, 53⟩) .inn (.tup (.cons (.c (.bytes [10]) ⟨462, 58, 462, 63⟩) (.cons (.c (.bytes [13]) ⟨462, 65, 462, 70⟩) .nil)) 0 ⟨462, 57, 462, 71⟩) ⟨462, 47, 462, 71⟩) (.cons (.cmp1 (.loc 143 ⟨462, 76, 462, 82⟩) .ne (.loc 142 ⟨462, 86, 462, 90⟩) ⟨462, 76, 462, 90⟩) .nil)) ⟨462, 47, 462, 90⟩) (.c (.int 1) ⟨462, 42, 462, 43⟩) (.c (.int 0) ⟨462, 96, 462, 97⟩) ⟨462, 42, 462, 97⟩) ⟨462, 36, 462, 98⟩) .nil)) 0 ⟨462, 24, 462, 99⟩) ⟨462, 12, 462, 21⟩ ⟨462, 12, 462, 99⟩)
 .nil)
 .nil ⟨461, 8, 462, 99⟩)
 (.cons (.assign 18 (.bin .add (.loc 18 ⟨463, 13, 463, 15⟩) (.c (.int 1) ⟨463, 18, 463, 19⟩) ⟨463, 13, 463, 19⟩) ⟨463, 8, 463, 10⟩ ⟨463, 8, 463, 19⟩)
 .nil))) ⟨459, 4, 463, 19⟩)
 (.cons (.ret (.loc 20 ⟨464, 11, 464, 16⟩) ⟨464, 4, 464, 16⟩)
 .nil)))
noncomputable def a_law : Ad := 502
noncomputable def p_law : List Nm := [144]
noncomputable def b_law : Ss :=
 (.cons (.opaq 0)
 (.cons (.opaq 1)
 (.cons (.opaq 2)
 (.cons (.assignTup [(145, ⟨469, 4, 469, 10⟩), (146, ⟨469, 12, 469, 22⟩)] 0 (.call (.glob 147 (.stat 490) ⟨469, 25, 469, 34⟩) (.cons (.loc 10 ⟨469, 35, 469, 39⟩) .nil) ⟨469, 25, 469, 40⟩) ⟨469, 4, 469, 22⟩ ⟨469, 4, 469, 40⟩)
 (.cons (.iff (.and (.cons (.not (.loc 146 ⟨470, 11, 470, 21⟩) ⟨470, 7, 470, 21⟩) (.cons (.cmp1 (.call (.glob 148 (.stat 476) ⟨470, 26, 470, 36⟩) (.cons (.loc 10 ⟨470, 37, 470, 41⟩) (.cons (.c (.bytes [61, 108, 97, 119]) ⟨470, 43, 470, 50⟩) (.cons (.call (.glob 141 (.stat 53) ⟨470, 52, 470, 58⟩) .nil ⟨470, 52, 470, 60⟩) .nil))) ⟨470, 26, 470, 61⟩) .ne (.loc 145 ⟨470, 65, 470, 71⟩) ⟨470, 26, 470, 71⟩) .nil)) ⟨470, 7, 470, 71⟩)
 (.cons (.ret (.c (.bool false) ⟨471, 15, 471, 20⟩) ⟨471, 8, 471, 20⟩)
 .nil)
 .nil ⟨470, 4, 471, 20⟩)
 (.cons (.assignTup [(134, ⟨472, 4, 472, 9⟩), (124, ⟨472, 11, 472, 15⟩), (149, ⟨472, 17, 472, 20⟩)] 0 (.tup (.cons (.call (.glob 135 (.stat 465) ⟨472, 24, 472, 29⟩) (.cons (.loc 10 ⟨472, 30, 472, 34⟩) (.cons (.c (.bytes [61, 108, 97, 119]) ⟨472, 36, 472, 43⟩) (.cons (.call (.glob 141 (.stat 53) ⟨472, 45, 472, 51⟩) .nil ⟨472, 45, 472, 53⟩) .nil))) ⟨472, 24, 472, 54⟩) (.cons (.c (.int 0) ⟨472, 56, 472, 57⟩) (.cons (.c (.int 0) ⟨472, 59, 472, 60⟩) .nil))) 0 ⟨472, 23, 472, 61⟩) ⟨472, 4, 472, 20⟩ ⟨472, 4, 472, 61⟩)
 (.cons (.whil (.cmp1 (.loc 124 ⟨473, 10, 473, 14⟩) .lt (.call (.blt .len ⟨473, 17, 473, 20⟩) (.cons (.loc 145 ⟨473, 21, 473, 27⟩) .nil) ⟨473, 17, 473, 28⟩) ⟨473, 10, 473, 28⟩)
 (.cons (.assign 136 (.meth (.loc 134 ⟨474, 16, 474, 21⟩) 137 .nil ⟨474, 16, 474, 26⟩ ⟨474, 16, 474, 28⟩) ⟨474, 8, 474, 13⟩ ⟨474, 8, 474, 28⟩)
 (.cons (.iff (.or (.cons (.cmp1 (.tup (.cons (.attr (.loc 136 ⟨475, 12, 475, 17⟩) 56 ⟨475, 12, 475, 22⟩) (.cons (.attr (.loc 136 ⟨475, 24, 475, 29⟩) 11 ⟨475, 24, 475, 35⟩) .nil)) 0 ⟨475, 11, 475, 36⟩) .ne (.idx (.loc 145 ⟨475, 40, 475, 46⟩) (.loc 124 ⟨475, 47, 475, 51⟩) ⟨475, 40, 475, 52⟩) ⟨475, 11, 475, 52⟩) (.cons (.cmp1 (.attr (.loc 134 ⟨475, 56, 475, 61⟩) 18 ⟨475, 56, 475, 64⟩) .lt (.loc 149 ⟨475, 67, 475, 70⟩) ⟨475, 56, 475, 70⟩) .nil)) ⟨475, 11, 475, 70⟩)
 (.cons (.ret (.c (.bool false) ⟨476, 19, 476, 24⟩) ⟨476, 12, 476, 24⟩)
 .nil)
 .nil ⟨475, 8, 476, 24⟩)
 (.cons (.assignTup [(124, ⟨477, 8, 477, 12⟩), (149, ⟨477, 14, 477, 17⟩)] 0 (.tup (.cons (.bin .add (.loc 124 ⟨477, 21, 477, 25⟩) (.c (.int 1) ⟨477, 28, 477, 29⟩) ⟨477, 21, 477, 29⟩) (.cons (.attr (.loc 134 ⟨477, 31, 477, 36⟩) 18 ⟨477, 31, 477, 39⟩) .nil)) 0 ⟨477, 20, 477, 40⟩) ⟨477, 8, 477, 17⟩ ⟨477, 8, 477, 40⟩)
 (.cons (.assign 70 (.ite (.and (.cons (.cmp1 (.loc 124 ⟨478, 21, 478, 25⟩) .lt (.call (.blt .len ⟨478, 28, 478, 31⟩) (.cons (.loc 145 ⟨478, 32, 478, 38⟩) .nil) ⟨478, 28, 478, 39⟩) ⟨478, 21, 478, 39⟩) (.cons (.cmp1 (.call (.glob 150 (.stat 483) ⟨478, 44, 478, 55⟩) (.cons (.cel 138 ⟨478, 56, 478, 60⟩) (.cons (.c (.int 3) ⟨478, 62, 478, 63⟩) .nil)) ⟨478, 44, 478, 64⟩) .eq (.c (.int 0) ⟨478, 68, 478, 69⟩) ⟨478, 44, 478, 69⟩) .nil)) ⟨478, 21, 478, 69⟩) (.c (.int 1) ⟨478, 16, 478, 17⟩) (.c (.int 0) ⟨478, 75, 478, 76⟩) ⟨478, 16, 478, 76⟩) ⟨478, 8, 478, 13⟩ ⟨478, 8, 478, 76⟩)
 (.cons (.iff (.and (.cons (.cmp1 (.loc 70 ⟨479, 11, 479, 16⟩) .eq (.c (.int 1) ⟨479, 20, 479, 21⟩) ⟨479, 11, 479, 21⟩) (.cons (.cmp1 (.attr (.meth (.loc 134 ⟨479, 26, 479, 31⟩) 151 .nil ⟨479, 26, 479, 41⟩ ⟨479, 26, 479, 43⟩) 56 ⟨479, 26, 479, 48⟩) .ne (.idx (.idx (.loc 145 ⟨479, 52, 479, 58⟩) (.loc 124 ⟨479, 59, 479, 63⟩) ⟨479, 52, 479, 64⟩) (.c (.int 0) ⟨479, 65, 479, 66⟩) ⟨479, 52, 479, 67⟩) ⟨479, 26, 479, 67⟩) .nil)) ⟨479, 11, 479, 67⟩)
 (.cons (.ret (.c (.bool false) ⟨480, 19, 480, 24⟩) ⟨480, 12, 480, 24⟩)
 .nil)
 .nil ⟨479, 8, 480, 24⟩)
 (.cons (.iff (.or (.cons (.cmp1 (.call (.glob 147 (.stat 490) ⟨481, 11, 481, 20⟩) (.cons (.slice (.loc 10 ⟨481, 21, 481, 25⟩) (.attr (.loc 134 ⟨481, 26, 481, 31⟩) 18 ⟨481, 26, 481, 34⟩) .no ⟨481, 26, 481, 35⟩ ⟨481, 21, 481, 36⟩) .nil) ⟨481, 11, 481, 37⟩) .ne (.tup (.cons (.slice (.loc 145 ⟨481, 42, 481, 48⟩) (.bin .add (.loc 124 ⟨481, 49, 481, 53⟩) (.loc 70 ⟨481, 56, 481, 61⟩) ⟨481, 49, 481, 61⟩) .no ⟨481, 49, 481, 62⟩ ⟨481, 42, 481, 63⟩) (.cons (.loc 146 ⟨481, 65, 481, 75⟩) .nil)) 0 ⟨481, 41, 481, 76⟩) ⟨481, 11, 481, 76⟩) (.cons (.cmp1 (.attr (.loc 134 ⟨481, 80, 481, 85⟩) 43 ⟨481, 80, 481, 90⟩) .ne (.bin .add (.c (.int 1) ⟨481, 94, 481, 95⟩) (.call (.glob 152 (.stat 497) ⟨481, 98, 481, 107⟩) (.cons (.slice (.loc 10 ⟨481, 108, 481, 112⟩) .no (.attr (.loc 134 ⟨481, 114, 481, 119⟩) 18 ⟨481, 114, 481, 122⟩) ⟨481, 113, 481, 122⟩ ⟨481, 108, 481, 123⟩) .nil) ⟨481, 98, 481, 124⟩) ⟨481, 94, 481, 124⟩) ⟨481, 80, 481, 124⟩) .nil)) ⟨481, 11, 481, 124⟩)
 (.cons (.ret (.c (.bool false) ⟨482, 19, 482, 24⟩) ⟨482, 12, 482, 24⟩)
 .nil)
 .nil ⟨481, 8, 482, 24⟩)
 .nil)))))) ⟨473, 4, 482, 24⟩)
 (.cons (.ret (.or (.cons (.loc 146 ⟨483, 11, 483, 21⟩) (.cons (.and (.cons (.cmp1 (.attr (.meth (.loc 134 ⟨483, 26, 483, 31⟩) 137 .nil ⟨483, 26, 483, 36⟩ ⟨483, 26, 483, 38⟩) 56 ⟨483, 26, 483, 43⟩) .eq (.glob 69 (.int 287) ⟨483, 47, 483, 53⟩) ⟨483, 26, 483, 53⟩) (.cons (.cmp1 (.attr (.loc 134 ⟨483, 58, 483, 63⟩) 18 ⟨483, 58, 483, 66⟩) .eq (.call (.blt .len ⟨483, 70, 483, 73⟩) (.cons (.loc 10 ⟨483, 74, 483, 78⟩) .nil) ⟨483, 70, 483, 79⟩) ⟨483, 58, 483, 79⟩) (.cons (.cmp1 (.attr (.loc 134 ⟨483, 85, 483, 90⟩) 43 ⟨483, 85, 483, 95⟩) .eq (.bin .add (.c (.int 1) ⟨483, 99, 483, 100⟩) (.call (.glob 152 (.stat 497) ⟨483, 103, 483, 112⟩) (.cons (.loc 10 ⟨483, 113, 483, 117⟩) .nil) ⟨483, 103, 483, 118⟩) ⟨483, 99, 483, 118⟩) ⟨483, 85, 483, 118⟩) .nil))) ⟨483, 26, 483, 119⟩) .nil)) ⟨483, 11, 483, 120⟩) ⟨483, 4, 483, 120⟩)
 .nil))))))))
end Lx
namespace Lx
noncomputable def lexMT : List (Nm × Ad) := [(137, 287), (151, 294), (75, 301), (87, 308), (73, 315), (81, 322), (80, 329), (83, 336), (116, 343), (88, 350), (105, 357), (71, 364), (89, 371), (107, 378), (108, 385), (104, 392), (96, 399), (98, 406), (97, 413), (94, 420), (110, 427), (111, 434), (127, 441), (92, 448), (131, 455), (31, 462)]
noncomputable def MTt (C : Ad) (n : Nm) : Option Ad := if C = 465 then lexMT.lookup n else none
noncomputable def reserved : List (List UInt8) := [[97, 110, 100], [98, 114, 101, 97, 107], [100, 111], [101, 108, 115, 101], [101, 108, 115, 101, 105, 102], [101, 110, 100], [102, 97, 108, 115, 101], [102, 111, 114], [102, 117, 110, 99, 116, 105, 111, 110], [105, 102], [105, 110], [108, 111, 99, 97, 108], [110, 105, 108], [110, 111, 116], [111, 114], [114, 101, 112, 101, 97, 116], [114, 101, 116, 117, 114, 110], [116, 104, 101, 110], [116, 114, 117, 101], [117, 110, 116, 105, 108], [119, 104, 105, 108, 101]]
noncomputable def others : List (List UInt8) := [[46, 46], [46, 46, 46], [61, 61], [62, 61], [60, 61], [126, 61], [60, 110, 117, 109, 98, 101, 114, 62], [60, 110, 97, 109, 101, 62], [60, 115, 116, 114, 105, 110, 103, 62], [60, 101, 111, 102, 62]]
noncomputable def SLt (a : Ad) : Option (List V) := if a = 181 then some (reserved.map .bytes) else if a = 182 then some (others.map .bytes) else none
noncomputable def fieldNames : List Nm := [12, 13, 1, 2, 3, 4, 5, 6, 7, 8, 9, 10, 56, 11, 38, 60, 25, 52, 18, 45, 43, 65, 66, 67, 70]
noncomputable def classes : List Ad := [53, 262, 465]
noncomputable def globTab : List (Nm × V) := [(17, (.bytes [32, 9, 10, 11, 12, 13])),
  (23, (.stat 117)),
  (24, (.stat 110)),
  (26, (.stat 145)),
  (28, (.stat 131)),
  (31, (.stat 124)),
  (32, (.stat 103)),
  (36, (.stat 96)),
  (37, (.stat 152)),
  (40, (.stat 166)),
  (44, (.stat 173)),
  (46, (.int 95)),
  (47, (.stat 196)),
  (48, (.stat 189)),
  (49, (.int 10)),
  (50, (.int 13)),
  (54, (.stat 181)),
  (55, (.int 257)),
  (57, (.stat 217)),
  (58, (.stat 159)),
  (59, (.stat 182)),
  (61, (.stat 180)),
  (62, (.int 80)),
  (63, (.stat 238)),
  (64, (.int (-1))),
  (68, (.stat 262)),
  (69, (.int 287)),
  (74, (.stat 87)),
  (76, (.int 285)),
  (77, (.int 286)),
  (78, (.int 284)),
  (79, (.stat 245)),
  (85, (.stat 224)),
  (86, (.int 2147483645)),
  (90, (.int 34)),
  (91, (.int 39)),
  (93, (.int 91)),
  (95, (.int 46)),
  (99, (.int 45)),
  (100, (.int 61)),
  (101, (.int 60)),
  (102, (.int 62)),
  (103, (.int 126)),
  (106, (.stat 210)),
  (112, (.int 280)),
  (113, (.int 282)),
  (114, (.int 281)),
  (115, (.int 283)),
  (117, (.int 279)),
  (118, (.int 278)),
  (119, (.stat 203)),
  (121, (.int 43)),
  (122, (.stat 138)),
  (128, (.int 93)),
  (130, (.int 92)),
  (133, (.stat 231)),
  (135, (.stat 465)),
  (141, (.stat 53)),
  (147, (.stat 490)),
  (148, (.stat 476)),
  (150, (.stat 483)),
  (152, (.stat 497))]
noncomputable def staticDefs : List Ad := [96, 103, 110, 117, 124, 131, 138, 145, 152, 159, 166, 173, 180, 189, 196, 203, 210, 217, 224, 231, 238, 245, 476, 483, 490, 497, 502, 53, 262, 465, 87]
noncomputable def Out.mk0 (C : Ad → List V → MH → (V → MH → Prop) → (MH → Prop) → Prop) (band : Int → Int → Int) : Out :=
  { C := C, MT := MTt, SL := SLt, band := band, nAppend := 34, nReverse := 35, nFind := 51, nGet := 120, LSE := 87, OP := fun u_ u_ u_ u_ => False }
end Lx
namespace Lx
theorem sl1 {m k : Nat} (h : k < m) : m - (k + 1) < m - k := Nat.sub_lt_sub_left h (Nat.lt_succ_self k)
theorem sl2 {m k : Nat} (h : k < m) : m - (k + 2) < m - k := Nat.sub_lt_sub_left h (Nat.lt_add_of_pos_right (Nat.succ_pos 1))
theorem sb1 {a b : Nat} (h : b + 1 ≤ a) : a - b = a - (b + 1) + 1 := (Nat.succ_pred_eq_of_pos (Nat.sub_pos_of_lt h)).symm
theorem sb2 {a b : Nat} (h : b + 1 + 1 ≤ a) : a - b = a - (b + 1 + 1) + 2 := (sb1 (Nat.le_of_succ_le h)).trans (congrArg Nat.succ (sb1 h))
theorem abs0 {p : Prop} {a b : Nat} (h : b < a) (e : 0 = a - b) : p := absurd e (Nat.ne_of_lt (Nat.sub_pos_of_lt h))
theorem i_lt {a b : Nat} (h : a < b) : (a : Int) < (b : Int) := Int.ofNat_lt.mpr h
theorem i_nlt {a b : Nat} (h : ¬ a < b) : ¬ (a : Int) < (b : Int) := fun q => h (Int.ofNat_lt.mp q)
theorem vNon_inv {v : V} {t : Bool} (e : vNon v = some t) : v = .none := by cases v <;> first | (cases e; done) | rfl
theorem vBoo_inv {v : V} {t : Bool} (e : vBoo v = some t) : v = .bool t := by cases v <;> first | (cases e; done) | (cases e; rfl)
theorem vInt_inv {v : V} {i : Int} (e : vInt v = some i) : v = .int i := by cases v <;> first | (cases e; done) | (cases e; rfl)
theorem vByt_inv {v : V} {b : List UInt8} (e : vByt v = some b) : v = .bytes b := by cases v <;> first | (cases e; done) | (cases e; rfl)
theorem vTup_inv {v : V} {b : List V} (e : vTup v = some b) : v = .tup b := by cases v <;> first | (cases e; done) | (cases e; rfl)
theorem vRef_inv {v : V} {a : Ad} (e : vRef v = some a) : v = .ref a := by cases v <;> first | (cases e; done) | (cases e; rfl)
theorem vStat_inv {v : V} {a : Ad} (e : vStat v = some a) : v = .stat a := by cases v <;> first | (cases e; done) | (cases e; rfl)
theorem moList_inv {o : Option MO} {vs : List V} (e : o.bind moList = some vs) : o = some (.list vs) := by
  obtain ⟨o, rfl, e⟩ := Option.bind_eq_some_iff.mp e
  cases o <;> first | (cases e; done) | (cases e; rfl)
theorem moFlds_inv {o : Option MO} {fs : Fs} (e : o.bind moFlds = some fs) : o = some (.flds fs) := by
  obtain ⟨o, rfl, e⟩ := Option.bind_eq_some_iff.mp e
  cases o <;> first | (cases e; done) | (cases e; rfl)
theorem lookup_mem {l : List (Nm × Ad)} {a : Nm} {b : Ad} (h : l.lookup a = some b) : (a, b) ∈ l := by
  induction l with
  | nil => cases h
  | cons p r ih =>
    obtain ⟨c, d⟩ := p
    rw [List.lookup_cons] at h
    cases q : a == c with
    | true => rw [q] at h; cases h; rw [beq_iff_eq.mp q]; exact .head _
    | false => rw [q] at h; exact .tail _ (ih h)
theorem ite_sm {α : Type} {p : Prop} [Decidable p] {a b : α} (e : ite p (some a) none = some b) : p ∧ a = b := by
  by_cases h : p
  · exact ⟨h, Option.some.inj ((if_pos h).symm.trans e)⟩
  · cases (if_neg h).symm.trans e
theorem moBarr_inv {o : Option MO} {vs : List UInt8} (e : o.bind moBarr = some vs) : o = some (.barr vs) := by
  obtain ⟨o, rfl, e⟩ := Option.bind_eq_some_iff.mp e
  cases o <;> first | (cases e; done) | (cases e; rfl)
theorem moDict_inv {o : Option MO} {vs} (e : o.bind moDict = some vs) : o = some (.bdict vs) := by
  obtain ⟨o, rfl, e⟩ := Option.bind_eq_some_iff.mp e
  cases o <;> first | (cases e; done) | (cases e; rfl)
theorem vBt_inv {v : V} {t : B} (e : vBt v = some t) : v = .bt t := by cases v <;> first | (cases e; done) | (cases e; rfl)
theorem arg0 {α : Type} {vs : List α} {p : Prop} (e : on0 vs p) : vs = [] ∧ p := by
  cases vs with
  | nil => exact ⟨rfl, e⟩
  | cons => exact e.elim
theorem arg1 {α : Type} {vs : List α} {f : α → Prop} (e : on1 vs f) : ∃ v, vs = [v] ∧ f v := by
  cases vs with
  | nil => exact e.elim
  | cons v vs => obtain ⟨rfl, e⟩ := arg0 e; exact ⟨v, rfl, e⟩
theorem arg2 {α : Type} {vs : List α} {f : α → α → Prop} (e : on2 vs f) : ∃ v u, vs = [v, u] ∧ f v u := by
  cases vs with
  | nil => exact e.elim
  | cons v vs => obtain ⟨u, rfl, e⟩ := arg1 e; exact ⟨v, u, rfl, e⟩
theorem oInst {m : Option MO} {α : Type} {f : Ad → Ad → Option α} {u : α} (e : (match m with | some (.inst C d) => f C d | _ => none) = some u) : ∃ C d, m = some (.inst C d) ∧ f C d = some u := by
  cases m with
  | none => cases e
  | some o => cases o <;> first | (cases e; done) | exact ⟨_, _, rfl, e⟩
theorem oFlds {m : Option MO} {α : Type} {f : Fs → Option α} {u : α} (e : (match m with | some (.flds fs) => f fs | _ => none) = some u) : ∃ fs, m = some (.flds fs) ∧ f fs = some u := by
  cases m with
  | none => cases e
  | some o => cases o <;> first | (cases e; done) | exact ⟨_, rfl, e⟩
theorem oList {m : Option MO} {α : Type} {f : List V → Option α} {u : α} (e : (match m with | some (.list vs) => f vs | _ => none) = some u) : ∃ vs, m = some (.list vs) ∧ f vs = some u := by
  cases m with
  | none => cases e
  | some o => cases o <;> first | (cases e; done) | exact ⟨_, rfl, e⟩
theorem pFlds {m : Option MO} {f : Fs → Prop} (e : match m with | some (.flds fs) => f fs | _ => False) : ∃ fs, m = some (.flds fs) ∧ f fs := by
  cases m with
  | none => exact e.elim
  | some o => cases o <;> first | exact e.elim | exact ⟨_, rfl, e⟩
theorem pList {m : Option MO} {f : List V → Prop} (e : match m with | some (.list vs) => f vs | _ => False) : ∃ vs, m = some (.list vs) ∧ f vs := by
  cases m with
  | none => exact e.elim
  | some o => cases o <;> first | exact e.elim | exact ⟨_, rfl, e⟩
theorem pBarr {m : Option MO} {f : List UInt8 → Prop} (e : match m with | some (.barr vs) => f vs | _ => False) : ∃ vs, m = some (.barr vs) ∧ f vs := by
  cases m with
  | none => exact e.elim
  | some o => cases o <;> first | exact e.elim | exact ⟨_, rfl, e⟩
theorem pDict {m : Option MO} {f : List (List UInt8 × V) → Prop} (e : match m with | some (.bdict vs) => f vs | _ => False) : ∃ vs, m = some (.bdict vs) ∧ f vs := by
  cases m with
  | none => exact e.elim
  | some o => cases o <;> first | exact e.elim | exact ⟨_, rfl, e⟩
theorem pOpt {α : Type} {m : Option α} {f : α → Prop} (e : match m with | some x => f x | none => False) : ∃ x, m = some x ∧ f x := by
  cases m with
  | none => exact e.elim
  | some o => exact ⟨_, rfl, e⟩
theorem attrV_inv {mh : MH} {v : V} {f : Nm} {u : V} (e : attrV mh v f = some u) : ∃ x C d fs, v = .ref x ∧ mh x = some (.inst C d) ∧ mh d = some (.flds fs) ∧ fs f = some u := by
  cases v with
  | ref x =>
    obtain ⟨C, d, h1, e⟩ := oInst e
    obtain ⟨fs, h2, e⟩ := oFlds e
    exact ⟨x, C, d, fs, rfl, h1, h2, e⟩
  | _ => cases e
theorem eq0_inv {v u : V} {t : Bool} (e : eq0 v u = some t) : (v = .none ∧ u = .none ∧ t = true) ∨ (∃ a b, v = .bool a ∧ u = .bool b ∧ t = (a == b)) ∨ (∃ a b, v = .int a ∧ u = .int b ∧ t = (a == b)) ∨ ∃ a b, v = .bytes a ∧ u = .bytes b ∧ t = (a == b) := by
  cases v with
  | none => obtain rfl := vNon_inv e; cases e; exact .inl ⟨rfl, rfl, rfl⟩
  | bool a => obtain ⟨b, h, rfl⟩ := Option.map_eq_some_iff.mp e; exact .inr (.inl ⟨a, b, rfl, vBoo_inv h, rfl⟩)
  | int a => obtain ⟨b, h, rfl⟩ := Option.map_eq_some_iff.mp e; exact .inr (.inr (.inl ⟨a, b, rfl, vInt_inv h, rfl⟩))
  | bytes a => obtain ⟨b, h, rfl⟩ := Option.map_eq_some_iff.mp e; exact .inr (.inr (.inr ⟨a, b, rfl, vByt_inv h, rfl⟩))
  | _ => cases e
theorem eq1_inv {v u : V} {t : Bool} (e : eq1 v u = some t) : (∃ xs ys, v = .tup xs ∧ u = .tup ys ∧ eqL eq0 xs ys = some t) ∨ eq0 v u = some t := by
  cases v with
  | tup xs => obtain ⟨ys, h, e⟩ := Option.bind_eq_some_iff.mp e; exact .inl ⟨xs, ys, rfl, vTup_inv h, e⟩
  | _ => exact .inr e
theorem eq2_inv {mh : MH} {v u : V} {t : Bool} (e : eq2 mh v u = some t) : (∃ x y xs ys, v = .ref x ∧ u = .ref y ∧ mh x = some (.list xs) ∧ mh y = some (.list ys) ∧ eqLs eq1 xs ys = some t) ∨ eq1 v u = some t := by
  cases v with
  | ref x =>
    obtain ⟨y, h, e⟩ := Option.bind_eq_some_iff.mp e
    obtain ⟨xs, h1, e⟩ := Option.bind_eq_some_iff.mp e
    obtain ⟨ys, h2, e⟩ := Option.bind_eq_some_iff.mp e
    exact .inl ⟨x, y, xs, ys, rfl, vRef_inv h, moList_inv h1, moList_inv h2, e⟩
  | _ => exact .inr e
theorem eq2_ref {mh : MH} {x y : Ad} {t : Bool} (e : eq2 mh (.ref x) (.ref y) = some t) : ∃ xs ys, mh x = some (.list xs) ∧ mh y = some (.list ys) ∧ eqLs eq1 xs ys = some t := by
  obtain ⟨xs, h1, e⟩ := Option.bind_eq_some_iff.mp e
  obtain ⟨ys, h2, e⟩ := Option.bind_eq_some_iff.mp e
  exact ⟨xs, ys, moList_inv h1, moList_inv h2, e⟩
theorem isSome_inv {α : Type} {o : Option α} (e : o.isSome = true) : ∃ x, o = some x := Option.isSome_iff_exists.mp e
theorem sameTy_inv {v u : V} (e : sameTy v u = true) : (∃ a b, v = .int a ∧ u = .int b) ∨ (∃ a b, v = .bytes a ∧ u = .bytes b) ∨ (∃ a b, v = .tup a ∧ u = .tup b) ∨ ∃ a b, v = .ref a ∧ u = .ref b := by
  cases v with
  | int a => obtain ⟨b, h⟩ := isSome_inv e; exact .inl ⟨a, b, rfl, vInt_inv h⟩
  | bytes a => obtain ⟨b, h⟩ := isSome_inv e; exact .inr (.inl ⟨a, b, rfl, vByt_inv h⟩)
  | tup a => obtain ⟨b, h⟩ := isSome_inv e; exact .inr (.inr (.inl ⟨a, b, rfl, vTup_inv h⟩))
  | ref a => obtain ⟨b, h⟩ := isSome_inv e; exact .inr (.inr (.inr ⟨a, b, rfl, vRef_inv h⟩))
  | _ => cases e
end Lx
namespace Lx
open PySem PySem.W PySem.Calls PyProof.Rows PySem.Spec
noncomputable def NN : Nat := names.length
noncomputable def nm (i : Nm) : PySem.Str := PySem.Str.ofString (names.getD i "")
noncomputable def toP (p : P) : Pos := ⟨p.l, p.c, p.el, p.ec⟩
noncomputable def toC : V → Const
  | .bool b => .bool b
  | .int i => .int i
  | .bytes b => .bytes b
  | _ => .none
noncomputable def toO : Op → Operator
  | .add => .Add | .sub => .Sub | .mul => .Mult | .fdiv => .FloorDiv | .mod => .Mod | .band => .BitAnd | .shl => .LShift
noncomputable def toCp : Cp → CmpOp
  | .eq => .Eq | .ne => .NotEq | .lt => .Lt | .le => .LtE | .gt => .Gt | .ge => .GtE | .iss => .Is | .isNot => .IsNot | .inn => .In | .notIn => .NotIn
noncomputable def bName : B → String
  | .len => "len" | .bytes => "bytes" | .bytearray => "bytearray" | .abs => "abs" | .int => "int" | .bool => "bool" | .isinstance => "isinstance" | .range => "range" | .max => "max" | .enumerate => "enumerate"
noncomputable def bVal : B → Value
  | .len => .builtin "len" | .bytes => .type "bytes" | .bytearray => .type "bytearray" | .abs => .builtin "abs" | .int => .type "int" | .bool => .type "bool" | .isinstance => .builtin "isinstance" | .range => .type "range" | .max => .builtin "max" | .enumerate => .type "enumerate"
noncomputable def isNo (e : E) : Bool := @E.casesOn (fun u_ => Bool) e (fun u_ u_ => false) (fun u_ u_ => false) (fun u_ u_ => false) (fun u_ u_ u_ => false) (fun u_ u_ => false) (fun u_ u_ u_ => false) (fun u_ u_ u_ u_ => false) (fun u_ u_ => false) (fun u_ u_ => false) (fun u_ u_ => false) (fun u_ u_ => false) (fun u_ u_ u_ u_ => false) (fun u_ u_ u_ u_ u_ u_ => false) (fun u_ u_ u_ u_ => false) (fun u_ u_ u_ => false) (fun u_ u_ => false) (fun u_ u_ u_ => false) (fun u_ u_ u_ u_ u_ => false) (fun u_ => false) true (fun u_ u_ u_ => false) (fun u_ u_ u_ u_ u_ => false)
mutual
noncomputable def toE : E → PySem.Expr
  | .c v p => .Constant (toC v) 0 (toP p)
  | .loc i p => .Name (nm i) (toP p)
  | .cel i p => .Name (nm i) (toP p)
  | .glob i _ p => .Name (nm i) (toP p)
  | .blt b p => .Name (PySem.Str.ofString (bName b)) (toP p)
  | .attr o f p => .Attribute (toE o) (nm f) (toP p)
  | .bin op l r p => .BinOp (toE l) (toO op) (toE r) (toP p)
  | .neg e p => .UnaryOp .USub (toE e) (toP p)
  | .not e p => .UnaryOp .Not (toE e) (toP p)
  | .and es p => .BoolOp .And (toEs es) (toP p)
  | .or es p => .BoolOp .Or (toEs es) (toP p)
  | .cmp1 l op r p => .Compare (toE l) [toCp op] [toE r] (toP p)
  | .cmp2 l o1 m o2 r p => .Compare (toE l) [toCp o1, toCp o2] [toE m, toE r] (toP p)
  | .ite t a b p => .IfExp (toE t) (toE a) (toE b) (toP p)
  | .tup es k p => .Tuple (toEs es) k (toP p)
  | .list es p => .List (toEs es) (toP p)
  | .idx o i p => .Subscript (toE o) (toE i) (toP p)
  | .slice o lo hi sp p => .Subscript (toE o) (.Slice (if isNo lo then none else some (toE lo)) (if isNo hi then none else some (toE hi)) none (toP sp)) (toP p)
  | .dict0 p => .Dict [] [] (toP p)
  | .no => .Constant .none 0 (toP ⟨0, 0, 0, 0⟩)
  | .call f args p => .Call (toE f) (toEs args) [] (toP p)
  | .meth o n args ap p => .Call (.Attribute (toE o) (nm n) (toP ap)) (toEs args) [] (toP p)
noncomputable def toEs : Es → List PySem.Expr
  | .nil => []
  | .cons e es => toE e :: toEs es
end
noncomputable def toOptS (e : E) : Option PySem.Expr := if isNo e then none else some (toE e)
mutual
noncomputable def toS (opq : Nat → PySem.Stmt) : S → PySem.Stmt
  | .assign i e ip p => .Assign [.Name (nm i) (toP ip)] (toE e) (toP p)
  | .assignAttr o f e ap p => .Assign [.Attribute (toE o) (nm f) (toP ap)] (toE e) (toP p)
  | .assignIdx o i e ap p => .Assign [.Subscript (toE o) (toE i) (toP ap)] (toE e) (toP p)
  | .assignTup is k e tp p => .Assign [.Tuple (is.map fun x => .Name (nm x.1) (toP x.2)) k (toP tp)] (toE e) (toP p)
  | .augName i op e ip p => .AugAssign (.Name (nm i) (toP ip)) (toO op) (toE e) (toP p)
  | .augAttr o f op e ap p => .AugAssign (.Attribute (toE o) (nm f) (toP ap)) (toO op) (toE e) (toP p)
  | .iff t a b p => .If (toE t) (toSs opq a) (toSs opq b) (toP p)
  | .whil t b p => .While (toE t) (toSs opq b) [] (toP p)
  | .ret e p => .Return (toOptS e) (toP p)
  | .expr e p => .Expr (toE e) (toP p)
  | .pass p => .Pass (toP p)
  | .brk p => .Break (toP p)
  | .raise e p => .Raise (some (toE e)) none (toP p)
  | .tryRet b g gp i p1 t p2 k p3 p4 hp p => .Try (toSs opq b) [.ExceptHandler (some (.Name (nm g) (toP gp))) none [.Return (some (.Tuple [.Name (nm i) (toP p1), .Constant (.bool t) 0 (toP p2)] k (toP p3))) (toP p4)] (toP hp)] [] [] (toP p)
  | .forEnum i j ip jp k it b tp cp ep p => .For (.Tuple [.Name (nm i) (toP ip), .Name (nm j) (toP jp)] k (toP tp)) (.Call (.Name (PySem.Str.ofString "enumerate") (toP ep)) [toE it] [] (toP cp)) (toSs opq b) [] (toP p)
  | .opaq k => opq k
noncomputable def toSs (opq : Nat → PySem.Stmt) : Ss → List PySem.Stmt
  | .nil => []
  | .cons s ss => toS opq s :: toSs opq ss
end
theorem te_c {v p} : toE (.c v p) = (.Constant (toC v) 0 (toP p)) := rfl
theorem te_loc {i p} : toE (.loc i p) = (.Name (nm i) (toP p)) := rfl
theorem te_cel {i p} : toE (.cel i p) = (.Name (nm i) (toP p)) := rfl
theorem te_glob {i x0 p} : toE (.glob i x0 p) = (.Name (nm i) (toP p)) := rfl
theorem te_blt {b p} : toE (.blt b p) = (.Name (PySem.Str.ofString (bName b)) (toP p)) := rfl
theorem te_attr {o f p} : toE (.attr o f p) = (.Attribute (toE o) (nm f) (toP p)) := rfl
theorem te_bin {op l r p} : toE (.bin op l r p) = (.BinOp (toE l) (toO op) (toE r) (toP p)) := rfl
theorem te_neg {e p} : toE (.neg e p) = (.UnaryOp .USub (toE e) (toP p)) := rfl
theorem te_not {e p} : toE (.not e p) = (.UnaryOp .Not (toE e) (toP p)) := rfl
theorem te_and {es p} : toE (.and es p) = (.BoolOp .And (toEs es) (toP p)) := rfl
theorem te_or {es p} : toE (.or es p) = (.BoolOp .Or (toEs es) (toP p)) := rfl
theorem te_cmp1 {l op r p} : toE (.cmp1 l op r p) = (.Compare (toE l) [toCp op] [toE r] (toP p)) := rfl
theorem te_cmp2 {l o1 m o2 r p} : toE (.cmp2 l o1 m o2 r p) = (.Compare (toE l) [toCp o1, toCp o2] [toE m, toE r] (toP p)) := rfl
theorem te_ite {t a b p} : toE (.ite t a b p) = (.IfExp (toE t) (toE a) (toE b) (toP p)) := rfl
theorem te_tup {es k p} : toE (.tup es k p) = (.Tuple (toEs es) k (toP p)) := rfl
theorem te_list {es p} : toE (.list es p) = (.List (toEs es) (toP p)) := rfl
theorem te_idx {o i p} : toE (.idx o i p) = (.Subscript (toE o) (toE i) (toP p)) := rfl
theorem te_slice {o lo hi sp p} : toE (.slice o lo hi sp p) = (.Subscript (toE o) (.Slice (if isNo lo then none else some (toE lo)) (if isNo hi then none else some (toE hi)) none (toP sp)) (toP p)) := rfl
theorem te_dict0 {p} : toE (.dict0 p) = (.Dict [] [] (toP p)) := rfl
theorem te_no : toE .no = (.Constant .none 0 (toP ⟨0, 0, 0, 0⟩)) := rfl
theorem te_call {f args p} : toE (.call f args p) = (.Call (toE f) (toEs args) [] (toP p)) := rfl
theorem te_meth {o n args ap p} : toE (.meth o n args ap p) = (.Call (.Attribute (toE o) (nm n) (toP ap)) (toEs args) [] (toP p)) := rfl
theorem tes_nil : toEs .nil = ([]) := rfl
theorem tes_cons {e es} : toEs (.cons e es) = (toE e :: toEs es) := rfl
theorem ts_assign {opq : Nat → PySem.Stmt} {i e ip p} : toS opq (.assign i e ip p) = (.Assign [.Name (nm i) (toP ip)] (toE e) (toP p)) := rfl
theorem ts_assignAttr {opq : Nat → PySem.Stmt} {o f e ap p} : toS opq (.assignAttr o f e ap p) = (.Assign [.Attribute (toE o) (nm f) (toP ap)] (toE e) (toP p)) := rfl
theorem ts_assignIdx {opq : Nat → PySem.Stmt} {o i e ap p} : toS opq (.assignIdx o i e ap p) = (.Assign [.Subscript (toE o) (toE i) (toP ap)] (toE e) (toP p)) := rfl
theorem ts_assignTup {opq : Nat → PySem.Stmt} {is k e tp p} : toS opq (.assignTup is k e tp p) = (.Assign [.Tuple (is.map fun x => .Name (nm x.1) (toP x.2)) k (toP tp)] (toE e) (toP p)) := rfl
theorem ts_augName {opq : Nat → PySem.Stmt} {i op e ip p} : toS opq (.augName i op e ip p) = (.AugAssign (.Name (nm i) (toP ip)) (toO op) (toE e) (toP p)) := rfl
theorem ts_augAttr {opq : Nat → PySem.Stmt} {o f op e ap p} : toS opq (.augAttr o f op e ap p) = (.AugAssign (.Attribute (toE o) (nm f) (toP ap)) (toO op) (toE e) (toP p)) := rfl
theorem ts_iff {opq : Nat → PySem.Stmt} {t a b p} : toS opq (.iff t a b p) = (.If (toE t) (toSs opq a) (toSs opq b) (toP p)) := rfl
theorem ts_whil {opq : Nat → PySem.Stmt} {t b p} : toS opq (.whil t b p) = (.While (toE t) (toSs opq b) [] (toP p)) := rfl
theorem ts_ret {opq : Nat → PySem.Stmt} {e p} : toS opq (.ret e p) = (.Return (toOptS e) (toP p)) := rfl
theorem ts_expr {opq : Nat → PySem.Stmt} {e p} : toS opq (.expr e p) = (.Expr (toE e) (toP p)) := rfl
theorem ts_pass {opq : Nat → PySem.Stmt} {p} : toS opq (.pass p) = (.Pass (toP p)) := rfl
theorem ts_brk {opq : Nat → PySem.Stmt} {p} : toS opq (.brk p) = (.Break (toP p)) := rfl
theorem ts_raise {opq : Nat → PySem.Stmt} {e p} : toS opq (.raise e p) = (.Raise (some (toE e)) none (toP p)) := rfl
theorem ts_tryRet {opq : Nat → PySem.Stmt} {b g gp i p1 t p2 k p3 p4 hp p} : toS opq (.tryRet b g gp i p1 t p2 k p3 p4 hp p) = (.Try (toSs opq b) [.ExceptHandler (some (.Name (nm g) (toP gp))) none [.Return (some (.Tuple [.Name (nm i) (toP p1), .Constant (.bool t) 0 (toP p2)] k (toP p3))) (toP p4)] (toP hp)] [] [] (toP p)) := rfl
theorem ts_forEnum {opq : Nat → PySem.Stmt} {i j ip jp k it b tp cp ep p} : toS opq (.forEnum i j ip jp k it b tp cp ep p) = (.For (.Tuple [.Name (nm i) (toP ip), .Name (nm j) (toP jp)] k (toP tp)) (.Call (.Name (PySem.Str.ofString "enumerate") (toP ep)) [toE it] [] (toP cp)) (toSs opq b) [] (toP p)) := rfl
theorem ts_opaq {opq : Nat → PySem.Stmt} {k} : toS opq (.opaq k) = (opq k) := rfl
theorem tss_nil {opq : Nat → PySem.Stmt} : toSs opq .nil = ([]) := rfl
theorem tss_cons {opq : Nat → PySem.Stmt} {s ss} : toSs opq (.cons s ss) = (toS opq s :: toSs opq ss) := rfl
inductive VRep (mh : MH) (h : Heap) : V → Value → Prop where
  | none : VRep mh h .none .none
  | bool (b : Bool) : VRep mh h (.bool b) (.bool b)
  | int (i : Int) (t : Tok) : VRep mh h (.int i) (.int i t)
  | bytes (b : List UInt8) (t : Tok) (l : b.length ≤ LIM) : VRep mh h (.bytes b) (.bytes b.toArray t)
  | ref (a : Ad) : VRep mh h (.ref a) (.ref a)
  | stat (a : Ad) : VRep mh h (.stat a) (.ref a)
  | bt (b : B) : VRep mh h (.bt b) (bVal b)
  | tup (a : Ad) (vs : List V) (items : List Value) (o : Obj) (n : Nat) : mh a = Option.none → h.get? a = some o → o.cls = .type "tuple" → o.data = .seq items.toArray n →
      items.length = vs.length → vs.length ≤ LIM → (∀ (i : Nat) (v : V) (x : Value), vs[i]? = some v → items[i]? = some x → VRep mh h v x) → VRep mh h (.tup vs) (.ref a)
theorem VRep.i_none {mh h r} (a : VRep mh h .none r) : r = .none := by cases a; rfl
theorem VRep.i_bool {mh h b r} (a : VRep mh h (.bool b) r) : r = .bool b := by cases a; rfl
theorem VRep.i_int {mh h i r} (a : VRep mh h (.int i) r) : ∃ t, r = .int i t := by cases a; exact ⟨_, rfl⟩
theorem VRep.i_bytes {mh h b r} (a : VRep mh h (.bytes b) r) : ∃ t, r = .bytes b.toArray t ∧ b.length ≤ LIM := by cases a; exact ⟨_, rfl, ‹_›⟩
theorem VRep.i_ref {mh h x r} (a : VRep mh h (.ref x) r) : r = .ref x := by cases a; rfl
theorem VRep.i_stat {mh h x r} (a : VRep mh h (.stat x) r) : r = .ref x := by cases a; rfl
theorem VRep.i_bt {mh h x r} (a : VRep mh h (.bt x) r) : r = bVal x := by cases a; rfl
theorem VRep.i_tup {mh h x r} (a : VRep mh h (.tup x) r) : ∃ y, r = .ref y := by cases a; exact ⟨_, rfl⟩
structure Stp (L : Addr) (F : List Addr) (mh : MH) (h : Heap) (mh' : MH) (h' : Heap) : Prop where
  keep : ∀ a o, h.get? a = some o → mh a = none → a ≠ L → a ∉ F → h'.get? a = some o
  slots : ∀ a o, h.get? a = some o → mh a = none → a ≠ L → ∃ sl, h'.get? a = some { o with slots := sl }
  fresh : ∀ a, mh a = none → mh' a ≠ none → h.get? a = none
  alive : ∀ a o, h.get? a = some o → ∃ o', h'.get? a = some o'
theorem Stp.refl {L : Addr} {F : List Addr} {mh : MH} {h : Heap} : Stp L F mh h mh h :=
  ⟨fun u_ u_ e u_ u_ u_ => e, fun u_ o e u_ u_ => ⟨o.slots, e⟩, fun u_ e n => absurd e n, fun u_ o e => ⟨o, e⟩⟩
theorem Stp.stays {L : Addr} {F : List Addr} {mh mh' : MH} {h h' : Heap} (x : Stp L F mh h mh' h') {a : Addr} {o : Obj} (e : h.get? a = some o) (n : mh a = none) : mh' a = none := by
  cases q : mh' a with
  | none => rfl
  | some z => have := x.fresh a n (by rw [q]; simp); rw [e] at this; cases this
theorem Stp.trans {L : Addr} {F : List Addr} {m₁ m₂ m₃ : MH} {h₁ h₂ h₃ : Heap} (x : Stp L F m₁ h₁ m₂ h₂) (y : Stp L F m₂ h₂ m₃ h₃) : Stp L F m₁ h₁ m₃ h₃ where
  keep a o e n l f := y.keep a o (x.keep a o e n l f) (x.stays e n) l f
  slots a o e n l := by
    obtain ⟨sl, e'⟩ := x.slots a o e n l
    obtain ⟨sl', e''⟩ := y.slots a _ e' (x.stays e n) l
    exact ⟨sl', e''⟩
  fresh a n n' := by
    cases q : m₂ a with
    | some z => exact x.fresh a n (by rw [q]; simp)
    | none =>
      have := y.fresh a q n'
      cases e : h₁.get? a with
      | none => rfl
      | some o => obtain ⟨o', e'⟩ := x.alive a o e; rw [this] at e'; cases e'
  alive a o e := by obtain ⟨o', e'⟩ := x.alive a o e; exact y.alive a o' e'
theorem vrep_mono {mh mh' : MH} {h h' : Heap} (x : ∀ b o xs n, h.get? b = some o → mh b = none → o.data = .seq xs n → mh' b = none ∧ ∃ sl, h'.get? b = some { o with slots := sl })
    {v : V} {rv : Value} (r : VRep mh h v rv) : VRep mh' h' v rv := by
  induction r with
  | none => exact .none
  | bool b => exact .bool b
  | int i t => exact .int i t
  | bytes b t l => exact .bytes b t l
  | ref a => exact .ref a
  | stat a => exact .stat a
  | bt b => exact .bt b
  | tup a vs items o n hm ha hc hd hl hlim hi ih =>
    obtain ⟨hm', sl, e⟩ := x a o _ n ha hm hd
    exact .tup a vs items _ n hm' e hc hd hl hlim fun i v y e1 e2 => ih i v y e1 e2
theorem vrep_step {L : Addr} {F : List Addr} {mh mh' : MH} {h h' : Heap} (x : Stp L F mh h mh' h') {m : PySem.Str → Option Value} (hL : h.Ns L m) {v : V} {rv : Value} (r : VRep mh h v rv) : VRep mh' h' v rv := by
  refine vrep_mono (fun b o xs n hb hm hd => ⟨x.stays hb hm, x.slots b o hb hm fun q => ?_⟩) r
  obtain ⟨oL, es, ep, hoL, hdL, _⟩ := hL
  subst q
  rw [hb] at hoL
  cases hoL
  rw [hd] at hdL
  cases hdL
noncomputable def VReps (mh : MH) (h : Heap) (vs : List V) (items : List Value) : Prop :=
  items.length = vs.length ∧ ∀ (i : Nat) (v : V) (x : Value), vs[i]? = some v → items[i]? = some x → VRep mh h v x
theorem vreps_mono {mh mh' : MH} {h h' : Heap} (x : ∀ b o xs n, h.get? b = some o → mh b = none → o.data = .seq xs n → mh' b = none ∧ ∃ sl, h'.get? b = some { o with slots := sl })
    {vs : List V} {items : List Value} (r : VReps mh h vs items) : VReps mh' h' vs items := ⟨r.1, fun i v y a b => vrep_mono x (r.2 i v y a b)⟩
theorem vreps_step {L : Addr} {F : List Addr} {mh mh' : MH} {h h' : Heap} (x : Stp L F mh h mh' h') {m : PySem.Str → Option Value} (hL : h.Ns L m) {vs : List V} {items : List Value} (r : VReps mh h vs items) : VReps mh' h' vs items :=
  ⟨r.1, fun i v y a b => vrep_step x hL (r.2 i v y a b)⟩
theorem vreps_nil {mh : MH} {h : Heap} : VReps mh h [] [] := ⟨rfl, fun i v x e => by cases i <;> cases e⟩
theorem vreps_cons {mh : MH} {h : Heap} {v : V} {x : Value} {vs : List V} {items : List Value} (a : VRep mh h v x) (b : VReps mh h vs items) : VReps mh h (v :: vs) (x :: items) := by
  refine ⟨by simp [b.1], fun i u y e1 e2 => ?_⟩
  cases i with
  | zero => cases e1; cases e2; exact a
  | succ i => exact b.2 i u y e1 e2
noncomputable def cntF : Nat → Fs → Nat
  | 0, _ => 0
  | n + 1, fs => cntF n fs + if (fs n).isSome then 1 else 0
theorem cntF_le : ∀ (n : Nat) (fs : Fs), cntF n fs ≤ n
  | 0, _ => Nat.le_refl _
  | n + 1, fs => by have := cntF_le n fs; unfold cntF; split <;> lia
theorem cntF_same {f : Nat} {u v : V} {fs : Fs} (h : fs f = some u) : ∀ n, cntF n (fs.set f v) = cntF n fs
  | 0 => rfl
  | n + 1 => by
    unfold cntF
    rw [cntF_same h n]
    by_cases q : n = f
    · subst q; simp [Fs.set, h]
    · simp [Fs.set, q]
theorem cntF_low {f : Nat} {v : V} {fs : Fs} : ∀ n, n ≤ f → cntF n (fs.set f v) = cntF n fs
  | 0, _ => rfl
  | n + 1, l => by
    unfold cntF
    rw [cntF_low n (by lia)]
    have q : ¬ n = f := by lia
    simp [Fs.set, q]
theorem cntF_new {f : Nat} {v : V} {fs : Fs} (h : fs f = none) : ∀ n, f < n → cntF n (fs.set f v) = cntF n fs + 1
  | 0, l => by lia
  | n + 1, l => by
    unfold cntF
    by_cases q : n = f
    · subst q
      rw [cntF_low n (Nat.le_refl _)]
      simp [Fs.set, h]
    · rw [cntF_new h n (by lia)]
      simp [Fs.set, q]
      lia
inductive OInst (h : Heap) (a : Addr) (C d : Ad) : Prop
  | mk (hC : C ∈ classes) (ox : Obj) (e : h.get? a = some ox) (c : ox.cls = .ref C) (dd : ox.dict = some d) (dt : ox.data = .plain)
inductive OExc (h : Heap) (a : Addr) (C : Ad) (d : Option Ad) : Prop
  | mk (hC : C = 87) (ox : Obj) (vs : Array Value) (a0 : Value) (e : h.get? a = some ox) (c : ox.cls = .ref C) (dd : ox.dict = d) (dt : ox.data = .fields vs) (h0 : vs[0]? = some a0) (h1 : vs[1]? = some .none)
inductive OFlds (mh : MH) (h : Heap) (a : Addr) (fs : Fs) : Prop
  | mk (m : PySem.Str → Option Value) (o : Obj) (es : Array DictEntry) (ep : Nat) (e : h.get? a = some o) (dt : o.data = .dict es ep) (k : StrKeys es) (f : ∀ name, nsFind es name = m name) (c : es.size ≤ cntF NN fs) (q : ∀ i, i < NN → (fs i = none → m (nm i) = none) ∧ ∀ v, fs i = some v → ∃ rv, m (nm i) = some rv ∧ VRep mh h v rv)
inductive OList (mh : MH) (h : Heap) (a : Addr) (vs : List V) : Prop
  | mk (o : Obj) (items : List Value) (n : Nat) (e : h.get? a = some o) (c : o.cls = .type "list") (dd : o.dict = Option.none) (sl : o.slots = #[]) (dt : o.data = .seq (List.toArray items) n) (r : VReps mh h vs items) (l : vs.length ≤ LIM)
inductive OBarr (h : Heap) (a : Addr) (bs : List UInt8) : Prop
  | mk (o : Obj) (e : h.get? a = some o) (c : o.cls = .type "bytearray") (dd : o.dict = Option.none) (sl : o.slots = #[]) (dt : o.data = .bytearray bs.toArray 0) (l : bs.length ≤ LIM)
noncomputable def ORep (P : Program) (w : World) (mh : MH) (h : Heap) (a : Addr) : MO → Prop
  | .inst C d => OInst h a C d
  | .exc C d => OExc h a C d
  | .flds fs => OFlds mh h a fs
  | .list vs => OList mh h a vs
  | .barr bs => OBarr h a bs
  | .bdict kvs => ∃ kvr : List (List UInt8 × Value), h.DictOf (bytesKind P w) a kvr ∧ kvr.length = kvs.length ∧ kvs.length ≤ LIM ∧
      ∀ (i : Nat) (p : List UInt8 × V) (q : List UInt8 × Value), kvs[i]? = some p → kvr[i]? = some q → q.1 = p.1 ∧ VRep mh h p.2 q.2
theorem orep_mono {P : Program} {w : World} {mh mh' : MH} {h h' : Heap} {a : Addr} {mo : MO} (x : ∀ b o xs n, h.get? b = some o → mh b = none → o.data = .seq xs n → mh' b = none ∧ ∃ sl, h'.get? b = some { o with slots := sl })
    (k : ∀ o, h.get? a = some o → h'.get? a = some o) (r : ORep P w mh h a mo) : ORep P w mh' h' a mo := by
  cases mo with
  | inst C d => obtain ⟨hC, ox, e, r1, r2, r3⟩ := r; exact ⟨hC, ox, k _ e, r1, r2, r3⟩
  | exc C d => obtain ⟨hC, ox, vs, a0, e, r1, r2, r3, r4, r5⟩ := r; exact ⟨hC, ox, vs, a0, k _ e, r1, r2, r3, r4, r5⟩
  | flds fs =>
    obtain ⟨m, o, es, ep, e, r1, r2, r3, r4, q⟩ := r
    refine ⟨m, o, es, ep, k _ e, r1, r2, r3, r4, fun i hi => ⟨(q i hi).1, fun v hv => ?_⟩⟩
    obtain ⟨rv, e1, e2⟩ := (q i hi).2 v hv
    exact ⟨rv, e1, vrep_mono x e2⟩
  | list vs => obtain ⟨o, items, n, e, c, dd, sl, d, vr, l⟩ := r; exact ⟨o, items, n, k _ e, c, dd, sl, d, vreps_mono x vr, l⟩
  | barr bs => obtain ⟨o, e, r1, r2, r3, r4, r5⟩ := r; exact ⟨o, k _ e, r1, r2, r3, r4, r5⟩
  | bdict kvs => obtain ⟨kvr, ⟨o, es, ep, ho, r⟩, l, l', q⟩ := r; exact ⟨kvr, ⟨o, es, ep, k _ ho, r⟩, l, l', fun i en p a b => ⟨(q i en p a b).1, vrep_mono x (q i en p a b).2⟩⟩
set_option genInjectivity false in
structure Cx where
  A : Around
  env : Env
  L : Addr
  outer : List Env
  n : Nat
noncomputable def Cx.F (X : Cx) : List Addr := X.outer.filterMap (·.frame)
set_option genInjectivity false in
structure Wd where
  prog : Program
  w : World
  K : Frag
  H : Heap
  G : Array GenState
  O : OsState
  main : ∃ o, H.get? mainGlobals = some o
noncomputable def Wd.out (W : Wd) (a : Addr) : Prop := W.H.get? a = none ∧ a ≠ sysModules
structure CxOK (X : Cx) : Prop where
  frames : X.A.frames = some (X.env :: X.outer)
  handled : X.A.handled = none
  frame : X.env.frame = some X.L
  locals : X.env.locals = X.L
  globals : X.env.globals = mainGlobals
  builtins : X.env.builtins = builtinsNs
  kind : X.env.scope.kind = .function
  depth : X.A.depth + 2 * X.n < recursionLimit
  units : X.A.units + 20 * X.n + 20 < cLine
noncomputable def LV (env : Env) (m : PySem.Str → Option Value) (h : Heap) (i : Nm) (rv : Value) : Prop :=
  (env.kindOf (nm i) = some .local → m (nm i) = some rv) ∧
  (env.kindOf (nm i) = some .cell → ∃ c o, env.cells.lookup (nm i) = some c ∧ h.get? c = some o ∧ o.data = .cell (some rv))
structure Rep (W : Wd) (X : Cx) (st : St) (s : Shared) : Prop where
  stays : W.H.StaysIn s.heap
  ns : ∃ m, s.heap.Ns X.L m ∧ ∀ i v, i < NN → st.loc i = some v → ∃ rv, LV X.env m s.heap i rv ∧ VRep st.mh s.heap v rv
  objs : ∀ a o, st.mh a = some o → ORep W.prog W.w st.mh s.heap a o ∧ W.out a
  ff : s.heap.FunFrames W.H (X.env :: X.outer)
  fr : ∀ b ∈ (X.env :: X.outer).filterMap (·.frame), st.mh b = none
  cel : ∀ p ∈ X.env.cells, st.mh p.2 = none ∧ ∃ o v, s.heap.get? p.2 = some o ∧ o.data = .cell v
  gens : s.gens = W.G
  os : s.os = W.O
theorem Rep.L_none {W : Wd} {X : Cx} {st : St} {s : Shared} (c : CxOK X) (R : Rep W X st s) : st.mh X.L = none :=
  R.fr X.L (by rw [List.filterMap_cons, c.frame]; exact .head _)
theorem Rep.alive {W : Wd} {X : Cx} {st : St} {s : Shared} (R : Rep W X st s) {a : Ad} {mo : MO} (e : st.mh a = some mo) : ∃ o, s.heap.get? a = some o := by
  have := (R.objs a mo e).1
  cases mo with
  | inst C d => obtain ⟨_, o, e, _, _, _⟩ := this; exact ⟨o, e⟩
  | exc C d => obtain ⟨_, o, _, _, e, _, _, _, _, _⟩ := this; exact ⟨o, e⟩
  | flds fs => obtain ⟨_, o, _, _, e, _, _, _, _, _⟩ := this; exact ⟨o, e⟩
  | list vs => obtain ⟨o, _, _, e, _, _, _, _, _, _⟩ := this; exact ⟨o, e⟩
  | barr bs => obtain ⟨o, e, _, _, _, _, _⟩ := this; exact ⟨o, e⟩
  | bdict kvs => obtain ⟨_, ⟨o, _, _, e, _⟩, _⟩ := this; exact ⟨o, e⟩
theorem funFrames_on {h h' base : Heap} : ∀ {l : List Env}, h.FunFrames base l → (∀ b ∈ l.filterMap (·.frame), ∀ o, h.get? b = some o → ∃ o', h'.get? b = some o' ∧ o'.data = o.data) → h'.FunFrames base l
  | [], _, _ => trivial
  | env :: r, ⟨hk, ⟨L, o, hf, hn, ho, hd⟩, hr⟩, k => by
    have hL : L ∈ (env :: r).filterMap (·.frame) := by rw [List.filterMap_cons, hf]; exact .head _
    obtain ⟨o', e', d'⟩ := k L hL o ho
    refine ⟨hk, ⟨L, o', hf, hn, e', fun vs => d' ▸ hd vs⟩, funFrames_on hr fun b hb => k b ?_⟩
    rw [List.filterMap_cons, hf]; exact .tail _ hb
theorem Rep.put {W : Wd} {X : Cx} {st : St} {s : Shared} (c : CxOK X) (R : Rep W X st s) {a : Ad} {mo : MO} {h' : Heap} {tk : Nat} {dr : Drawn}
    (hk : ∀ b o, b ≠ a → s.heap.get? b = some o → h'.get? b = some o) (ha : (∃ mo, st.mh a = some mo) ∨ s.heap.get? a = none)
    (hH : W.out a) (hO : ORep W.prog W.w (st.mh.set a mo) h' a mo) (hal : ∃ o, h'.get? a = some o) :
    Rep W X { st with mh := st.mh.set a mo } ⟨h', s.gens, dr, tk, s.os⟩ ∧ Stp X.L X.F st.mh s.heap (st.mh.set a mo) h' := by
  have ne : ∀ b o, s.heap.get? b = some o → st.mh b = none → b ≠ a := fun b o e n q => by
    subst q
    (refine absG fun G_ hG_ => ?_; (rcases ha with ⟨mo', h1⟩ | h1) <;> (refine hG_ ?_; clear hG_ G_))
    · rw [n] at h1; cases h1
    · rw [e] at h1; cases h1
  have up : ∀ b o xs n, s.heap.get? b = some o → st.mh b = none → o.data = .seq xs n → (st.mh.set a mo) b = none ∧ ∃ sl, h'.get? b = some { o with slots := sl } := fun b o u_ u_ e n u_ => by
    have q := ne b o e n
    exact ⟨by simp [MH.set, q, n], o.slots, hk b o q e⟩
  refine ⟨⟨fun b o e => hk b o (fun q => by rw [q, hH.1] at e; cases e) (R.stays b o e), ?_, fun b ob e => ?_, ?_, fun b hb => ?_, fun p hp => ?_, R.gens, R.os⟩, ⟨fun b o e n u_ u_ => hk b o (ne b o e n) e, fun b o e n u_ => ⟨o.slots, hk b o (ne b o e n) e⟩, fun b n n' => ?_, fun b o e => ?_⟩⟩
  · (refine absG fun G_ hG_ => ?_; (rcases R.ns with ⟨m, ⟨oL, es, ep, eL, rL⟩, q⟩) <;> (refine hG_ ?_; clear hG_ G_))
    refine ⟨m, ⟨oL, es, ep, hk _ _ (ne _ _ eL (R.L_none c)) eL, rL⟩, fun i v hi hv => ?_⟩
    (refine absG fun G_ hG_ => ?_; (rcases q i v hi hv with ⟨rv, ⟨l1, l2⟩, vr⟩) <;> (refine hG_ ?_; clear hG_ G_))
    refine ⟨rv, ⟨l1, fun hc => ?_⟩, vrep_mono up vr⟩
    (refine absG fun G_ hG_ => ?_; (rcases l2 hc with ⟨cc, o, e1, e2, e3⟩) <;> (refine hG_ ?_; clear hG_ G_))
    refine ⟨cc, o, e1, hk _ _ (ne _ _ e2 ?_) e2, e3⟩
    have hm : ∃ p ∈ X.env.cells, p.2 = cc := by
      clear q l1 l2
      generalize X.env.cells = l at e1
      induction l with
      | nil => cases e1
      | cons p r ih =>
        rw [List.lookup_cons] at e1
        (refine absG fun G_ hG_ => ?_; (split at e1) <;> (refine hG_ ?_; clear hG_ G_))
        · cases e1; exact ⟨p, .head _, rfl⟩
        · (refine absG fun G_ hG_ => ?_; (rcases ih e1 with ⟨p', h1, h2⟩) <;> (refine hG_ ?_; clear hG_ G_)); exact ⟨p', .tail _ h1, h2⟩
    (refine absG fun G_ hG_ => ?_; (rcases hm with ⟨p, hp, rfl⟩) <;> (refine hG_ ?_; clear hG_ G_))
    exact (R.cel p hp).1
  · by_cases q : b = a
    · subst q
      simp only [MH.set, if_true] at e
      cases e
      exact ⟨hO, hH⟩
    · simp only [MH.set, if_neg q] at e
      exact ⟨orep_mono up (fun o ho => hk b o q ho) (R.objs b ob e).1, (R.objs b ob e).2⟩
  · exact funFrames_on R.ff fun b hb o ho => ⟨o, hk b o (ne b o ho (R.fr b hb)) ho, rfl⟩
  · have := R.fr b hb
    (refine absG fun G_ hG_ => ?_; (rcases R.ff.mem hb with ⟨_, o, ho, _⟩) <;> (refine hG_ ?_; clear hG_ G_))
    have q := ne b o ho this
    simp [MH.set, q, this]
  · (refine absG fun G_ hG_ => ?_; (rcases R.cel p hp with ⟨n, o, v, e, d⟩) <;> (refine hG_ ?_; clear hG_ G_))
    have q := ne _ o e n
    exact ⟨by simp [MH.set, q, n], o, v, hk _ _ q e, d⟩
  · by_cases q : b = a
    · subst q
      (refine absG fun G_ hG_ => ?_; (rcases ha with ⟨mo', h1⟩ | h1) <;> (refine hG_ ?_; clear hG_ G_))
      · rw [n] at h1; cases h1
      · exact h1
    · simp [MH.set, q, n] at n'
  · by_cases q : b = a
    · subst q; exact hal
    · exact ⟨o, hk b o q e⟩
end Lx
namespace Lx
open PySem PySem.W PySem.Calls PyProof.Rows PySem.Spec
section
variable {prog : Program} {w : World} {A : Around} {E : Value → Shared → Prop} {s : Shared} {env : Env}
theorem fNoted {α : Type} {m : Sem α} {Q : α → Shared → Prop} (h : wpF (model prog w) A m Q (notedBy (model prog w) A env E) s) : wpF (model prog w) A (m.onRaise fun x => do noteFrame x env; theTreesLotGoes x) Q E s :=
  wpF_onRaise (wpF_mono h (fun u_ u_ q => q) fun u_ u_ hx => wpF_any (wpAny_bind (wpAny_mono hx (fun u_ u_ e => wpAny_theTreesLotGoes e) fun u_ u_ e => e)))
theorem fRunOwn {c : Code} {h : Option Value} {Q : Flow → Shared → Prop} (hc : codeF (model prog w) (A.mark h) c (fun r s' => match r with | .ok f => Q f s' | .error e => cameBackBy (model prog w) A env E e s') s) (hnb : h ≠ some byPass) : wpF (model prog w) A (runOwn c env h) Q E s := by
  unfold runOwn
  exact wpF_onRaise (wpF_mono (wpF_run hc hnb) (fun u_ u_ q => q) fun u_ u_ hx => wpF_any hx)
theorem fWhile {test body pos} {Q : Flow → Shared → Prop} (I : Nat → Shared → Prop)
    (turn : ∀ n s, I n s → wpF (model prog w) A (isTrue test env (eval test env)) (fun b s₂ =>
        if b then wpF (model prog w) A (execs body env) (fun f s₃ => match f with
            | .next | .cont => ∃ m, m < n ∧ I m s₃
            | .brk => Q .next s₃
            | .ret v => Q (.ret v) s₃) (notedBy (model prog w) A env (cameBackBy (model prog w) A env E)) s₂
        else Q .next s₂) (notedBy (model prog w) A env (cameBackBy (model prog w) A env E)) s)
    (n : Nat) (h : I n s) : wpF (model prog w) A (exec (.While test body [] pos) env) Q E s := by
  rw [exec_While]
  refine wpF_standAt (fRunOwn (h := none) (codeF_loop rfl rfl I (fun n s hI => ?_) n s h) (by intro x; cases x))
  show wpF _ A ((whileTurn test body [] env).onRaise (fun x => do noteFrame x env; theTreesLotGoes x)) _ _ s
  refine fNoted ?_
  unfold whileTurn
  refine wpF_then (turn n s hI) fun b s₂ h₂ => ?_
  cases b with
  | false => exact wpF_then (P := fun f s' => f = .next ∧ s' = s₂) (wpF_any (wpAny_execs_nil ⟨rfl, rfl⟩)) fun f s' e => by obtain ⟨rfl, rfl⟩ := e; exact wpF_pure h₂
  | true =>
    refine wpF_then (m := execs body env) h₂ fun f s₃ h₃ => ?_
    cases f with
    | next => exact wpF_pure ⟨rfl, h₃⟩
    | cont => exact wpF_pure ⟨rfl, h₃⟩
    | brk => exact wpF_pure h₃
    | ret v => exact wpF_pure h₃
theorem fTry {body : List PySem.Stmt} {h₀ : PySem.ExceptHandler} {hs : List PySem.ExceptHandler} {pos : Pos} {Q : Flow → Shared → Prop}
    (h : wpF (model prog w) A (execs body env) Q
      (fun e s₁ => wpAny (model prog w) A (noteFrame e env) (fun u_ s₂ => wpAny (model prog w) A (setFlight e none) (fun u_ s₃ => wpAny (model prog w) A (handleBy e env (h₀ :: hs)) Q E s₃) E s₂) E s₁) s) :
    wpF (model prog w) A (exec (.Try body (h₀ :: hs) [] [] pos) env) Q E s := by
  rw [arm_exec_Try]
  refine wpF_standAt ?_
  unfold tryStmt
  simp only [List.isEmpty_nil, if_true, List.isEmpty_cons, Bool.false_and, Bool.false_eq_true, if_false]
  refine wpF_then (wpF_attempt (Q := fun r s₁ => match r with | .ok f => Q f s₁ | .error e => wpAny (model prog w) A (noteFrame e env) (fun u_ s₂ => wpAny (model prog w) A (setFlight e none) (fun u_ s₃ => wpAny (model prog w) A (handleBy e env (h₀ :: hs)) Q E s₃) E s₂) E s₁) h) fun r s₁ h₁ => ?_
  cases r with
  | ok f =>
    cases f with
    | next => exact wpF_any (wpAny_execs_nil h₁)
    | _ => exact wpF_pure h₁
  | error e => exact wpF_any (wpAny_bind (wpAny_mono h₁ (fun u_ u_ h₂ => wpAny_bind h₂) fun u_ u_ x => x))
theorem codeF_func {body : List PySem.Stmt} {R : Result → Shared → Prop}
    (h : wpF (model prog w) (A.deeper env) (execs body env) (fun f s' => R (.ok (.ret (match f with | .ret v => v | _ => .none))) s')
      (fun e s' => wpAny (model prog w) (A.deeper env) (leaving env e) (fun u_ s'' => R (.error e) s'') (fun e' s'' => R (.error e') s'') s') s) : codeF (model prog w) A (.func body env) R s := by
  refine codeF_tree rfl ?_
  show wpF _ (A.deeper env) (do point; match ← (execs body env).onRaise (leaving env) with | .ret v => ret v | _ => ret .none) _ _ s
  refine wpF_point (wpF_then (wpF_onRaise (wpF_mono h (fun u_ u_ q => q) fun u_ u_ x => wpF_any x)) fun f s' h' => ?_)
  cases f with
  | next => exact wpF_pure h'
  | cont => exact wpF_pure h'
  | brk => exact wpF_pure h'
  | ret v => exact wpF_pure h'
theorem codeF_call_def {R : Result → Shared → Prop} {a : Addr} {o : Obj} {fd : FuncData} {body : List PySem.Stmt} {args : Args} {binds : List (PySem.Str × Value)}
    (hroom : A.depth < recursionLimit) (ho : s.heap.get? a = some o) (hdata : o.data = .func fd) (hlim : s.heap.NoLimit) (hcd : s.heap.CodeRec fd.code fd.qualname)
    (hbody : fd.body = .stmts body) (hbind : BindsTo s fd args binds) (hcell : ∀ x ∈ fd.scope.names, x.2 ≠ .cell) (hloc : ∀ x ∈ binds, fd.scope.names.lookup x.1 = some .local)
    (h : ∀ h₀, h₀.Ns s.heap.objs.size (fun x => binds.reverse.lookup x) → (∀ b o, s.heap.get? b = some o → h₀.get? b = some o) →
      wpF (model prog w) (A.deeper (callEnv fd s.heap.objs.size a)) (execs body (callEnv fd s.heap.objs.size a)) (fun f s' => R (.ok (.ret (match f with | .ret v => v | _ => .none))) s')
        (fun e s' => wpAny (model prog w) (A.deeper (callEnv fd s.heap.objs.size a)) (leaving (callEnv fd s.heap.objs.size a) e) (fun u_ s'' => R (.error e) s'') (fun e' s'' => R (.error e') s'') s')
        { s with heap := h₀, toks := s.toks + binds.length })
    (hco : fd.scope.isCoroutine = false) (hgen : fd.scope.isGenerator = false) (hk : fd.scope.kind = .function) : codeF (model prog w) A (.call (.ref a) args) R s := by
  refine codeF_tree rfl ?_
  show wpF _ A.in1 (callAny (.ref a) args) _ _ s
  obtain ⟨c, oc, vs, tq, hc, hoc, hdc, hq⟩ := hcd
  have key : wpAny (model prog w) A.in1 (callAny (.ref a) args) (fun fin s' => ∃ h₀, fin = .again (.func body (callEnv fd s.heap.objs.size a)) ∧ s' = { s with heap := h₀, toks := s.toks + binds.length } ∧
      h₀.Ns s.heap.objs.size (fun x => binds.reverse.lookup x) ∧ ∀ b o, s.heap.get? b = some o → h₀.get? b = some o) (fun u_ u_ => False) s := by
    simp only [callAny]
    refine wpAny_bind (wpAny_load ho ?_)
    simp only [hdata, callFunction, hco, hgen, hbody, hc]
    refine wpAny_bind (m := field (.ref c) 1) (wpAny_field hoc hdc hq (wpAny_bind (wpAny_pure ?_)))
    refine wpAny_bind (hbind _ _ _ _ (wpAny_bind ?_))
    refine wpAny_newFunctionEnv hcell hloc (fun h₀ hns₀ hsb₀ => wpAny_bind (wpAny_enterFrame (hlim.fresh _ hsb₀) hroom (wpAny_pure ⟨h₀, ?_, rfl, hns₀, fun b o e => ?_⟩))) hk
    · rw [← hc]; rfl
    · exact hsb₀.extBut b o (Nat.ne_of_lt (Heap.lt_size e)) (Heap.get?_push_of_some _ e)
  refine wpF_mono (wpF_any key) (fun fin s' hp => ?_) fun u_ u_ x => x.elim
  obtain ⟨h₀, rfl, rfl, hns, hkp⟩ := hp
  exact ⟨rfl, codeF_func (h h₀ hns hkp)⟩
end
end Lx
namespace Lx
open PySem PySem.W PySem.Calls PyProof.Rows PySem.Spec
section
variable {prog : Program} {w : World} {A : Around} {C : Addr} {R : Result → Shared → Prop} {h : Heap} {g : Array GenState} {d : Drawn} {t : Nat} {os : OsState}
theorem wpF_look {α β : Type} {M : Model} {E : Value → Shared → Prop} {m : Sem α} {r : α} {f : α → Sem β} {Q : β → Shared → Prop} {s : Shared} (x : Looks M s.heap m r) (k : wpF M A (f r) Q E s) : wpF M A (m >>= f) Q E s := wpF_bind (wpF_any (x.here k))
theorem codeF_builtin {id : String} {args : Args} {b : Builtin} {s : Shared} (hf : holdsB (.builtin id args) = false) (hb : entryFor table id = some b)
    (h : wpF (model prog w) (A.under (.builtin id args)) (b args) (fun fin s' => match fin with | .done f => R (.ok f) s' | .again c' => c'.quiet = true ∧ codeF (model prog w) A c' R s') (fun e s' => R (.error e) s') s) : codeF (model prog w) A (.builtin id args) R s := by
  refine codeF_tree hf ?_
  show wpF _ _ (match entryFor table id with | some b => b args | none => unsupported ((withoutEnding? id "#data").getD id)) _ _ s
  rw [hb]; exact h
theorem codeF_callBuiltin {id : String} {args : Args} {s : Shared} (hq : (Code.builtin id args).quiet = true)
    (hc : wpAny (model prog w) A.in1 (checkBuiltinCall id args) (fun u_ s' => s' = s) (fun u_ u_ => False) s) (h : codeF (model prog w) A (.builtin id args) R s) : codeF (model prog w) A (.call (.builtin id) args) R s := by
  refine codeF_tree rfl ?_
  show wpF _ A.in1 (do checkBuiltinCall id args; again (.builtin id args)) _ _ s
  exact wpF_then (wpF_any (wpAny_mono hc (fun u_ u_ e => e) fun u_ u_ x => x.elim)) fun u_ s' e => wpF_pure (by subst e; exact ⟨hq, h⟩)
theorem typeCall_fine (a : Args) : holdsB (.builtin "type.__call__" a) = false := by
  show heldIds.contains "type.__call__" = false
  decide +kernel
theorem make_coreF {rest : List Value} {init : Value} (Y : Makes (model prog w) h C) (hi : Looks (model prog w) h (typeLookup (.ref C) "__init__") (some init))
    (hb : ∀ self, Looks (model prog w) h (bindSpecial init self) (init, [self])) (hne : (some init != some (Value.builtin "object.__init__")) = true)
    (hq : codeF (model prog w) (A.under (.builtin "type.__call__" ⟨.ref C :: rest, []⟩)) (.call init ⟨.ref (h.objs.size + 1) :: rest, []⟩) (InitBack (h.objs.size + 1) R) ⟨(h.push emptyDict).push (instObj C h.objs.size), g, d, t, os⟩) :
    codeF (model prog w) A (.call (.ref C) ⟨rest, []⟩) R ⟨h, g, d, t, os⟩ := by
  have Y' := Y
  obtain ⟨⟨oc, od, cd, sl, hC, e1, e2, e4⟩, made, base, self, top, call, typ⟩ := Y
  refine codeF_tree rfl ?_
  have k1 : wpAny (model prog w) (A.under (.call (.ref C) ⟨rest, []⟩)) ((model prog w).den (.call (.ref C) ⟨rest, []⟩)) (fun fin s' => fin = .again (.call (.builtin "type.__call__") ⟨.ref C :: rest, []⟩) ∧ s' = ⟨h, g, d, t, os⟩) (fun u_ u_ => False) ⟨h, g, d, t, os⟩ := by
    show wpAny _ _ (callAny (.ref C) _) _ _ _
    refine nd_load hC ?_
    show wpAny _ _ (callAny.viaDunder (.ref C) _) _ _ _
    unfold callAny.viaDunder
    refine wpAny_bind (call.at ?_)
    dsimp only
    rw [tc_bind]
    exact wpAny_bind (wpAny_pure (wpAny_bind (wpAny_pure (wpAny_pure (a := Fin.again (.call (.builtin "type.__call__") ⟨.ref C :: rest, []⟩)) ⟨rfl, rfl⟩))))
  refine wpF_mono (wpF_any k1) (fun fin s' hp => ?_) fun u_ u_ x => x.elim
  obtain ⟨rfl, rfl⟩ := hp
  refine ⟨rfl, codeF_callBuiltin (Code.quiet_builtin _ (by decide +kernel)) (check_slot tc_kind tc_split typ (tc_args _ _ _) rfl) (codeF_builtin (typeCall_fine _) entry_typeCall ?_)⟩
  unfold Builtin.«type.__call__»
  have hm : Looks (model prog w) h (mroOf (.ref C)) cd.mro := ((Looks.ld (part := none) hC).andThen .now).andThen .now
  refine wpF_look hm ?_
  rw [e4]
  refine wpF_look made ?_
  refine wpF_bind (wpF_pure (wpF_bind (wpF_holding (wpF_any (wpAny_call (new_K Y' hi (.inl hne) ?_))))))
  have k : ∀ b o, h.get? b = some o → ((h.push emptyDict).push (instObj C h.objs.size)).get? b = some o := fun b o e => Heap.get?_push_of_some _ (Heap.get?_push_of_some _ e)
  have hx : ((h.push emptyDict).push (instObj C h.objs.size)).get? (h.objs.size + 1) = some (instObj C h.objs.size) := by heap_get
  have t1 : Looks (model prog w) ((h.push emptyDict).push (instObj C h.objs.size)) (typeOf (.ref (h.objs.size + 1))) (.ref C) := (Looks.ld hx).andThen .now
  have s1 := self.keeps k
  have i1 := hi.keeps k
  have b1 := (hb (.ref (h.objs.size + 1))).keeps k
  refine wpF_look (t1.andThen s1) ?_
  have sp : Looks (model prog w) ((h.push emptyDict).push (instObj C h.objs.size)) (specialOf (.ref (h.objs.size + 1)) "__init__") (some init) := t1.andThen i1
  refine wpF_then (P := fun v s' => ∃ r, v = some r ∧ InitBack (h.objs.size + 1) R (.ok (.ret r)) s') (wpF_holding ?_) fun v s' hv => ?_
  · unfold callSpecial?
    refine wpF_look sp (wpF_holding (wpF_look b1 (wpF_then (P := fun r s' => InitBack (h.objs.size + 1) R (.ok (.ret r)) s') (wpF_call (codeF_mono hq fun r s' z => ?_)) fun r s' z => wpF_pure ⟨r, rfl, z⟩)))
    rcases r with e | (v | _ | _ | _) <;> first | exact z | exact z.elim | skip
  · obtain ⟨r, rfl, rfl, hR⟩ := hv
    exact wpF_pure hR
end
end Lx
namespace Lx
open PySem PySem.W PySem.Calls PyProof.Rows PySem.Spec
structure Nxt (W : Wd) (X : Cx) (st : St) (s : Shared) (st' : St) (s' : Shared) : Prop where
  rep : Rep W X st' s'
  stp : Stp X.L X.F st.mh s.heap st'.mh s'.heap
theorem Nxt.refl {W : Wd} {X : Cx} {st : St} {s : Shared} (R : Rep W X st s) : Nxt W X st s st s := ⟨R, .refl⟩
theorem Nxt.trans {W : Wd} {X : Cx} {s₁ s₂ s₃ : St} {t₁ t₂ t₃ : Shared} (x : Nxt W X s₁ t₁ s₂ t₂) (y : Nxt W X s₂ t₂ s₃ t₃) : Nxt W X s₁ t₁ s₃ t₃ := ⟨y.rep, x.stp.trans y.stp⟩
theorem Nxt.v {W : Wd} {X : Cx} {st st' : St} {s s' : Shared} (R : Rep W X st s) (x : Nxt W X st s st' s') {v : V} {rv : Value} (r : VRep st.mh s.heap v rv) : VRep st'.mh s'.heap v rv := by
  obtain ⟨m, hm, _⟩ := R.ns
  exact vrep_step x.stp hm r
theorem Nxt.vs {W : Wd} {X : Cx} {st st' : St} {s s' : Shared} (R : Rep W X st s) (x : Nxt W X st s st' s') {v : List V} {rv : List Value} (r : VReps st.mh s.heap v rv) : VReps st'.mh s'.heap v rv := by
  obtain ⟨m, hm, _⟩ := R.ns
  exact vreps_step x.stp hm r
theorem Rep.grow {W : Wd} {X : Cx} {st : St} {s s' : Shared} (R : Rep W X st s) (k : ∀ b o, s.heap.get? b = some o → s'.heap.get? b = some o) (hg : s'.gens = s.gens) (ho : s'.os = s.os) : Nxt W X st s st s' := by
  have up : ∀ b o xs n, s.heap.get? b = some o → st.mh b = none → o.data = .seq xs n → st.mh b = none ∧ ∃ sl, s'.heap.get? b = some { o with slots := sl } := fun b o u_ u_ e n u_ => ⟨n, o.slots, k b o e⟩
  refine ⟨⟨fun b o e => k b o (R.stays b o e), ?_, fun a o e => ⟨orep_mono up (fun o h => k a o h) (R.objs a o e).1, (R.objs a o e).2⟩, funFrames_on R.ff fun b u_ o e => ⟨o, k b o e, rfl⟩, R.fr, fun p hp => ?_, hg.trans R.gens, ho.trans R.os⟩,
    ⟨fun a o e u_ u_ u_ => k a o e, fun a o e u_ u_ => ⟨o.slots, k a o e⟩, fun a n n' => absurd n n', fun a o e => ⟨o, k a o e⟩⟩⟩
  · obtain ⟨m, ⟨oL, es, ep, eL, rL⟩, q⟩ := R.ns
    refine ⟨m, ⟨oL, es, ep, k _ _ eL, rL⟩, fun i v hi hv => ?_⟩
    obtain ⟨rv, ⟨l1, l2⟩, vr⟩ := q i v hi hv
    refine ⟨rv, ⟨l1, fun hc => ?_⟩, vrep_mono up vr⟩
    obtain ⟨c, o, e1, e2, e3⟩ := l2 hc
    exact ⟨c, o, e1, k _ _ e2, e3⟩
  · obtain ⟨n, o, v, e, d⟩ := R.cel p hp
    exact ⟨n, o, v, k _ _ e, d⟩
theorem Rep.tk {W : Wd} {X : Cx} {st : St} {s : Shared} (R : Rep W X st s) (tk : Nat) : Nxt W X st s st { s with toks := tk } := R.grow (fun u_ u_ e => e) rfl rfl
theorem Rep.push {W : Wd} {X : Cx} {st : St} {s : Shared} (R : Rep W X st s) (o : Obj) (tk : Nat) : Nxt W X st s st { s with heap := s.heap.push o, toks := tk } := R.grow (fun u_ u_ e => Heap.get?_push_of_some _ e) rfl rfl
inductive Fly (e : Addr) (h₀ : Heap) (mh : MH) (h : Heap) (fl : Value) : Prop
  | mk (T : Addr) (oe : Obj) (vs : Array Value) (oT : Obj) (ts : Array Value) (a0 : Value) (n0 : h₀.get? e = none) (nT : h₀.get? T = none) (m0 : mh e = none) (mT : mh T = none) (he : h.get? e = some oe) (hc : oe.cls = .ref 87) (hd : oe.data = .fields vs) (h0 : vs[0]? = some a0) (h1 : vs[1]? = some (.ref T))
    (hTe : T ≠ e) (hT : h.get? T = some oT) (hdT : oT.data = .fields ts) (h3 : ts[3]? = some fl)
inductive NewX (e : Addr) (h₀ : Heap) (mh : MH) (h : Heap) : Prop
  | mk (oe : Obj) (vs : Array Value) (a0 : Value) (n0 : h₀.get? e = none) (m0 : mh e = none) (he : h.get? e = some oe) (hc : oe.cls = .ref 87) (hd : oe.data = .fields vs) (h0 : vs[0]? = some a0) (h1 : vs[1]? = some .none)
noncomputable def Exc (X : Cx) (e : Addr) (h₀ : Heap) (mh : MH) (h : Heap) : Prop := NewX e h₀ mh h ∨ Fly e h₀ mh h .none ∨ Fly e h₀ mh h (rawInt X.L)
theorem dead_back {L : Addr} {F : List Addr} {mh mh' : MH} {h h' : Heap} (x : Stp L F mh h mh' h') {a : Addr} (e : h'.get? a = none) : h.get? a = none := by
  cases q : h.get? a with
  | none => rfl
  | some o => obtain ⟨o', e'⟩ := x.alive a o q; rw [e] at e'; cases e'
theorem Exc.back {X : Cx} {L : Addr} {F : List Addr} {mh mh₁ mh₂ : MH} {h h₁ h₂ : Heap} {e : Addr} (x : Stp L F mh h mh₁ h₁) (y : Exc X e h₁ mh₂ h₂) : Exc X e h mh₂ h₂ := by
  rcases y with ⟨oe, vs, a0, n, r1, r2, r3, r4, r5, r6⟩ | ⟨T, oe, vs, oT, ts, a0, n, n', r1, r2, r3, r4, r5, r6, r7, r8, r9, r10, r11⟩ | ⟨T, oe, vs, oT, ts, a0, n, n', r1, r2, r3, r4, r5, r6, r7, r8, r9, r10, r11⟩
  · exact .inl ⟨oe, vs, a0, dead_back x n, r1, r2, r3, r4, r5, r6⟩
  · exact .inr (.inl ⟨T, oe, vs, oT, ts, a0, dead_back x n, dead_back x n', r1, r2, r3, r4, r5, r6, r7, r8, r9, r10, r11⟩)
  · exact .inr (.inr ⟨T, oe, vs, oT, ts, a0, dead_back x n, dead_back x n', r1, r2, r3, r4, r5, r6, r7, r8, r9, r10, r11⟩)
noncomputable def Sat {α β : Type} (rel : MH → Heap → α → β → Prop) (W : Wd) (X : Cx) (t : Sem β) (st : St) (Q : α → St → Prop) (Xc : St → Prop) : Prop :=
  ∀ s, Rep W X st s → ∀ (Qr : β → Shared → Prop) (Er : Value → Shared → Prop),
    (∀ a st' b s', Q a st' → Nxt W X st s st' s' → rel st'.mh s'.heap a b → Qr b s') →
    (∀ st' e s', Xc st' → Nxt W X st s st' s' → Exc X e s.heap st'.mh s'.heap → Er (.ref e) s') →
    wpF (model W.prog W.w) X.A t Qr Er s
noncomputable def relB (_ : MH) (_ : Heap) (a b : Bool) : Prop := a = b
noncomputable def Calls (W : Wd) (n : Nat) (f : Ad) (args : List V) (mh : MH) (Q : V → MH → Prop) (Xc : MH → Prop) : Prop :=
  ∀ X loc s rargs, CxOK X → n ≤ X.n → Rep W X ⟨loc, mh⟩ s → VReps mh s.heap args rargs → ∀ Qr Er,
    (∀ v mh' rv s', Q v mh' → Nxt W X ⟨loc, mh⟩ s ⟨loc, mh'⟩ s' → VRep mh' s'.heap v rv → Qr rv s') →
    (∀ mh' e s', Xc mh' → Nxt W X ⟨loc, mh⟩ s ⟨loc, mh'⟩ s' → Fly e s.heap mh' s'.heap .none → Er (.ref e) s') →
    wpF (model W.prog W.w) X.A (call (.ref f) rargs) Qr Er s
noncomputable def Ot (W : Wd) (n : Nat) : Out := Out.mk0 (Calls W n) PySem.Builtin.bitAnd
structure KF (W : Wd) : Prop where
  glob : ∀ p ∈ globTab, ∃ rv, nsIn W.K mainGlobals (nm p.1) = some (some rv) ∧ ∀ mh h, VRep mh h p.2 rv
  blt : ∀ b : B, nsIn W.K mainGlobals (PySem.Str.ofString (bName b)) = some none
  exc : ∃ cd, clsIn W.K 87 = some cd ∧ cd.mro = [.ref 87, .ref 74, .type "Exception", .type "BaseException", .type "object"] ∧ cd.hasDict = true
  exctype : typeIn W.K (.ref 87) = some (.type "type")
  exset : findIn W.K (.ref 87) "__setattr__" = some (some (.builtin "object.__setattr__"))
  efld : ∀ i ∈ fieldNames, findIn W.K (.ref 87) (nm i) = some none
  plain : ∀ C ∈ classes, hasDictIn W.K C = true ∧ findIn W.K (.ref C) "__getattribute__" = some (some (.builtin "object.__getattribute__")) ∧ findIn W.K (.ref C) "__getattr__" = some none ∧
    findIn W.K (.ref C) "__setattr__" = some (some (.builtin "object.__setattr__"))
  fld : ∀ C ∈ classes, ∀ i ∈ fieldNames, findIn W.K (.ref C) (nm i) = some none
  over : ∀ C ∈ classes, plainOver W.K C = true
  meth : ∀ p ∈ lexMT, findIn W.K (.ref 465) (nm p.1) = some (some (.ref p.2)) ∧ isFn W.K (.ref p.2) = true ∧ keepIn W.K (.ref p.2) = true
  keep : ∀ f ∈ staticDefs, keepIn W.K (.ref f) = true
  slist : ∀ a vs, SLt a = some vs → ∃ o items n, W.H.get? a = some o ∧ o.cls = .type "list" ∧ o.data = .seq (List.toArray items) n ∧ (∀ mh h, VReps mh h vs items) ∧ o.dict = none ∧ o.slots = #[]
structure WOK (W : Wd) : Prop where
  kin : W.K.In W.H
  kf : KF W
  top : ∃ p loose mg mb, TopRead p loose mg mb W.H
end Lx
namespace Lx
open PySem PySem.W PySem.Calls PyProof.Rows PySem.Spec
abbrev M (W : Wd) : Model := model W.prog W.w
structure Quake (S : List Addr) (h h' : Heap) : Prop where
  keep : ∀ a o, h.get? a = some o → a ∉ S → h'.get? a = some o
  slots : h.UpToSlots h'
variable {W : Wd} {X : Cx} {st st₀ : St} {s s₀ : Shared} {n : Nat}
theorem mem_lookup {l : List (PySem.Str × Addr)} {x : PySem.Str} {a : Addr} (h : l.lookup x = some a) : ∃ p ∈ l, p.2 = a := by
  induction l with
  | nil => cases h
  | cons p r ih =>
    rw [List.lookup_cons] at h
    split at h
    · cases h; exact ⟨p, .head _, rfl⟩
    · obtain ⟨p', h1, h2⟩ := ih h; exact ⟨p', .tail _ h1, h2⟩
theorem quake_nxt (c : CxOK X) (N : Nxt W X st₀ s₀ st s) {S : List Addr} {h' : Heap} {tk : Nat} {dr : Drawn} (q : Quake S s.heap h')
    (hS : ∀ a ∈ S, (s₀.heap.get? a = none ∧ st.mh a = none ∧ ∃ o vs, s.heap.get? a = some o ∧ o.data = .fields vs) ∨ a ∈ (X.env :: X.outer).filterMap (·.frame)) (hW : W.H.StaysIn s₀.heap) :
    Nxt W X st₀ s₀ st ⟨h', s.gens, dr, tk, s.os⟩ := by
  have R := N.rep
  have fields_mh : ∀ a ∈ S, st.mh a = none := fun a ha => by
    rcases hS a ha with ⟨_, b, _⟩ | h
    · exact b
    · exact R.fr a h
  have fr_nf : ∀ a ∈ (X.env :: X.outer).filterMap (·.frame), ∃ o, s.heap.get? a = some o ∧ ∀ vs, o.data ≠ .fields vs := fun a ha => (R.ff.mem ha).2
  have up : ∀ b o xs n, s.heap.get? b = some o → st.mh b = none → o.data = .seq xs n → st.mh b = none ∧ ∃ sl, h'.get? b = some { o with slots := sl } := fun b o xs n e m d =>
    ⟨m, q.slots b o e fun vs z => by rw [d] at z; cases z⟩
  have objk : ∀ a mo, st.mh a = some mo → ∀ o, s.heap.get? a = some o → h'.get? a = some o := fun a mo e o ho => q.keep a o ho fun ha => by rw [fields_mh a ha] at e; cases e
  refine ⟨⟨fun b o e => ?_, ?_, fun a o e => ⟨orep_mono up (objk a o e) (R.objs a o e).1, (R.objs a o e).2⟩, funFrames_on R.ff fun b hb o ho => ?_, R.fr, fun p hp => ?_, R.gens, R.os⟩, ⟨fun a o e m l f => ?_, fun a o e m l => ?_, N.stp.fresh, fun a o e => ?_⟩⟩
  · refine q.keep b o (R.stays b o e) fun ha => ?_
    rcases hS b ha with ⟨d, _⟩ | h
    · rw [hW b o e] at d; cases d
    · rw [(R.ff.mem h).1] at e; cases e
  · obtain ⟨m, hm, k⟩ := R.ns
    refine ⟨m, q.slots.ns hm, fun i v hi hv => ?_⟩
    obtain ⟨rv, ⟨l1, l2⟩, vr⟩ := k i v hi hv
    refine ⟨rv, ⟨l1, fun hc => ?_⟩, vrep_mono up vr⟩
    obtain ⟨cc, o, e1, e2, e3⟩ := l2 hc
    obtain ⟨sl, hs⟩ := q.slots cc o e2 fun vs z => by rw [e3] at z; cases z
    exact ⟨cc, _, e1, hs, e3⟩
  · obtain ⟨o₁, e₁, nf⟩ := fr_nf b hb
    rw [ho] at e₁; cases e₁
    obtain ⟨sl, hs⟩ := q.slots b o ho nf
    exact ⟨_, hs, rfl⟩
  · obtain ⟨m, o, v, e, d⟩ := R.cel p hp
    obtain ⟨sl, hs⟩ := q.slots p.2 o e fun vs z => by rw [d] at z; cases z
    exact ⟨m, _, v, hs, d⟩
  · have e' := N.stp.keep a o e m l f
    refine q.keep a o e' fun ha => ?_
    rcases hS a ha with ⟨d, _⟩ | h
    · rw [e] at d; cases d
    · rw [List.filterMap_cons, c.frame] at h
      rcases List.mem_cons.mp h with h | h
      · exact l h
      · exact f h
  · obtain ⟨sl, e'⟩ := N.stp.slots a o e m l
    by_cases ha : a ∈ S
    · rcases hS a ha with ⟨d, _⟩ | h
      · rw [e] at d; cases d
      · obtain ⟨o₁, e₁, nf⟩ := fr_nf a h
        rw [e'] at e₁; cases e₁
        obtain ⟨sl', hs⟩ := q.slots a _ e' nf
        exact ⟨sl', hs⟩
    · exact ⟨sl, q.keep a _ e' ha⟩
  · obtain ⟨o', e'⟩ := N.stp.alive a o e
    by_cases ha : a ∈ S
    · rcases hS a ha with ⟨d, _⟩ | h
      · rw [e] at d; cases d
      · obtain ⟨o₁, e₁, nf⟩ := fr_nf a h
        obtain ⟨sl', hs⟩ := q.slots a _ e₁ nf
        exact ⟨_, hs⟩
    · exact ⟨o', q.keep a _ e' ha⟩
theorem hide_keep {as : List Addr} {h h' : Heap} (k : (hideAll h as).StaysIn h') : ∀ a o, h.get? a = some o → a ∉ as → h'.get? a = some o := fun a o e n => k a o (hideAll_get as e n)
theorem fresh_T (R : Rep W X st s) {pre : List Addr} {h' : Heap} {T : Addr} {oT : Obj} {ts : Array Value} (u : s.heap.UpToSlots h')
    (hb : (hideAll s.heap (pre ++ (X.env :: X.outer).filterMap (·.frame))).get? T = none) (hT : h'.get? T = some oT) (hdT : oT.data = .fields ts) : T ∈ pre ∨ s.heap.get? T = none := by
  by_cases hp : T ∈ pre
  · exact .inl hp
  · refine .inr ?_
    cases q : s.heap.get? T with
    | none => rfl
    | some o =>
      exfalso
      by_cases hf : T ∈ (X.env :: X.outer).filterMap (·.frame)
      · obtain ⟨o₁, e₁, nf⟩ := (R.ff.mem hf).2
        obtain ⟨sl, hs⟩ := u T o₁ e₁ nf
        rw [hT] at hs
        cases hs
        exact nf ts hdT
      · rw [hideAll_get _ q (by simp only [List.mem_append]; exact fun h => h.elim hp hf)] at hb
        cases hb
theorem mh_none (R : Rep W X st s) {T : Addr} (e : s.heap.get? T = none) : st.mh T = none := by
  cases q : st.mh T with
  | none => rfl
  | some mo => obtain ⟨o, h⟩ := R.alive q; rw [e] at h; cases h
theorem noteFrame_ok (c : CxOK X) (R₀ : Rep W X st₀ s₀) {e : Addr} (N : Nxt W X st₀ s₀ st s) (x : Exc X e s₀.heap st.mh s.heap) {Q : Unit → Shared → Prop} {Er : Value → Shared → Prop}
    (hQ : ∀ s', Nxt W X st₀ s₀ st s' → Fly e s₀.heap st.mh s'.heap (rawInt X.L) → Q () s') : wpAny (M W) X.A (noteFrame (.ref e) X.env) Q Er s := by
  have R := N.rep
  have hin : ∀ pre : List Addr, ∀ env ∈ (X.env :: X.outer), ∀ b, env.frame = some b → b ∈ (pre ++ (X.env :: X.outer).filterMap (·.frame)) := fun pre env he b hb => List.mem_append_right _ (List.mem_filterMap.mpr ⟨env, he, hb⟩)
  rcases x with ⟨oe, vs, a0, n0, m0, he, hcls, hd, h0, h1⟩ | ⟨T, oe, vs, oT, ts, a0, n0, nT, m0, mT, he, hcls, hd, h0, h1, hTe, hT, hdT, h3⟩ | ⟨T, oe, vs, oT, ts, a0, n0, nT, m0, mT, he, hcls, hd, h0, h1, hTe, hT, hdT, h3⟩
  · -- just made
    have ff := funFrames_hide R.ff (hin [e])
    unfold noteFrame
    simp only [c.frame]
    refine wpAny_bind (wpAny_field he hd h1 ?_)
    rw [if_neg (by decide)]
    refine wpAny_entryW (base := hideAll s.heap ([e] ++ (X.env :: X.outer).filterMap (·.frame))) c.frames ff c.frame he (fun b o q => of_hideAll _ q) (hideAll_none _ (.head _)) hd (Array.getElem?_eq_some_iff.mp h1).1 h0 fun h' hN => ?_
    obtain ⟨k1, k2, ⟨oe', vs', T, oT, ts, he', ⟨hc', h0'⟩, hd', h1', hnT, hTe, hT, hdT, h3⟩, k4⟩ := hN
    have N' := quake_nxt (tk := s.toks) (dr := s.drawn) c N (S := [e] ++ (X.env :: X.outer).filterMap (·.frame)) ⟨hide_keep k1, k4⟩ (fun a ha => by
      rcases List.mem_cons.mp ha with rfl | ha
      · exact .inl ⟨n0, m0, oe, vs, he, hd⟩
      · exact .inr ha) R₀.stays
    have fT : s.heap.get? T = none := (fresh_T R k4 hnT hT hdT).resolve_left fun h => by cases h with | head => exact hTe rfl | tail _ h => cases h
    exact hQ _ N' ⟨T, oe', vs', oT, ts, a0, n0, dead_back N.stp fT, m0, mh_none R fT, he', hc'.trans hcls, hd', h0', h1', hTe, hT, hdT, h3⟩
  · -- out of a callee
    have ff := funFrames_hide R.ff (hin [e, T])
    refine wpAny_noteFrame_onW (base := hideAll s.heap ([e, T] ++ (X.env :: X.outer).filterMap (·.frame))) c.frames ff c.frame ⟨oe, vs, T, oT, ts, he, ⟨hcls, h0⟩, hd, h1, hideAll_none _ (.tail _ (.head _)), hTe, hT, hdT, h3⟩ (fun b o q => of_hideAll _ q) (hideAll_none _ (.head _)) fun h' hN => ?_
    obtain ⟨k1, k2, ⟨oe', vs', T', oT', ts', he', ⟨hc', h0'⟩, hd', h1', hnT', hTe', hT', hdT', h3'⟩, k4⟩ := hN
    have N' := quake_nxt (tk := s.toks) (dr := s.drawn) c N (S := [e, T] ++ (X.env :: X.outer).filterMap (·.frame)) ⟨hide_keep k1, k4⟩ (fun a ha => by
      rcases List.mem_cons.mp ha with rfl | ha
      · exact .inl ⟨n0, m0, oe, vs, he, hd⟩
      · rcases List.mem_cons.mp ha with rfl | ha
        · exact .inl ⟨nT, mT, oT, ts, hT, hdT⟩
        · exact .inr ha) R₀.stays
    have fT : s₀.heap.get? T' = none ∧ st.mh T' = none := by
      rcases fresh_T R k4 hnT' hT' hdT' with h | h
      · cases h with
        | head => exact absurd rfl hTe'
        | tail _ h => cases h with | head => exact ⟨nT, mT⟩ | tail _ h => cases h
      · exact ⟨dead_back N.stp h, mh_none R h⟩
    exact hQ _ N' ⟨T', oe', vs', oT', ts', a0, n0, fT.1, m0, fT.2, he', hc', hd', h0', h1', hTe', hT', hdT', h3'⟩
  · -- noted here already
    exact wpAny_noteFrame_againW c.frame (base := {}) ⟨oe, vs, T, oT, ts, he, ⟨hcls, h0⟩, hd, h1, rfl, hTe, hT, hdT, h3⟩ (hQ s N ⟨T, oe, vs, oT, ts, a0, n0, nT, m0, mT, he, hcls, hd, h0, h1, hTe, hT, hdT, h3⟩)
theorem setFlight_ok (c : CxOK X) (R₀ : Rep W X st₀ s₀) {e : Addr} {fl : Value} (N : Nxt W X st₀ s₀ st s) (x : Fly e s₀.heap st.mh s.heap fl) {A : Around} {fr : Option Addr} {Q : Unit → Shared → Prop} {Er : Value → Shared → Prop}
    (hQ : ∀ s', Nxt W X st₀ s₀ st s' → Fly e s₀.heap st.mh s'.heap (fr.elim .none fun f => rawInt f) → Q () s') : wpAny (M W) A (setFlight (.ref e) fr) Q Er s := by
  obtain ⟨T, oe, vs, oT, ts, a0, n0, nT, m0, mT, he, hcls, hd, h0, h1, hTe, hT, hdT, h3⟩ := x
  have hsz3 : 3 < ts.size := (Array.getElem?_eq_some_iff.mp h3).1
  unfold setFlight
  refine wpAny_bind (wpAny_field he hd h1 ?_)
  rw [if_pos (show (Value.ref T != Value.none) = true from by simp)]
  refine wpAny_setField hT hdT hsz3 ?_
  have other : ∀ b, b ≠ T → (s.heap.update T (Obj.mapFields (·.setIfInBounds 3 (fr.elim Value.none fun f => rawInt f)))).get? b = s.heap.get? b := fun b hb => Heap.get?_update_other _ _ (Ne.symm hb)
  have hd' := Obj.data_mapFields hdT (·.setIfInBounds 3 (fr.elim Value.none fun f => rawInt f))
  have self := Heap.get?_update_self (Obj.mapFields (·.setIfInBounds 3 (fr.elim Value.none fun f => rawInt f))) hT (Obj.isFreed_of_fields hd')
  exact hQ _ (quake_nxt (tk := s.toks) (dr := s.drawn) c N (S := [T]) ⟨fun a o h n => (other a fun q => n (by simp [q])).trans h, fun b o h nf => ⟨o.slots, (other b fun q => by rw [q, hT] at h; cases h; exact nf ts hdT).trans h⟩⟩ (fun a ha => by
      cases ha with
      | head => exact .inl ⟨nT, mT, oT, ts, hT, hdT⟩
      | tail _ h => cases h) R₀.stays) ⟨T, oe, vs, _, _, a0, n0, nT, m0, mT, (other e (Ne.symm hTe)).trans he, hcls, hd, h0, h1, hTe, self, hd', by simp [hsz3]⟩
theorem leave_ok (c : CxOK X) (R₀ : Rep W X st₀ s₀) {e : Addr} (N : Nxt W X st₀ s₀ st s) (x : Exc X e s₀.heap st.mh s.heap) {Q : Unit → Shared → Prop} {Er : Value → Shared → Prop}
    (hQ : ∀ s', Nxt W X st₀ s₀ st s' → Fly e s₀.heap st.mh s'.heap .none → Q () s') : wpAny (M W) X.A (leaving X.env (.ref e)) Q Er s := by
  unfold leaving
  exact wpAny_bind (noteFrame_ok c R₀ N x fun s₁ N₁ x₁ => setFlight_ok c R₀ N₁ x₁ hQ)
theorem loop_exc (c : CxOK X) (R₀ : Rep W X st₀ s₀) {e : Addr} (N : Nxt W X st₀ s₀ st s) (x : Exc X e s₀.heap st.mh s.heap) {Er Ex : Value → Shared → Prop}
    (hE : ∀ s', Nxt W X st₀ s₀ st s' → Exc X e s₀.heap st.mh s'.heap → Er (.ref e) s') :
    wpAny (M W) X.A (noteFrame (.ref e) X.env) (fun u_ s'' => cameBackBy (M W) X.A X.env Er (.ref e) s'') Ex s := by
  refine noteFrame_ok c R₀ N x fun s₁ N₁ x₁ => ?_
  have x₂ := x₁
  obtain ⟨T, oe, vs, oT, ts, a0, n0, nT, m0, mT, he, hcls, hd, h0, h1, r⟩ := x₂
  unfold cameBackBy
  refine wpAny_bind (wpAny_field he hd h1 ?_)
  rw [if_neg (by simp)]
  exact setFlight_ok c R₀ N₁ x₁ fun s₂ N₂ x₂ => hE s₂ N₂ (.inr (.inr (by rw [c.frame] at x₂; exact x₂)))
end Lx
namespace Lx
open PySem PySem.W PySem.Calls PyProof.Rows PySem.Spec
section
variable {W : Wd} {X : Cx} {st : St} {s : Shared} {n : Nat}
theorem dead_size (s : Shared) : s.heap.get? s.heap.objs.size = none := by
  cases q : s.heap.get? s.heap.objs.size with
  | none => rfl
  | some o => exact absurd (Heap.lt_size q) (Nat.lt_irrefl _)
theorem W_dead (R : Rep W X st s) {a : Addr} (e : s.heap.get? a = none) : W.H.get? a = none := by
  cases q : W.H.get? a with
  | none => rfl
  | some o => rw [R.stays a o q] at e; cases e
theorem out_new (R : Rep W X st s) : W.out s.heap.objs.size := by
  refine ⟨W_dead R (dead_size s), fun q => ?_⟩
  obtain ⟨o, ho⟩ := W.main
  have := Heap.lt_size (R.stays _ _ ho)
  rw [q] at this
  exact absurd this (by decide)
theorem Rep.new (c : CxOK X) (R : Rep W X st s) {mo : MO} {o : Obj} {tk : Nat} (hf : o.isFreed = false) (hO : ORep W.prog W.w (st.mh.set s.heap.objs.size mo) (s.heap.push o) s.heap.objs.size mo) :
    Nxt W X st s { st with mh := st.mh.set s.heap.objs.size mo } { s with heap := s.heap.push o, toks := tk } := by
  have h := R.put (tk := tk) (dr := s.drawn) c (a := s.heap.objs.size) (mo := mo) (h' := s.heap.push o) (fun b o' u_ e => Heap.get?_push_of_some _ e) (.inr (dead_size s)) (out_new R) hO ⟨_, Heap.get?_push_size _ hf⟩
  exact ⟨h.1, h.2⟩
theorem funFrames_w {h h' base : Heap} : ∀ {l : List Env}, h.FunFrames base l → (∀ b ∈ l.filterMap (·.frame), ∀ o, h.get? b = some o → (∀ vs, o.data ≠ .fields vs) → ∃ o', h'.get? b = some o' ∧ ∀ vs, o'.data ≠ .fields vs) → h'.FunFrames base l := by
  intro l
  induction l with
  | nil => intro _ _; trivial
  | cons env r ih =>
    intro q k
    obtain ⟨hk, ⟨L, o, hf, hn, ho, hd⟩, hr⟩ := q
    have hL : L ∈ (env :: r).filterMap (·.frame) := by rw [List.filterMap_cons, hf]; exact .head _
    obtain ⟨o', e', d'⟩ := k L hL o ho hd
    refine ⟨hk, ⟨L, o', hf, hn, e', d'⟩, ih hr fun b hb => k b ?_⟩
    rw [List.filterMap_cons, hf]; exact .tail _ hb
theorem natAbs_bits {x : Int} (h : x.natAbs < 2 ^ 62) : PySem.Builtin.Int.intBits x ≤ 64 := by
  have h2 : ((x.natAbs : Nat) : Int) < 2 ^ 64 := Int.lt_trans (Int.ofNat_lt.mpr h) (by decide)
  exact intBits_le_64 (Int.neg_lt_of_neg_lt (Int.lt_of_le_of_lt (by rw [← Int.natAbs_neg]; exact Int.le_natAbs) h2)) (Int.lt_of_le_of_lt Int.le_natAbs h2)
theorem fdiv_pos {x y : Int} (h : 0 < y) : x.fdiv y = x / y := Int.fdiv_eq_ediv_of_nonneg _ (Int.le_of_lt h)
theorem fmod_pos {x y : Int} (h : 0 < y) : x.fmod y = x % y := Int.fmod_eq_emod_of_nonneg _ (Int.le_of_lt h)
theorem const_bytes {b : List UInt8} {k : Nat} {p : Pos} {env : Env} {A : Around} {Qr : Value → Shared → Prop} {Er : Value → Shared → Prop} (hb : b.length ≤ LIM) (hQ : ∀ t tk, Qr (.bytes b.toArray t) { s with toks := tk }) :
    wpAny (M W) A (eval (.Constant (.bytes b) k p) env) Qr Er s := fun u_ u_ u_ => hQ _ _
theorem neg_ok {i : Int} {t : Tok} (R : Rep W X st s) {Qr : Value → Shared → Prop} {Er} (hQ : ∀ rv s', Nxt W X st s st s' → VRep st.mh s'.heap (.int (-i)) rv → Qr rv s') : wpAny (M W) X.A (PySem.unaryOp .USub (.int i t)) Qr Er s :=
  neg_int (hQ _ _ (R.tk _) (.int _ _))
theorem binV_inv {O : Out} {op : Op} {a b v : V} (e : binV O op a b = some v) : (∃ x y, a = .int x ∧ b = .int y ∧ intV O op x y = some v) ∨ ∃ x y, a = .bytes x ∧ b = .bytes y ∧ op = .add ∧ x.length + y.length ≤ LIM ∧ v = .bytes (x ++ y) := by
  cases a with
  | int x => obtain ⟨y, h, e⟩ := Option.bind_eq_some_iff.mp e; exact .inl ⟨x, y, rfl, vInt_inv h, e⟩
  | bytes x =>
    obtain ⟨y, h, e⟩ := Option.bind_eq_some_iff.mp e
    cases op with
    | add => obtain ⟨h1, rfl⟩ := ite_sm e; exact .inr ⟨x, y, rfl, vByt_inv h, rfl, h1, rfl⟩
    | _ => cases e
  | _ => cases e
theorem ite_some {c : Prop} [Decidable c] {u v : V} (e : (if c then some u else none) = some v) : c ∧ v = u := by
  by_cases h : c
  · rw [if_pos h] at e; exact ⟨h, (Option.some.inj e).symm⟩
  · rw [if_neg h] at e; cases e
theorem bin_ok (c : CxOK X) (R : Rep W X st s) {op : Op} {a b v : V} {ra rb : Value} (ha : VRep st.mh s.heap a ra) (hb : VRep st.mh s.heap b rb) (e : binV (Ot W n) op a b = some v)
    {Qr : Value → Shared → Prop} {Er} (hQ : ∀ rv s', Nxt W X st s st s' → VRep st.mh s'.heap v rv → Qr rv s') : wpAny (M W) X.A (binaryOp (toO op) ra rb) Qr Er s := by
  have qi : ∀ {i : Int}, v = .int i → Qr (.int i s.toks) { s with toks := s.toks + 1 } := fun {i} h => hQ _ _ (R.tk _) (h ▸ .int i _)
  rcases binV_inv e with ⟨x, y, rfl, rfl, e⟩ | ⟨x, y, rfl, rfl, rfl, hl, rfl⟩
  · obtain ⟨t, rfl⟩ := ha.i_int
    obtain ⟨u, rfl⟩ := hb.i_int
    cases op with
    | add => cases e; exact add_int (qi rfl)
    | sub => cases e; exact sub_int (qi rfl)
    | mul =>
      obtain ⟨hl, rfl⟩ := ite_some e
      exact mul_int (qi rfl) (hl.elim (fun h => IntMulOk.of_left (natAbs_bits h)) fun h => IntMulOk.of_right (natAbs_bits h))
    | fdiv =>
      obtain ⟨hl, rfl⟩ := ite_some e
      exact floordiv_int (by lia) (by rw [fdiv_pos hl.1]; exact qi rfl) (.inl (PyProof.noPylong_of_log2 (by have := (Nat.log2_lt (n := y.natAbs) (k := 62) (by lia)).mpr (by lia); lia)))
    | mod =>
      obtain ⟨hl, rfl⟩ := ite_some e
      exact mod_int' (by lia) (by rw [fmod_pos hl]; exact qi rfl)
    | band => cases e; exact and_int (qi rfl)
    | shl =>
      obtain ⟨hl, rfl⟩ := ite_some e
      exact lshift_int_small hl.2.1 (by lia) (by lia) (qi rfl)
  · obtain ⟨t, rfl, hx⟩ := ha.i_bytes
    obtain ⟨u, rfl, hy⟩ := hb.i_bytes
    refine PySem.W.KBy.add_bytes ?_ fun t' k => hQ _ _ (R.tk k) ?_
    · simp only [List.size_toArray]; unfold LIM at hl; lia
    · have : x.toArray ++ y.toArray = (x ++ y).toArray := by simp
      rw [this]; exact .bytes _ _ (by rw [List.length_append]; exact hl)
theorem inplace_ok (R : Rep W X st s) {a b v : V} {ra rb : Value} (ha : VRep st.mh s.heap a ra) (hb : VRep st.mh s.heap b rb) (e : addI a b = some v)
    {Qr : Value → Shared → Prop} {Er} (hQ : ∀ rv s', Nxt W X st s st s' → VRep st.mh s'.heap v rv → Qr rv s') : wpAny (M W) X.A (inplaceOp (toO .add) ra rb) Qr Er s := by
  obtain ⟨x, y, rfl, rfl, rfl⟩ : ∃ x y, a = .int x ∧ b = .int y ∧ v = .int (x + y) := by
    obtain ⟨x, h1, e⟩ := Option.bind_eq_some_iff.mp e
    obtain ⟨y, h2, e⟩ := Option.bind_eq_some_iff.mp e
    exact ⟨x, y, vInt_inv h1, vInt_inv h2, (Option.some.inj e).symm⟩
  obtain ⟨_, rfl⟩ := ha.i_int
  obtain ⟨_, rfl⟩ := hb.i_int
  exact PySem.AutoIntOps.iadd_0 (hQ _ _ (R.tk _) (.int _ _))
theorem drop_ok {e : PySem.Expr} {p : Pos} {rv : Value} {A : Around} {Qr : Flow → Shared → Prop} {Er : Value → Shared → Prop} (h : ∀ tk, Qr .next { s with toks := tk }) : wpAny (M W) A (dropValue e p rv) Qr Er s :=
  wpAny_dropValue (h s.toks)
theorem newTuple_ok (c : CxOK X) (R : Rep W X st s) {vs : List V} {rs : List Value} (h : VReps st.mh s.heap vs rs) (hl : vs.length ≤ LIM)
    {Qr : Value → Shared → Prop} {Er} (hQ : ∀ rv s', Nxt W X st s st s' → VRep st.mh s'.heap (.tup vs) rv → Qr rv s') {A : Around} : wpAny (M W) A (newTuple rs) Qr Er s := by
  unfold newTuple
  have N := R.push { cls := .type "tuple", data := .seq rs.toArray } s.toks
  refine wpAny_newObj_type (hQ _ _ N ?_) ?_
  · have hv := N.vs R h
    exact .tup _ vs rs _ 0 (mh_none R (dead_size s)) (Heap.get?_push_size _ rfl) rfl rfl hv.1 hl hv.2
  · show rs.toArray.size ≤ sizeLine
    rw [List.size_toArray, h.1, sizeLine_eq]; unfold LIM at hl; lia
theorem newList_ok (c : CxOK X) (R : Rep W X st s) {vs : List V} {rs : List Value} (h : VReps st.mh s.heap vs rs) (hl : vs.length ≤ LIM)
    {Qr : Value → Shared → Prop} {Er} (hQ : ∀ a s', st.mh a = none → Nxt W X st s { st with mh := st.mh.set a (.list vs) } s' → Qr (.ref a) s') : wpAny (M W) X.A (newList rs) Qr Er s := by
  unfold newList
  refine wpAny_newObj_type (hQ _ _ (mh_none R (dead_size s)) ?_) ?_
  · refine R.new (tk := s.toks) c rfl ⟨_, rs, 0, Heap.get?_push_size _ rfl, rfl, rfl, rfl, rfl, ?_, hl⟩
    refine vreps_mono (fun b o xs k hb hm u_ => ⟨?_, o.slots, Heap.get?_push_of_some _ hb⟩) h
    have : b ≠ s.heap.objs.size := Nat.ne_of_lt (Heap.lt_size hb)
    simp [MH.set, this, hm]
  · show rs.toArray.size ≤ sizeLine
    rw [List.size_toArray, h.1, sizeLine_eq]; unfold LIM at hl; lia
theorem newDict_ok (c : CxOK X) (R : Rep W X st s) {Qr : Value → Shared → Prop} {Er} (hQ : ∀ a s', st.mh a = none → Nxt W X st s { st with mh := st.mh.set a (.bdict []) } s' → Qr (.ref a) s') {p : Pos} :
    wpAny (M W) X.A (eval (.Dict [] [] p) X.env) Qr Er s := by
  show wpAny _ _ (do standAt p; dictDisplay []) _ _ _
  refine wpAny_bind (wpAny_standAt ?_)
  show wpAny _ _ (newDict) _ _ _
  unfold newDict
  refine wpAny_newObj_type (hQ _ _ (mh_none R (dead_size s)) ?_) ?_
  · exact R.new (tk := s.toks) c rfl ⟨[], Heap.DictOf.new _, rfl, Nat.zero_le _, fun i e p h => by cases i <;> cases h⟩
  · show (0 : Nat) ≤ sizeLine + 1
    exact Nat.zero_le _
noncomputable def okLoc (sc : Scope) (i : Nm) : Bool := decide (i < NN) && (sc.names.lookup (nm i) == some .local)
theorem nodup_nm : (names.map PySem.Str.ofString).Nodup := by decide +kernel
theorem nm_inj {i j : Nm} (hi : i < NN) (hj : j < NN) (e : nm i = nm j) : i = j := by
  have h := nodup_nm
  have e1 : (names.map PySem.Str.ofString)[i]? = some (nm i) := by
    unfold NN at hi; unfold nm; simp [List.getElem?_map, List.getD_eq_getElem?_getD, List.getElem?_eq_getElem hi]
  have e2 : (names.map PySem.Str.ofString)[j]? = some (nm j) := by
    unfold NN at hj; unfold nm; simp [List.getElem?_map, List.getD_eq_getElem?_getD, List.getElem?_eq_getElem hj]
  rw [← e] at e2
  have l : i < (names.map PySem.Str.ofString).length := by unfold NN at hi; simpa using hi
  exact (List.getElem?_inj l h).mp (e1.trans e2.symm)
theorem store_ok (c : CxOK X) (R : Rep W X st s) {i : Nm} {v : V} {rv : Value} (ok : okLoc X.env.scope i = true) (hv : VRep st.mh s.heap v rv) {Qr : Unit → Shared → Prop} {Er}
    (hQ : ∀ s', Nxt W X st s { st with loc := st.loc.set i v } s' → Qr () s') : wpAny (M W) X.A (storeName X.env (nm i) rv) Qr Er s := by
  simp only [okLoc, Bool.and_eq_true, decide_eq_true_eq, beq_iff_eq] at ok
  obtain ⟨hi, hl⟩ := ok
  obtain ⟨m, hm, q⟩ := R.ns
  have hloc := c.locals
  refine wpAny_storeName_local (m := m) hl (by rw [hloc]; exact hm) (fun h' hn hs => hQ _ ?_) (by rw [c.kind]; rfl)
  rw [hloc] at hn hs
  have k : ∀ b o, b ≠ X.L → s.heap.get? b = some o → h'.get? b = some o := fun b o n e => (hs.2 b n).trans e
  have nL : ∀ a, st.mh a ≠ none → a ≠ X.L := fun a h q => h (q ▸ R.L_none c)
  have seqL : ∀ b o xs k, s.heap.get? b = some o → o.data = .seq xs k → b ≠ X.L := fun b o xs k e d q => by
    obtain ⟨oL, es, ep, eL, dL, _⟩ := hm
    rw [q, eL] at e; cases e; rw [d] at dL; cases dL
  have up : ∀ b o xs k, s.heap.get? b = some o → st.mh b = none → o.data = .seq xs k → st.mh b = none ∧ ∃ sl, h'.get? b = some { o with slots := sl } := fun b o xs kk e m d =>
    ⟨m, o.slots, k b o (seqL b o xs kk e d) e⟩
  refine ⟨⟨fun b o e => k b o (fun q => ?_) (R.stays b o e), ⟨_, hn, fun j u hj hu => ?_⟩, fun a o e => ⟨orep_mono up (fun ob h => k a ob (nL a (by rw [e]; simp)) h) (R.objs a o e).1, (R.objs a o e).2⟩, ?_, R.fr, fun p hp => ?_, R.gens, R.os⟩,
    ⟨fun a o e u_ l u_ => k a o l e, fun a o e u_ l => ⟨o.slots, k a o l e⟩, fun a n n' => absurd n n', fun a o e => ?_⟩⟩
  · have := R.ff.2.1
    obtain ⟨L', o', hf, hno, _⟩ := this
    rw [c.frame] at hf; cases hf
    rw [q, hno] at e; cases e
  · by_cases hij : j = i
    · subst hij
      simp only [Fs.set, if_true] at hu
      cases hu
      refine ⟨rv, ⟨fun u_ => by simp, fun hc => ?_⟩, vrep_mono up hv⟩
      rw [show X.env.kindOf (nm j) = X.env.scope.names.lookup (nm j) from rfl, hl] at hc
      cases hc
    · simp only [Fs.set, if_neg hij] at hu
      obtain ⟨ru, ⟨l1, l2⟩, vr⟩ := q j u hj hu
      refine ⟨ru, ⟨fun h => ?_, fun hc => ?_⟩, vrep_mono up vr⟩
      · show (if nm j = nm i then _ else _) = _
        rw [if_neg fun z => hij (nm_inj hj hi z)]; exact l1 h
      · obtain ⟨cc, o, e1, e2, e3⟩ := l2 hc
        refine ⟨cc, o, e1, k cc o (fun q => ?_) e2, e3⟩
        obtain ⟨oL, es, ep, eL, dL, _⟩ := hm
        rw [q, eL] at e2; cases e2; rw [e3] at dL; cases dL
  · refine funFrames_w R.ff fun b hb o ho nf => ?_
    by_cases z : b = X.L
    · subst z
      obtain ⟨oL, es, ep, eL, dL, _⟩ := hn
      exact ⟨oL, eL, fun vs q => by rw [dL] at q; cases q⟩
    · exact ⟨o, k b o z ho, nf⟩
  · obtain ⟨mm, o, v, e, d⟩ := R.cel p hp
    refine ⟨mm, o, v, k _ o (fun q => ?_) e, d⟩
    obtain ⟨oL, es, ep, eL, dL, _⟩ := hm
    rw [q, eL] at e; cases e; rw [d] at dL; cases dL
  · by_cases z : a = X.L
    · subst z
      obtain ⟨oL, es, ep, eL, dL, _⟩ := hn
      exact ⟨oL, eL⟩
    · exact ⟨o, k a o z e⟩
end
end Lx
namespace Lx
open PySem PySem.W PySem.Calls PyProof.Rows PySem.Spec PySem.Builtin PySem.Builtin.ObjectAttr
section
variable {W : Wd} {X : Cx} {st : St} {s : Shared} {n : Nat}
theorem ns_lookIn {o : Obj} {es : Array DictEntry} {ep : Nat} {m : PySem.Str → Option Value} (hd : o.data = .dict es ep) (hk : StrKeys es) (hf : ∀ name, nsFind es name = m name) (name : PySem.Str) : lookIn name o = some (m name) := by
  unfold lookIn
  rw [hd]
  dsimp only
  have e : nsFind es name = (es.toList.find? (·.key.isStr name)).map (·.val) := by
    unfold nsFind findBy
    rw [← Array.find?_toList]
  rw [hf name] at e
  rw [e]
  cases q : es.toList.find? (·.key.isStr name) with
  | some en => rfl
  | none =>
    have : es.toList.any (·.refKey) = false := by
      rw [List.any_eq_false]
      intro en he
      obtain ⟨nn, t, h⟩ := hk en (by simpa using he)
      simp [DictEntry.refKey, h]
    simp [this]
theorem inst_at (R : Rep W X st s) {x C d : Ad} {fs : Fs} (hx : st.mh x = some (.inst C d)) (hd : st.mh d = some (.flds fs)) : C ∈ classes ∧ ∃ (ox od : Obj) (m : PySem.Str → Option Value) (es : Array DictEntry) (ep : Nat), InstAt s.heap x ox C (some od) ∧ s.heap.get? d = some od ∧ ox.dict = some d ∧ od.data = .dict es ep ∧ StrKeys es ∧
    (∀ name, nsFind es name = m name) ∧ es.size ≤ cntF NN fs ∧ (∀ i, i < NN → (fs i = none → m (nm i) = none) ∧ ∀ v, fs i = some v → ∃ rv, m (nm i) = some rv ∧ VRep st.mh s.heap v rv) := by
  obtain ⟨hC, ox, e1, e2, e3, e4⟩ := (R.objs _ _ hx).1
  obtain ⟨m, od, es, ep, f1, f2, f3, f4, f5, f6⟩ := (R.objs _ _ hd).1
  refine ⟨hC, ox, od, m, es, ep, ⟨e1, e2, ?_, ?_⟩, f1, e3, f2, f3, f4, f5, f6⟩
  · unfold notCls; rw [e4]
  · rw [e3]; exact f1
set_option tactic.hygienic true in
theorem handed_VRep {mh : MH} {h : Heap} {v : V} {rv : Value} (r : VRep mh h v rv) : handedIn rv = true := by
  cases r <;> first | rfl | skip
  rename_i b
  cases b <;> decide +kernel
theorem attr_ok (w : WOK W) (c : CxOK X) (R : Rep W X st s) {o v : V} {f : Nm} {ro : Value} (ho : VRep st.mh s.heap o ro) (e : attrV st.mh o f = some v) (hf : f ∈ fieldNames) (hn : f < NN)
    {Qr : Value → Shared → Prop} {Er} (hQ : ∀ rv s', Nxt W X st s st s' → VRep st.mh s'.heap v rv → Qr rv s') {ex : Bool} : wpAny (M W) X.A (getAttr ro (nm f) ex) Qr Er s := by
  obtain ⟨x, C, d, fs, rfl, hx, hd, e⟩ := attrV_inv e
  obtain rfl := ho.i_ref
  obtain ⟨hC, ox, od, m, es, ep, I, f1, f0, f2, f3, f4, f5, f6⟩ := inst_at R hx hd
  obtain ⟨rv, hrv, vr⟩ := (f6 f hn).2 v e
  have X' := w.kin.keeps R.stays
  obtain ⟨p1, p2, p3, p4⟩ := w.kf.plain C hC
  have pf := w.kf.fld C hC f hf
  obtain ⟨cd, hc, hdct⟩ := any_some (show (clsIn W.K C).any (·.hasDict) = true from p1)
  refine get_value (v := rv) X' I p2 ?_ (handed_VRep vr) (hQ _ _ (R.tk _) vr)
  unfold findObj
  rw [hc, Option.bind_some, pf, Option.bind_some]
  show (some none).bind _ = _
  rw [Option.bind_some]
  show (some false).bind _ = _
  rw [Option.bind_some]
  show (PySem.W.ownOf cd (some od) (nm f)).bind _ = _
  unfold PySem.W.ownOf
  rw [if_pos hdct]
  dsimp only
  rw [ns_lookIn f2 f3 f4, hrv]
  rfl
theorem nsSet_own {a : Addr} {o : Obj} {es : Array DictEntry} {ep : Nat} {m : PySem.Str → Option Value} {name : PySem.Str} {v : Value} {A : Around} {Q : Unit → Shared → Prop} {Er : Value → Shared → Prop} (ho : s.heap.get? a = some o) (hd : o.data = .dict es ep)
    (hk : StrKeys es) (hm : ∀ name, nsFind es name = m name)
    (hQ : ∀ h' o' es' ep', h'.get? a = some o' → o'.cls = o.cls → o'.dict = o.dict → o'.data = .dict es' ep' → StrKeys es' → (∀ x, nsFind es' x = if x = name then some v else m x) → es'.size ≤ es.size + 1 → (m name ≠ none → es'.size = es.size) → Heap.SameBut a s.heap h' → Q () { s with heap := h', toks := s.toks + 1 }) :
    wpAny (M W) A (nsSet a name v) Q Er s := fun Γ p u_ => by
  have hn : s.heap.Ns a m := ⟨o, es, ep, ho, hd, hk, hm⟩
  simp only [nsSet, strHash, Sem.wp_bind', Sem.wp_cmd_ask, Sem.wp_pure', Sem.wp_cmd_mkText]
  rw [Sem.wp_loadPart_of (M W) Γ _ p { s with toks := s.toks + 1 } (o := o) _ ho]
  have hany : es.any (·.refKey) = false := by
    rw [Array.any_eq_false']; intro e he; obtain ⟨n, t, h⟩ := hk e he; simp [DictEntry.refKey, h]
  simp only [hd, aRefKeyMayBeTheName_eq, aRefKeyMayBeTheNameByArray, hany, Bool.and_false, Bool.false_eq_true, if_false, Sem.wp_cmd_updatePart]
  refine ⟨by rw [ho]; rfl, ?_⟩
  obtain ⟨c, d, dt, sl⟩ := o
  dsimp only at hd
  subst hd
  cases hi : es.findIdx? (·.key.isStr name) with
  | some i =>
    refine hQ _ _ _ ep (Heap.get?_update_self _ ho (by simp only [Obj.putName_eq, Obj.putNameByArray, hi]; rfl)) (by simp only [Obj.putName_eq, Obj.putNameByArray, hi]) (by simp only [Obj.putName_eq, Obj.putNameByArray, hi]) (by simp only [Obj.putName_eq, Obj.putNameByArray, hi]; rfl) (hk.modify _ _) (fun x => ?_) (by simp) (fun u_ => by simp) (Heap.SameBut.update ..)
    rw [← hm]; exact findBy_modify (fun n v => v.isStr n) Value.isStr_inj es name x v i hi
  | none =>
    refine hQ _ _ _ (ep + 1) (Heap.get?_update_self _ ho (by simp only [Obj.putName_eq, Obj.putNameByArray, hi]; rfl)) (by simp only [Obj.putName_eq, Obj.putNameByArray, hi]) (by simp only [Obj.putName_eq, Obj.putNameByArray, hi]) (by simp only [Obj.putName_eq, Obj.putNameByArray, hi]; rfl) (hk.push _ _ _ _) (fun x => ?_) (by simp) (fun h => ?_) (Heap.SameBut.update ..)
    · rw [← hm]
      exact findBy_push (fun n v => v.isStr n) es name x _ _ v (fun y => by
        show (name == y) = decide (y = name)
        by_cases h : y = name
        · subst h; simp
        · have : ¬ name = y := fun e => h e.symm
          simp [h, this]) hi
    · exfalso
      apply h
      rw [← hm]
      unfold nsFind findBy
      have : es.find? (fun e => e.key.isStr name) = none := by
        rw [Array.find?_eq_none]
        intro e he
        rw [Array.findIdx?_eq_none_iff] at hi
        simp [hi e he]
      first | (rw [this]; rfl) | (simp [this])
theorem NN_le : NN ≤ 1000 := by decide
theorem storeIn_ok (c : CxOK X) (R : Rep W X st s) {d : Ad} {fs : Fs} {f : Nm} {v : V} {rv : Value} {tk : Tok} (hd : st.mh d = some (.flds fs)) (hv : VRep st.mh s.heap v rv) (hn : f < NN) {A : Around}
    {Q : Fin → Shared → Prop} {Er : Value → Shared → Prop} (hQ : ∀ s', Nxt W X st s { st with mh := st.mh.set d (.flds (fs.set f v)) } s' → Q (.done (.ret .none)) s') :
    wpAny (M W) A (storeInDict d (.str (nm f) tk) (nm f) rv) Q Er s := by
  obtain ⟨⟨m, o, es, ep, f1, f2, f3, f4, f5, f6⟩, hH⟩ := R.objs _ _ hd
  unfold storeInDict
  refine wpAny_bind (wpAny_pure (wpAny_bind (nsSet_own f1 f2 f3 f4 fun h' o' es' ep' e1 e2 e3 e4 e5 e6 e7 e8 hs => ?_)))
  have size : es'.size ≤ cntF NN (fs.set f v) := by
    cases q : fs f with
    | none => rw [cntF_new q NN hn]; lia
    | some u =>
      rw [cntF_same q NN]
      obtain ⟨ru, hru, _⟩ := (f6 f hn).2 u q
      rw [e8 (by rw [hru]; simp)]; exact f5
  have hz := cntF_le NN (fs.set f v)
  have hN := NN_le
  refine wpAny_bind (wpAny_lookBehind e1 ?_ (wpAny_pure ?_))
  · rw [e4]
    exact pastItsLine_dict (by rw [sizeLine_eq]; lia)
  have up : ∀ b ob xs k, s.heap.get? b = some ob → st.mh b = none → ob.data = .seq xs k → (st.mh.set d (.flds (fs.set f v))) b = none ∧ ∃ sl, h'.get? b = some { ob with slots := sl } := fun b ob xs k e n' u_ => by
    have q : b ≠ d := fun q => by rw [q, hd] at n'; cases n'
    exact ⟨by simp [MH.set, q, n'], ob.slots, (hs.2 b q).trans e⟩
  have put := R.put (tk := s.toks + 1) (dr := s.drawn) c (a := d) (mo := .flds (fs.set f v)) (h' := h') (fun b ob q e => (hs.2 b q).trans e) (.inl ⟨_, hd⟩) hH ?_ ⟨_, e1⟩
  · exact hQ _ ⟨put.1, put.2⟩
  refine ⟨_, o', es', ep', e1, e4, e5, e6, size, fun i hi => ?_⟩
  by_cases q : i = f
  · subst q
    refine ⟨fun h => by simp [Fs.set] at h, fun u hu => ?_⟩
    simp only [Fs.set, if_true] at hu
    cases hu
    exact ⟨rv, by simp, vrep_mono up hv⟩
  · have ne : ¬ nm i = nm f := fun z => q (nm_inj hi hn z)
    simp only [Fs.set, if_neg q, if_neg ne]
    refine ⟨(f6 i hi).1, fun u hu => ?_⟩
    obtain ⟨ru, h1, h2⟩ := (f6 i hi).2 u hu
    exact ⟨ru, h1, vrep_mono up h2⟩
theorem setAttr_inst (w : WOK W) (c : CxOK X) (R : Rep W X st s) {x C d : Ad} {fs : Fs} {v : V} {f : Nm} {rv : Value} (hx : st.mh x = some (.inst C d)) (hd : st.mh d = some (.flds fs)) (hv : VRep st.mh s.heap v rv) (hf : f ∈ fieldNames) (hn : f < NN)
    {Qr : Unit → Shared → Prop} {Er} (hQ : ∀ s', Nxt W X st s { st with mh := st.mh.set d (.flds (fs.set f v)) } s' → Qr () s') : wpAny (M W) X.A (setAttr (.ref x) (nm f) rv) Qr Er s := by
  obtain ⟨hC, ox, od, m, es, ep, I, f1, f0, f2, f3, f4, f5, f6⟩ := inst_at R hx hd
  obtain ⟨p1, p2, p3, p4⟩ := w.kf.plain C hC
  obtain ⟨cd, hc, hdct⟩ := any_some (show (clsIn W.K C).any (·.hasDict) = true from p1)
  have ht : takerIn W.K C (nm f) = some none := by unfold takerIn; rw [w.kf.fld C hC f hf]; rfl
  have N1 := R.tk (s.toks + 1)
  have X' := w.kin.keeps N1.rep.stays
  refine set_plain (w.kin.keeps R.stays) I p4 (osa_open X' I (w.kf.over C hC) ht fun b => ?_)
  obtain ⟨hx', hcl, hno, -⟩ := I
  obtain ⟨oc, odi, oda, osl⟩ := ox
  dsimp only at hcl f0
  subst hcl f0
  show wpAny _ _ (storeInOwnDict _ _ _ _ _ _) _ _ _
  unfold storeInOwnDict
  refine wpAny_bind (wpAny_pure (wpAny_bind (wpAny_bind (wpAny_loadPart hx' (wpAny_bind ((looks_clsIn X' hc).here ?_))))))
  rw [hdct]
  refine wpAny_pure (a := some d) ?_
  exact storeIn_ok c N1.rep hd (N1.v R hv) hn fun s' N' => hQ _ (N1.trans N')
theorem refuse_exc (self : Value) : refuseLoop self "__setattr__" [.ref 87, .ref 74, .type "Exception", .type "BaseException", .type "object"] = pure () := by
  kernel_rfl
theorem osa_openX {K : Frag} {A : Around} {R : Result → Shared → Prop} {x C : Addr} {ox : Obj} {od : Option Obj} {name : PySem.Str} {tk : Tok} {v : Value} {cd : ClassData} (X : K.In s.heap) (I : InstAt s.heap x ox C od) (hc : clsIn K C = some cd)
    (href : refuseLoop (.ref x) "__setattr__" cd.mro = pure ()) (hobj : cd.mro.contains (.type "object") = true) (hne : cd.mro.isEmpty = false) (ht : takerIn K C name = some none)
    (h : ∀ b, wpAny (M W) A.in1 (storeInOwnDict (.ref x) (.ref C) (.str name tk) name v b)
      (fun fin s' => match fin with | .done f => R (.ok f) s' | .again c' => c'.quiet = true ∧ codeAny (M W) A c' R s') (fun e s' => R (.error e) s') s) :
    codeAny (M W) A (.call (.builtin "object.__setattr__") ⟨[.ref x, .str name tk, v], []⟩) R s := by
  have SF := PySem.F.store_object
  have sub : Looks (M W) s.heap (isInstance (.ref x) (.type "object")) true := I.type.andThen (looks_mroIn X (by unfold mroIn; rw [hc, Option.bind_some, if_neg (by rw [hne]; decide), hobj]))
  refine codeAny_call_builtin SF.slot.plain SF.entry (@check_slot (M W) _ _ s "object.__setattr__" "object" "__setattr__" (.ref x) [.str name tk, v] [] _ SF.kind SF.split sub (SF.args (.ref x) (.str name tk) v) ?_)
  obtain ⟨attr, ha, hr⟩ := Option.bind_eq_some_iff.mp ht
  have hm : Looks (M W) s.heap (mroOf (.ref C)) cd.mro := (looks_clsIn X hc).andThen .now
  have L3 : Looks (M W) s.heap (storeTaker? attr) none := by
    cases attr with
    | none => cases hr; exact .now
    | some a =>
      obtain ⟨b, hb, hz⟩ := Option.map_eq_some_iff.mp hr
      cases b
      · exact (looks_takesIn X hb).andThen .now
      · cases hz
  rw [osa_eq, refuse_eq]
  refine wpAny_bind (wpAny_bind (I.type.here (wpAny_bind (hm.here ?_))))
  rw [href]
  refine wpAny_pure (wpAny_bind (I.type.here (wpAny_bind ((looks_findIn X ha).here (wpAny_bind (L3.here ?_))))))
  exact h _
theorem setAttr_exc (w : WOK W) (c : CxOK X) (R : Rep W X st s) {x d : Ad} {fs : Fs} {v : V} {f : Nm} {rv : Value} (hx : st.mh x = some (.exc 87 (some d))) (hd : st.mh d = some (.flds fs)) (hv : VRep st.mh s.heap v rv) (hf : f ∈ fieldNames) (hn : f < NN)
    {Qr : Unit → Shared → Prop} {Er} (hQ : ∀ s', Nxt W X st s { st with mh := st.mh.set d (.flds (fs.set f v)) } s' → Qr () s') : wpAny (M W) X.A (setAttr (.ref x) (nm f) rv) Qr Er s := by
  obtain ⟨-, ox, vs, a0, e1, e2, e3, e4, e5, e6⟩ := (R.objs _ _ hx).1
  obtain ⟨m, od, es, ep, f1, f2, f3, f4, f5, f6⟩ := (R.objs _ _ hd).1
  obtain ⟨cd, hc, hmro, hdct⟩ := w.kf.exc
  have I : InstAt s.heap x ox 87 (some od) := ⟨e1, e2, by unfold notCls; rw [e4], by rw [e3]; exact f1⟩
  have ht : takerIn W.K 87 (nm f) = some none := by unfold takerIn; rw [w.kf.efld f hf]; rfl
  have N1 := R.tk (s.toks + 1)
  have X' := w.kin.keeps N1.rep.stays
  refine set_plain (w.kin.keeps R.stays) I w.kf.exset (osa_openX X' I hc (by rw [hmro]; exact refuse_exc _) (by rw [hmro]; rfl) (by rw [hmro]; rfl) ht fun b => ?_)
  obtain ⟨oc, odi, oda, osl⟩ := ox
  dsimp only at e2 e3
  subst e2 e3
  unfold storeInOwnDict
  refine wpAny_bind (wpAny_pure (wpAny_bind (wpAny_bind (wpAny_loadPart e1 (wpAny_bind ((looks_clsIn X' hc).here ?_))))))
  rw [hdct]
  refine wpAny_pure (a := some d) ?_
  exact storeIn_ok c N1.rep hd (N1.v R hv) hn fun s' N' => hQ _ (N1.trans N')
theorem setAttr_exc0 (w : WOK W) (c : CxOK X) (R : Rep W X st s) {x : Ad} {v : V} {f : Nm} {rv : Value} (hx : st.mh x = some (.exc 87 none)) (hv : VRep st.mh s.heap v rv) (hf : f ∈ fieldNames) (hn : f < NN)
    {Qr : Unit → Shared → Prop} {Er} (hQ : ∀ d s', st.mh d = none → d ≠ x → Nxt W X st s { st with mh := (st.mh.set d (.flds (Fs.set (fun u_ => none) f v))).set x (.exc 87 (some d)) } s' → Qr () s') : wpAny (M W) X.A (setAttr (.ref x) (nm f) rv) Qr Er s := by
  obtain ⟨⟨-, ox, vs, a0, e1, e2, e3, e4, e5, e6⟩, hH⟩ := R.objs _ _ hx
  obtain ⟨cd, hc, hmro, hdct⟩ := w.kf.exc
  have I : InstAt s.heap x ox 87 none := ⟨e1, e2, by unfold notCls; rw [e4], by rw [e3]; trivial⟩
  have ht : takerIn W.K 87 (nm f) = some none := by unfold takerIn; rw [w.kf.efld f hf]; rfl
  have N1 := R.tk (s.toks + 1)
  have X' := w.kin.keeps N1.rep.stays
  refine set_plain (w.kin.keeps R.stays) I w.kf.exset (osa_openX X' I hc (by rw [hmro]; exact refuse_exc _) (by rw [hmro]; rfl) (by rw [hmro]; rfl) ht fun b => ?_)
  obtain ⟨oc, odi, oda, osl⟩ := ox
  dsimp only at e2 e3 e4
  subst e2 e3 e4
  unfold storeInOwnDict
  refine wpAny_bind (wpAny_pure (wpAny_bind (wpAny_bind (wpAny_loadPart e1 (wpAny_bind ((looks_clsIn X' hc).here ?_))))))
  rw [hdct]
  show wpAny _ _ (alloc { cls := .type "dict", data := .dict #[] } >>= fun d => PySem.update x (fun o => { o with dict := some d }) >>= fun u_ => dictMade (.ref 87) x d) _ _ _
  have N2 := N1.rep.new (tk := s.toks + 1) (o := emptyDict) (mo := .flds fun u_ => none) c rfl ⟨fun u_ => none, emptyDict, #[], 0, Heap.get?_push_size _ rfl, rfl, fun e he => by simp at he, fun u_ => rfl, Nat.zero_le _, fun i u_ => ⟨fun u_ => rfl, fun v hv => by cases hv⟩⟩
  have dd : st.mh s.heap.objs.size = none := mh_none R (dead_size s)
  have nex : x ≠ s.heap.objs.size := fun q => by rw [q, dd] at hx; cases hx
  refine wpAny_bind (wpAny_alloc (wpAny_bind (wpAny_update (Heap.get?_push_of_some _ e1) ?_)))
  have self := Heap.get?_update_self (fun o : Obj => { o with dict := some s.heap.objs.size }) (Heap.get?_push_of_some (h := s.heap) emptyDict e1) rfl
  have other : ∀ b, b ≠ x → ((s.heap.push emptyDict).update x (fun o : Obj => { o with dict := some s.heap.objs.size })).get? b = (s.heap.push emptyDict).get? b := fun b hb => Heap.get?_update_other _ _ (Ne.symm hb)
  have put := N2.rep.put (tk := s.toks + 1) (dr := s.drawn) c (a := x) (mo := .exc 87 (some s.heap.objs.size)) (h' := (s.heap.push emptyDict).update x (fun o : Obj => { o with dict := some s.heap.objs.size }))
    (fun b o q e => (other b q).trans e) (.inl ⟨.exc 87 none, by simp [MH.set, nex, hx]⟩) hH ⟨rfl, _, vs, a0, self, rfl, rfl, rfl, e5, e6⟩ ⟨_, self⟩
  have N3 := N1.trans (N2.trans ⟨put.1, put.2⟩)
  refine wpAny_pure (a := some s.heap.objs.size) ?_
  refine storeIn_ok c N3.rep (d := s.heap.objs.size) (fs := fun u_ => none) ?_ (N3.v R hv) hn fun s' N' => ?_
  · have : ¬ s.heap.objs.size = x := fun q => nex q.symm
    simp [MH.set, this]
  · refine hQ s.heap.objs.size _ dd (fun q => nex q.symm) ?_
    have z := N3.trans N'
    have e : (({ st with mh := (st.mh.set s.heap.objs.size (.flds fun u_ => none)).set x (.exc 87 (some s.heap.objs.size)) } : St).mh.set s.heap.objs.size (.flds (Fs.set (fun u_ => none) f v))) = (st.mh.set s.heap.objs.size (.flds (Fs.set (fun u_ => none) f v))).set x (.exc 87 (some s.heap.objs.size)) := by
      funext b
      simp only [MH.set]
      by_cases q1 : b = s.heap.objs.size
      · subst q1
        have : ¬ s.heap.objs.size = x := fun q => nex q.symm
        simp [this]
      · simp [q1]
    rw [← e]; exact z
theorem setAttr_ok (w : WOK W) (c : CxOK X) (R : Rep W X st s) {o v : V} {f : Nm} {ro rv : Value} {Q : MH → Prop} (ho : VRep st.mh s.heap o ro) (hv : VRep st.mh s.heap v rv) (e : setAttrP st.mh o f v Q) (hf : f ∈ fieldNames) (hn : f < NN)
    {Qr : Unit → Shared → Prop} {Er} (hQ : ∀ mh s', Q mh → Nxt W X st s { st with mh := mh } s' → Qr () s') : wpAny (M W) X.A (setAttr ro (nm f) rv) Qr Er s := by
  cases o with
  | ref x =>
    obtain rfl := ho.i_ref
    have e : (match st.mh x with
      | some (.inst _ d) => match st.mh d with
        | some (.flds fs) => Q (st.mh.set d (.flds (fs.set f v)))
        | _ => False
      | some (.exc _ (some d)) => match st.mh d with
        | some (.flds fs) => Q (st.mh.set d (.flds (fs.set f v)))
        | _ => False
      | some (.exc C none) => ∀ d, st.mh d = none → d ≠ x → Q ((st.mh.set d (.flds (Fs.set (fun u_ => none) f v))).set x (.exc C (some d)))
      | _ => False) := e
    cases hx : st.mh x with
    | none => rw [hx] at e; exact e.elim
    | some o =>
      rw [hx] at e
      cases o with
      | inst C d =>
        obtain ⟨fs, hd, e⟩ := pFlds e
        exact setAttr_inst w c R hx hd hv hf hn fun s' N => hQ _ _ e N
      | exc C d =>
        obtain ⟨rfl, _⟩ := (R.objs _ _ hx).1
        cases d with
        | some d =>
          obtain ⟨fs, hd, e⟩ := pFlds e
          exact setAttr_exc w c R hx hd hv hf hn fun s' N => hQ _ _ e N
        | none => exact setAttr_exc0 w c R hx hv hf hn fun d s' h1 h2 N => hQ _ _ (e d h1 h2) N
      | _ => exact e.elim
  | _ => exact e.elim
theorem getMethod_own (w : WOK W) (c : CxOK X) (R : Rep W X st s) {x C d : Ad} {fs : Fs} {name : Nm} {f : Ad} (hx : st.mh x = some (.inst C d)) (hd : st.mh d = some (.flds fs)) (h0 : fs name = none) (hm : MTt C name = some f) (hn : name < NN) {pl : Sem Bool}
    {Qr : Value × List Value → Shared → Prop} {Er} (hQ : keepIn W.K (.ref f) = true → Qr (.ref f, [.ref x]) s) : wpAny (M W) X.A (getMethod (.ref x) (nm name) pl) Qr Er s := by
  obtain ⟨hC, ox, od, m, es, ep, I, f1, f0, f2, f3, f4, f5, f6⟩ := inst_at R hx hd
  obtain ⟨p1, p2, p3, p4⟩ := w.kf.plain C hC
  by_cases hCC : C = 465
  · subst hCC
    have hm : lexMT.lookup name = some f := hm
    have hmem : (name, f) ∈ lexMT := lookup_mem hm
    obtain ⟨g1, g2, g3⟩ := w.kf.meth _ hmem
    refine method_fn (w.kin.keeps R.stays) I p2 p3 g1 (beq_iff_eq.mp g2) ?_ (hQ g3)
    show (lookIn (nm name) od).map _ = _
    rw [ns_lookIn f2 f3 f4, (f6 name hn).1 h0]
    rfl
  · have hm : none = some f := (if_neg hCC).symm.trans hm
    cases hm
end
end Lx
namespace Lx
open PySem PySem.W PySem.Calls PyProof.Rows PySem.Spec
theorem owner_bytearray : Manifest.owners.lookup (String.ofList ['y', 'a', 'r', 'r', 'a', 'e', 't', 'y', 'b'].reverse) = some Manifest.sig_bytearray := by kernel_rfl
theorem slot_bytearray_getitem : PySem.Slot "bytearray" "__getitem__" "bytearray.__getitem__" :=
  .of (owner := "bytearray") (n := "__getitem__") (by rw [typeLookup_type, builtinLookup_eq_fast]; kernel_rfl) (by decide +kernel) (by decide +kernel) (by decide +kernel)
    (by first | exact .inl (by decide +kernel) | exact .inr (by decide +kernel)) (by rw [isSubtype_type]; kernel_rfl)
theorem entry_bytearray_getitem : entryFor table "bytearray.__getitem__" = some Builtin.«bytearray.__getitem__» := entryFor_of_tree (by kernel_rfl)
theorem args_bytearray_getitem (a b : Value) : argsOk "bytearray.__getitem__" ⟨[a, b], []⟩ := by
  unfold argsOk; rw [signature?_of (id := "bytearray.__getitem__") (n := ['_', '_', 'm', 'e', 't', 'i', 't', 'e', 'g', '_', '_']) (o := ['y', 'a', 'r', 'r', 'a', 'e', 't', 'y', 'b']) (by kernel_rfl) owner_bytearray]; kernel_rfl
theorem slot_bytearray_append : PySem.Slot "bytearray" "append" "bytearray.append" :=
  .of (owner := "bytearray") (n := "append") (by rw [typeLookup_type, builtinLookup_eq_fast]; kernel_rfl) (by decide +kernel) (by decide +kernel) (by decide +kernel)
    (by first | exact .inl (by decide +kernel) | exact .inr (by decide +kernel)) (by rw [isSubtype_type]; kernel_rfl)
theorem entry_bytearray_append : entryFor table "bytearray.append" = some Builtin.«bytearray.append» := entryFor_of_tree (by kernel_rfl)
theorem args_bytearray_append (a b : Value) : argsOk "bytearray.append" ⟨[a, b], []⟩ := by
  unfold argsOk; rw [signature?_of (id := "bytearray.append") (n := ['d', 'n', 'e', 'p', 'p', 'a']) (o := ['y', 'a', 'r', 'r', 'a', 'e', 't', 'y', 'b']) (by kernel_rfl) owner_bytearray]; kernel_rfl
theorem slot_bytes_find : PySem.Slot "bytes" "find" "bytes.find" :=
  .of (owner := "bytes") (n := "find") (by rw [typeLookup_type, builtinLookup_eq_fast]; kernel_rfl) (by decide +kernel) (by decide +kernel) (by decide +kernel)
    (by first | exact .inl (by decide +kernel) | exact .inr (by decide +kernel)) (by rw [isSubtype_type]; kernel_rfl)
theorem entry_bytes_find : entryFor table "bytes.find" = some Builtin.«bytes.find» := entryFor_of_tree (by kernel_rfl)
theorem args_bytes_find (a b : Value) : argsOk "bytes.find" ⟨[a, b], []⟩ := by
  unfold argsOk; rw [signature?_of (id := "bytes.find") (n := ['d', 'n', 'i', 'f']) (o := ['s', 'e', 't', 'y', 'b']) (by kernel_rfl) FB.owner_bytes]; kernel_rfl
theorem plainAttrs_bytearray : PlainAttrs "bytearray" :=
  ⟨⟨"bytearray.__getattribute__", by rw [typeLookup_type, builtinLookup_eq_fast]; kernel_rfl, by decide +kernel⟩, by rw [typeLookup_type, builtinLookup_eq_fast]; kernel_rfl⟩
theorem slot_bytearray_len : PySem.Slot "bytearray" "__len__" "bytearray.__len__" :=
  .of (owner := "bytearray") (n := "__len__") (by rw [typeLookup_type, builtinLookup_eq_fast]; kernel_rfl) (by decide +kernel) (by decide +kernel) (by decide +kernel)
    (by first | exact .inl (by decide +kernel) | exact .inr (by decide +kernel)) (by rw [isSubtype_type]; kernel_rfl)
theorem entry_bytearray_len : entryFor table "bytearray.__len__" = some Builtin.«bytearray.__len__» := entryFor_of_tree (by kernel_rfl)
theorem args_bytearray_len (a : Value) : argsOk "bytearray.__len__" ⟨[a], []⟩ := by
  unfold argsOk; rw [signature?_of (id := "bytearray.__len__") (n := ['_', '_', 'n', 'e', 'l', '_', '_']) (o := ['y', 'a', 'r', 'r', 'a', 'e', 't', 'y', 'b']) (by kernel_rfl) owner_bytearray]; kernel_rfl
end Lx
namespace Lx
open PySem PySem.W PySem.Calls PyProof.Rows PySem.Spec
theorem ba_mro : mroOf (.type "bytearray") = pure [.type "bytearray", .type "object"] := by rw [mroOf_type]; kernel_rfl
theorem ba_lookup_new : typeLookup (.type "bytearray") "__new__" = pure (some (.builtin "bytearray.__new__")) := by rw [typeLookup_type, builtinLookup_eq_fast]; kernel_rfl
theorem ba_slot_init : PySem.Slot "bytearray" "__init__" "bytearray.__init__" :=
  .of (owner := "bytearray") (n := "__init__") (by rw [typeLookup_type, builtinLookup_eq_fast]; kernel_rfl) (by decide +kernel) (by decide +kernel) (by decide +kernel)
    (by first | exact .inl (by decide +kernel) | exact .inr (by decide +kernel)) (by rw [isSubtype_type]; kernel_rfl)
theorem ba_sub : isSubtype (.type "bytearray") (.type "bytearray") = pure true := by rw [isSubtype_type]; kernel_rfl
theorem ba_called : TypeCalled "bytearray" "bytearray.__new__" "bytearray.__init__" :=
  ⟨by decide +kernel, by decide +kernel, ⟨_, _, ba_mro⟩, madeBy_type ba_mro ba_lookup_new (by decide +kernel), by decide +kernel, ba_sub, ba_slot_init⟩
theorem ba_typeCall : checkTypeCall "bytearray" ⟨[], []⟩ = pure () := by kernel_rfl
theorem ba_newCall : checkBuiltinCall "bytearray.__new__" ⟨[.type "bytearray"], []⟩ = pure () := by kernel_rfl
theorem ba_entry_new : entryFor table "bytearray.__new__" = some Builtin.«list.__new__» :=
  entryFor_alias (id' := "list.__new__") (by kernel_rfl) (by first | rfl | decide +kernel | (unfold String.splitOn; simp +decide [String.splitOnAux])) (by decide +kernel) (by kernel_rfl)
theorem ba_plain_new : plainId "bytearray.__new__" = true := by decide +kernel
theorem ba_entry_init : entryFor table "bytearray.__init__" = some Builtin.«bytearray.__init__» := entryFor_of_tree (by kernel_rfl)
theorem ba_args_init (a : Value) : argsOk "bytearray.__init__" ⟨[a], []⟩ := by
  unfold argsOk; rw [signature?_of (id := "bytearray.__init__") (n := ['_', '_', 't', 'i', 'n', 'i', '_', '_']) (o := ['y', 'a', 'r', 'r', 'a', 'e', 't', 'y', 'b']) (by kernel_rfl) owner_bytearray]; kernel_rfl
set_option maxRecDepth 1000000 in
set_option maxHeartbeats 4000000 in
theorem ba_owner_new : ("bytearray.__new__".splitOn ".__new__").headD "" = "bytearray" := by rw [PySem.W.split_bytearray]; rfl
theorem ba_buffer : typeLookup (.type "bytearray") "__buffer__" = pure (some (.builtin "bytearray.__buffer__")) := by rw [typeLookup_type, builtinLookup_eq_fast]; kernel_rfl
theorem ba_release : typeLookup (.type "bytearray") "__release_buffer__" = pure (some (.builtin "bytearray.__release_buffer__")) := by rw [typeLookup_type, builtinLookup_eq_fast]; kernel_rfl
theorem ba_bytes : typeLookup (.type "bytearray") "__bytes__" = pure none := by rw [typeLookup_type, builtinLookup_eq_fast]; kernel_rfl
theorem ba_index : typeLookup (.type "bytearray") "__index__" = pure none := by rw [typeLookup_type, builtinLookup_eq_fast]; kernel_rfl
end Lx
namespace Lx
open PySem PySem.W PySem.Calls PyProof.Rows PySem.Spec
theorem slot_bytes_contains : PySem.Slot "bytes" "__contains__" "bytes.__contains__" :=
  .of (owner := "bytes") (n := "__contains__") (by rw [typeLookup_type, builtinLookup_eq_fast]; kernel_rfl) (by decide +kernel) (by decide +kernel) (by decide +kernel)
    (by first | exact .inl (by decide +kernel) | exact .inr (by decide +kernel)) (by rw [isSubtype_type]; kernel_rfl)
theorem entry_bytes_contains : entryFor table "bytes.__contains__" = some Builtin.«bytes.__contains__» := entryFor_of_tree (by kernel_rfl)
theorem args_bytes_contains (a b : Value) : argsOk "bytes.__contains__" ⟨[a, b], []⟩ := by
  unfold argsOk; rw [signature?_of (id := "bytes.__contains__") (n := ['_', '_', 's', 'n', 'i', 'a', 't', 'n', 'o', 'c', '_', '_']) (o := ['s', 'e', 't', 'y', 'b']) (by kernel_rfl) FB.owner_bytes]; kernel_rfl
end Lx
namespace Lx
open PySem PySem.W PySem.Calls PyProof.Rows PySem.Spec
section
variable {W : Wd} {X : Cx} {st : St} {s : Shared} {n : Nat}
theorem tail_ok {value slice : PySem.Expr} {o i : Value} {T id : String} {A : Around} {Q : Value → Shared → Prop} {E : Value → Shared → Prop} (hT : s.TypeIs o T) (hl : typeLookup (.type T) "__getitem__" = pure (some (.builtin id)))
    (h : wpAny (M W) A (getItem o i) Q E s) (hs : ∃ l, subscripted slice false o i = operate l (getItem o i)) : wpAny (M W) A (subscriptTail value slice o i) Q E s := by
  obtain ⟨l, hs⟩ := hs
  unfold subscriptTail
  refine wpAny_bind ?_
  rw [getitemInPython_of_ne hT.not_modules]
  refine wpAny_bind (wpAny_specialOf hT hl ?_)
  have fin : wpAny (M W) A (subscripted slice false o i) (fun r s₃ => wpAny (M W) A (letTemporaryGo value o r >>= fun u_ => pure r) Q E s₃) E s := by
    rw [hs]
    exact wpAny_operating (wpAny_mono h (fun r s₃ h₃ => wpAny_bind (wpAny_letTemporaryGo (wpAny_pure h₃))) fun u_ u_ x => x)
  exact wpAny_pure (wpAny_bind fin)
theorem sub_toE (e : E) (o i : Value) : ∃ l, subscripted (toE e) false o i = operate l (getItem o i) := by
  cases e <;> exact ⟨[o, i], rfl⟩
theorem vreps_get {mh : MH} {h : Heap} {vs : List V} {items : List Value} (r : VReps mh h vs items) {k : Nat} {v : V} (e : vs[k]? = some v) : ∃ x, items[k]? = some x ∧ VRep mh h v x := by
  have hl : k < items.length := by rw [r.1]; exact (List.getElem?_eq_some_iff.mp e).1
  exact ⟨_, List.getElem?_eq_getElem hl, r.2 k v _ e (List.getElem?_eq_getElem hl)⟩
theorem idx_list {a : Ad} {items : List Value} {k : Int} {t : Tok} {x : Value} {A : Around} {Qr : Value → Shared → Prop} {Er} {eo ei : E} (hl : s.heap.IsList a items.toArray) (h0 : 0 ≤ k) (hn : items.length ≤ LIM) (hx : items[k.toNat]? = some x) (h : Qr x s) :
    wpAny (M W) A (subscriptTail (toE eo) (toE ei) (.ref a) (.int k t)) Qr Er s := by
  have hk : k.toNat < items.length := (List.getElem?_eq_some_iff.mp hx).1
  refine tail_ok hl.typeIs PySem.slot_list_getitem.lookup (wpAny_getItem_list hl h0 ?_ (by simpa using hx) h) (sub_toE _ _ _)
  unfold LIM at hn; lia
theorem SLt_len {a : Ad} {vs : List V} (e : SLt a = some vs) : vs.length ≤ LIM := by
  unfold SLt at e
  split at e
  · cases e; decide
  · split at e
    · cases e; decide
    · cases e
set_option tactic.hygienic true in
theorem idx_ok (w : WOK W) (c : CxOK X) (R : Rep W X st s) {o i v : V} {ro ri : Value} (ho : VRep st.mh s.heap o ro) (hi : VRep st.mh s.heap i ri) (e : idxV (Ot W n) st.mh o i = some v)
    {Qr : Value → Shared → Prop} {Er} {eo ei : E} (hQ : ∀ rv s', Nxt W X st s st s' → VRep st.mh s'.heap v rv → Qr rv s') : wpAny (M W) X.A (subscriptTail (toE eo) (toE ei) ro ri) Qr Er s := by
  cases hi <;> first | cases e | skip
  rename_i k t
  by_cases h0 : 0 ≤ k
  · replace e := (if_pos h0).symm.trans e
    cases ho <;> first | cases e | skip
    · rename_i b u hb
      dsimp only at e
      cases hx : b[k.toNat]? with
      | none => rw [hx] at e; cases e
      | some x =>
        rw [hx] at e
        cases e
        have hk : k.toNat < b.length := (List.getElem?_eq_some_iff.mp hx).1
        refine tail_ok (typeIs_bytes _ _ _) FB.slot_bytes_getitem.lookup (PySem.W.getItem_bytes (by unfold LIM at hb; lia) h0 (by lia) (hQ _ _ (R.tk _) ?_)) (sub_toE _ _ _)
        rw [List.getD_eq_getElem?_getD, hx]
        exact .int _ _
    · rename_i a
      obtain ⟨vs, ha, e⟩ := Option.bind_eq_some_iff.mp e
      replace ha := moList_inv ha
      obtain ⟨⟨o, items, m, ho, hc, hd, hsl, hdat, hr, hl⟩, _⟩ := R.objs a _ ha
      obtain ⟨x, hx, rx⟩ := vreps_get hr e
      exact idx_list ⟨o, ho, hc, m, hdat⟩ h0 (hr.1 ▸ hl) hx (hQ _ _ (.refl R) rx)
    · rename_i a
      dsimp only at e
      cases hs : SLt a with
      | none => have : (Ot W n).SL a = none := hs; rw [this] at e; cases e
      | some vs =>
        have : (Ot W n).SL a = some vs := hs
        rw [this] at e
        obtain ⟨o, items, m, ho, hc, hdat, hr, _⟩ := w.kf.slist a vs hs
        have hr := hr st.mh s.heap
        obtain ⟨x, hx, rx⟩ := vreps_get hr e
        exact idx_list ⟨o, R.stays _ _ ho, hc, m, hdat⟩ h0 (hr.1 ▸ SLt_len hs) hx (hQ _ _ (.refl R) rx)
    · rename_i a vs items o m hm ha hc hdat hlen hlim hr
      dsimp only at e
      obtain ⟨x, hx, rx⟩ := vreps_get (mh := st.mh) (h := s.heap) ⟨hlen, hr⟩ e
      have hk : k.toNat < items.length := (List.getElem?_eq_some_iff.mp hx).1
      have hbig : k < 2 ^ 63 := by unfold LIM at hlim; lia
      · refine tail_ok (T := "tuple") ⟨o, ha, hc⟩ PyProof.Rows.slot_tuple_getitem.lookup (PyProof.Rows.getItem_tuple (j := k.toNat) ⟨o, ha, hc, m, hdat⟩ (by lia) hbig ?_ (by simpa using hx) (hQ _ _ (.refl R) rx)) (sub_toE _ _ _)
        have h1 : ¬ k < 0 := by lia
        have h2 : k < (items.length : Int) := by lia
        simp [seqIndex?, h1, h0, h2]
  · have e : none = some v := (if_neg h0).symm.trans e
    cases e
set_option tactic.hygienic true in
theorem part_ok {mh : MH} {h : Heap} {v : V} {rv : Value} {n x : Nat} (r : VRep mh h v rv) (e : bound n v = some x) : ∃ lo, IsPart rv lo ∧ ∀ m, n = 0 ∨ n = m → lo.elim n (clipAt m) = min x m := by
  cases r <;> first | (cases e; done) | skip
  · have e : some n = some x := e
    cases e
    exact ⟨none, .none, fun m h => by show n = _; lia⟩
  · rename_i i t
    obtain ⟨hi, rfl⟩ := ite_sm e
    · skip
      refine ⟨some i, .int i t, fun m u_ => ?_⟩
      have : i = ((i.toNat : Nat) : Int) := by lia
      show clipAt m i = _
      rw [this, clipAt_nat]
      lia
theorem cut_eq {α : Type} (xs : List α) (l h : Nat) : (xs.drop (min l xs.length)).take (min h xs.length - min l xs.length) = cut xs l h := by
  unfold cut
  apply List.ext_getElem?
  intro i
  simp only [List.getElem?_take, List.getElem?_drop]
  by_cases h1 : l ≤ xs.length
  · rw [Nat.min_eq_left h1]
    by_cases h2 : h ≤ xs.length
    · rw [Nat.min_eq_left h2]
      by_cases h3 : i < h - l
      · rw [if_pos h3, if_pos (Nat.add_lt_of_lt_sub' h3)]
      · rw [if_neg h3, if_neg (by lia)]
    · rw [Nat.min_eq_right (by lia)]
      by_cases h3 : l + i < xs.length
      · rw [if_pos (by lia), if_pos (by lia)]
      · have : xs[l + i]? = none := List.getElem?_eq_none_iff.mpr (by lia)
        rw [this]; simp
  · have a1 : xs[l + i]? = none := List.getElem?_eq_none_iff.mpr (by lia)
    have a2 : xs[min l xs.length + i]? = none := List.getElem?_eq_none_iff.mpr (by lia)
    rw [a1, a2]; simp
theorem cut_len {α : Type} (xs : List α) (l h : Nat) : (cut xs l h).length ≤ xs.length := by
  unfold cut; rw [List.length_drop, List.length_take]; exact Nat.le_trans (Nat.sub_le _ _) (Nat.min_le_right _ _)
theorem sliced_cut {α : Type} (xs : List α) {lo hi : Option Int} {l h : Nat} (hl : ∀ m, (0 = 0 ∨ 0 = m) → lo.elim 0 (clipAt m) = min l m) (hh : ∀ m, (xs.length = 0 ∨ xs.length = m) → hi.elim xs.length (clipAt m) = min h m) :
    (sliceRange (sliceBounds lo hi none xs.length).1 (sliceBounds lo hi none xs.length).2.1 (sliceBounds lo hi none xs.length).2.2).filterMap (xs.toArray[·]?) = cut xs l h := by
  rw [sliceBounds_plain]
  dsimp only
  rw [sliceRange_one, pick_run, hl _ (.inl rfl), hh _ (.inr rfl)]
  exact cut_eq xs l h
theorem vreps_cut {mh : MH} {h : Heap} {vs : List V} {items : List Value} (r : VReps mh h vs items) (l u : Nat) : VReps mh h (cut vs l u) (cut items l u) := by
  unfold cut
  refine ⟨by simp [r.1], fun i v x e1 e2 => ?_⟩
  simp only [List.getElem?_drop, List.getElem?_take] at e1 e2
  split at e1
  · rename_i hlt
    rw [if_pos hlt] at e2
    exact r.2 _ v x e1 e2
  · cases e1
theorem meets_barr_slice (a o : Addr) (b : List UInt8) {l u : Value} {lo hi : Option Int} (hl : IsPart l lo) (hu : IsPart u hi) (hb : (Builtin.Bytes.sliced b.toArray (sliceBounds lo hi none b.length).1 (sliceBounds lo hi none b.length).2.1 (sliceBounds lo hi none b.length).2.2).size ≤ sizeLine) :
    Meets (Builtin.«bytearray.__getitem__» ⟨[.ref o, .ref a], []⟩) (fun u_ R s => s.heap.IsSliceOf a l u .none ∧ (∃ ob, s.heap.get? o = some ob ∧ ob.data = .bytearray b.toArray 0) ∧
      R (.ok (.ret (.ref s.heap.objs.size))) { s with heap := s.heap.push { cls := .type "bytearray", data := .bytearray (Builtin.Bytes.sliced b.toArray (sliceBounds lo hi none b.length).1 (sliceBounds lo hi none b.length).2.1 (sliceBounds lo hi none b.length).2.2) } }) := by
  refine .of_wp fun prog w A R s hS => ?_
  obtain ⟨⟨os, ho, hc, hd⟩, ⟨ob, hob, hbd⟩, h⟩ := hS
  have hT : s.TypeIs (.ref a) "slice" := ⟨os, ho, hc⟩
  show wpAny _ _ (Builtin.Bytes.subscript? (.ref a) >>= fun r => _) _ _ s
  refine wpAny_bind ?_
  unfold Builtin.Bytes.subscript?
  refine wpAny_bind (wpAny_specialOf hT slice_no_index (wpAny_pure ?_))
  refine wpAny_bind (wpAny_typeOf hT ?_)
  show wpAny _ _ (Builtin.Bytes.sliceParts (.ref a) >>= fun r => _) _ _ s
  refine wpAny_bind ?_
  unfold Builtin.Bytes.sliceParts
  refine wpAny_bind (wpAny_field (x := .none) ho hd rfl ?_)
  kby_none
  refine wpAny_ite (KBy.ite_no (show ¬ ((Value.none == rawInt 0) = true) from Bool.false_ne_true) ?_)
  refine wpAny_bind (wpAny_field (x := l) ho hd rfl ?_)
  have go : wpAny (model prog w) A.in1 (sliceIndices (rawPart lo) (rawPart hi) (rawPart none) b.toArray.size) (fun r s' => r = sliceBounds lo hi none b.length ∧ s' = s) (fun u_ u_ => False) s :=
    wpAny_of_eq (sliceIndices_raw lo hi none b.toArray.size (fun e => nomatch e)) ⟨by rw [List.size_toArray], rfl⟩
  have pay : ∀ {Q : Array UInt8 → Shared → Prop} {E}, Q b.toArray s → wpAny (model prog w) A.in1 (Builtin.Bytes.payload (.ref o)) Q E s := fun {Q E} q => by
    unfold Builtin.Bytes.payload Builtin.Bytes.payload?
    refine wpAny_bind (wpAny_bind (wpAny_load hob ?_))
    rw [hbd]
    exact wpAny_pure (wpAny_pure q)
  cases hl <;> cases hu <;> (first
    | (kby_none; (refine wpAny_bind (wpAny_field (x := .none) ho hd rfl ?_)); kby_none)
    | (kby_none; (refine wpAny_bind (wpAny_field (x := .int _ _) ho hd rfl ?_)); kby_int)
    | (kby_int; (refine wpAny_bind (wpAny_field (x := .none) ho hd rfl ?_)); kby_none)
    | (kby_int; (refine wpAny_bind (wpAny_field (x := .int _ _) ho hd rfl ?_)); kby_int)) <;> refine wpAny_pure ?_
  all_goals
    refine wpAny_bind (pay ?_)
    refine wpAny_bind (wpAny_mono go (fun r s' hr => ?_) fun u_ u_ e => e.elim)
    obtain ⟨hr1, hr2⟩ := hr
    subst hr1 hr2
    refine wpAny_bind ?_
    unfold Builtin.Bytes.newBytearray
    exact wpAny_newObj_type (wpAny_pure ⟨_, rfl, h⟩) hb
set_option tactic.hygienic true in
theorem slice_ok (w : WOK W) (c : CxOK X) (R : Rep W X st s) {o lo hi : V} {ro rl rh : Value} (ho : VRep st.mh s.heap o ro) (hl : VRep st.mh s.heap lo rl) (hh : VRep st.mh s.heap hi rh) {Q : V → MH → Prop}
    (e : sliceV st.mh o lo hi Q) {eo : E} {l u : Option PySem.Expr} {p : Pos}
    {Qr : Value → Shared → Prop} {Er} (hQ : ∀ v mh rv s', Q v mh → Nxt W X st s { st with mh := mh } s' → VRep mh s'.heap v rv → Qr rv s') :
    wpAny (M W) X.A (newFields "slice" [rl, rh, .none]) (fun i s₂ => wpAny (M W) X.A (subscriptTail (toE eo) (.Slice l u none p) ro i) Qr Er s₂) Er s := by
  unfold newFields
  refine wpAny_newObj_type ?_ (by show 3 ≤ sizeLine + 2; rw [sizeLine_eq]; decide)
  have N := R.push { cls := .type "slice", data := .fields [rl, rh, Value.none].toArray } s.toks
  have hS : (s.heap.push { cls := .type "slice", data := .fields [rl, rh, Value.none].toArray }).IsSliceOf s.heap.objs.size rl rh .none := Heap.IsSliceOf.new _ _ _ _
  have hs : ∀ o i, ∃ z, subscripted (.Slice l u none p) false o i = operate z (getItem o i) := fun o i => ⟨_, rfl⟩
  cases o with
  | bytes b =>
    obtain ⟨bl, hbl, e⟩ := optP_inv e
    obtain ⟨bh, hbh, e⟩ := optP_inv e
    · cases ho
      rename_i t hb
      obtain ⟨plo, pl, ql⟩ := part_ok hl hbl
      obtain ⟨phi, ph, qh⟩ := part_ok hh hbh
      have hsz : KBy.picked b.toArray plo phi = (cut b bl bh).toArray := by
        unfold KBy.picked Builtin.Bytes.sliced
        have := sliced_cut b ql qh
        rw [List.size_toArray, this]
      have hcl := cut_len b bl bh
      refine tail_ok (typeIs_bytes _ _ _) FB.slot_bytes_getitem.lookup (getItem_meets (typeIs_bytes _ _ _) (by decide) FB.slot_bytes_getitem FB.entry_bytes_getitem (FB.args_bytes_getitem_2 _ _) (KBc.meets_slice2 b.toArray t _ pl ph) ⟨hS, ?_, fun t' k => ?_⟩) (hs _ _)
      · rw [hsz, List.size_toArray, sizeLine_eq]; unfold LIM at hb; lia
      · rw [hsz]
        exact hQ _ _ _ _ e (N.trans (N.rep.tk k)) (.bytes _ _ (by lia))
  | ref a =>
    obtain ⟨bl, hbl, e⟩ := optP_inv e
    obtain ⟨mo, ha, e⟩ := optP_inv e
    cases ho
    cases mo with
    | list vs =>
      obtain ⟨bh, hbh, e⟩ := optP_inv e
      · skip
        obtain ⟨plo, pl, ql⟩ := part_ok hl hbl
        obtain ⟨phi, ph, qh⟩ := part_ok hh hbh
        obtain ⟨⟨o, items, m, ho, hc, hd, hsl, hdat, hr, hlim⟩, _⟩ := N.rep.objs a _ ha
        have hlen := hr.1
        rw [← hlen] at qh hlim
        have hcl := cut_len items bl bh
        have hcut : slicePick items.toArray plo phi none = (cut items bl bh).toArray := by
          unfold slicePick
          have := sliced_cut items ql qh
          rw [List.size_toArray, this]
        refine tail_ok (T := "list") ⟨o, ho, hc⟩ PySem.slot_list_getitem.lookup (wpAny_getItem_list_slice ⟨o, ho, hc, m, hdat⟩ hS pl ph .none (by simp) ?_ ?_) (hs _ _)
        · rw [hcut]
          have nn := mh_none N.rep (dead_size _)
          refine hQ _ _ _ _ (e _ nn) (N.trans (N.rep.new (tk := s.toks) c rfl ⟨_, cut items bl bh, 0, Heap.get?_push_size _ rfl, rfl, rfl, rfl, rfl, ?_, ?_⟩)) (.ref _)
          · refine vreps_mono (fun b o xs k hb hm u_ => ⟨?_, o.slots, Heap.get?_push_of_some _ hb⟩) (vreps_cut hr bl bh)
            have : b ≠ (s.heap.push { cls := .type "slice", data := .fields [rl, rh, Value.none].toArray }).objs.size := Nat.ne_of_lt (Heap.lt_size hb)
            show (if b = _ then _ else st.mh b) = none
            rw [if_neg this, hm]
          · have := cut_len vs bl bh
            lia
        · rw [List.size_toArray, sizeLine_eq]; unfold LIM at hlim; lia
    | barr bs =>
      obtain ⟨bh, hbh, e⟩ := optP_inv e
      · skip
        obtain ⟨plo, pl, ql⟩ := part_ok hl hbl
        obtain ⟨phi, ph, qh⟩ := part_ok hh hbh
        obtain ⟨⟨o, ho, hc, hd, hsl, hdat, hlim⟩, _⟩ := N.rep.objs a _ ha
        have hcl := cut_len bs bl bh
        have hcut : Builtin.Bytes.sliced bs.toArray (sliceBounds plo phi none bs.length).1 (sliceBounds plo phi none bs.length).2.1 (sliceBounds plo phi none bs.length).2.2 = (cut bs bl bh).toArray := by
          unfold Builtin.Bytes.sliced
          rw [sliced_cut bs ql qh]
        refine tail_ok (T := "bytearray") ⟨o, ho, hc⟩ slot_bytearray_getitem.lookup (getItem_meets ⟨o, ho, hc⟩ (by decide) slot_bytearray_getitem entry_bytearray_getitem (args_bytearray_getitem _ _) (meets_barr_slice s.heap.objs.size a bs pl ph ?_) ⟨hS, ⟨o, ho, hdat⟩, ?_⟩) (hs _ _)
        · rw [hcut, List.size_toArray, sizeLine_eq]; unfold LIM at hlim; lia
        · rw [hcut]
          have nn := mh_none N.rep (dead_size _)
          exact hQ _ _ _ _ (e _ nn) (N.trans (N.rep.new (tk := s.toks) c rfl ⟨_, Heap.get?_push_size _ rfl, rfl, rfl, rfl, rfl, by lia⟩)) (.ref _)
    | _ => exact e.elim
  | _ => obtain ⟨u1, u2, e⟩ := optP_inv e; exact False.elim e
end
end Lx
namespace Lx
open PySem PySem.W PySem.Calls PyProof.Rows PySem.Spec
section
variable {W : Wd} {X : Cx} {st : St} {s : Shared} {n : Nat}
noncomputable def expF (self : Value) : Code × Pos → Bool
  | (.builtin "bytearray.__contains__" ⟨v :: _, _⟩, _) | (.builtin "bytearray.__mod__" ⟨v :: _, _⟩, _)
  | (.builtin "bytearray.__rmod__" ⟨_ :: v :: _, _⟩, _) | (.builtin "_struct.pack_into.held" ⟨v :: _, _⟩, _) => Builtin.Bytes.sameRef v self
  | (.builtin "bytearray.find.held" ⟨_ :: _ :: held, _⟩, _) => held.any (Builtin.Bytes.sameRef self)
  | (.builtin id ⟨v :: _, _⟩, _) => Builtin.Bytes.sameRef v self && Builtin.Bytes.decodersThatHold.contains id
  | _ => false
theorem expF_fine {self : Value} {x : Code × Pos} (h : holdsB x.1 = false) : expF self x = false := by
  obtain ⟨c, q⟩ := x
  cases c with
  | builtin id args =>
    have h1 : heldIds.contains id = false := h
    have k : ∀ n, heldIds.contains n = true → id ≠ n := fun n hn e => by rw [e, hn] at h1; exact Bool.noConfusion h1
    have h2 : Builtin.Bytes.decodersThatHold.contains id = false := by
      unfold heldIds at h1
      simp only [List.contains_eq_mem, decide_eq_false_iff_not, List.mem_append, not_or] at h1 ⊢
      exact h1.2
    unfold expF expF.match_1
    refine (dif_neg (k _ (by decide +kernel))).trans ((dif_neg (k _ (by decide +kernel))).trans ((dif_neg (k _ (by decide +kernel))).trans ((dif_neg (k _ (by decide +kernel))).trans ((dif_neg (k _ (by decide +kernel))).trans ?_))))
    obtain ⟨pos, kw⟩ := args
    cases pos with
    | nil => rfl
    | cons v tl => show (_ && Builtin.Bytes.decodersThatHold.contains id) = false; rw [h2]; exact Bool.and_false _
  | _ => rfl
theorem wpF_exported {M : Model} {A : Around} {self : Value} {Q : Bool → Shared → Prop} {E} (h : Q false s) : wpF M A (Builtin.Bytes.exported self) Q E s := fun Γ p hΓ hf => by
  have key : ∀ l : List (Code × Pos), FineL l → l.any (expF self) = false := fun l hl => by
    rw [List.any_eq_false]
    intro x hx
    rw [expF_fine (hl x hx)]
    exact Bool.false_ne_true
  have := key ((Γ.code, p) :: Γ.below) (fun x hx => by
    rcases List.mem_cons.mp hx with rfl | hx
    · exact hf.1
    · exact hf.2 x hx)
  have h2 : Q (((Γ.code, p) :: Γ.below).any (expF self)) s := by rw [this]; exact h
  exact h2
theorem append_fine (a : Args) : holdsB (.builtin "bytearray.append" a) = false := by
  show heldIds.contains "bytearray.append" = false
  decide +kernel
theorem wpAny_byteValue {M : Model} {A : Around} {i : Int} {t : Tok} {Q : UInt8 → Shared → Prop} {E} (h0 : 0 ≤ i) (h1 : i < 256) (h : Q i.toNat.toUInt8 s) : wpAny M A (Builtin.Bytes.byteValue (.int i t)) Q E s := by
  unfold Builtin.Bytes.byteValue
  refine wpAny_bind (wpAny_of_eq (a := i) rfl ?_)
  have : ¬ ((decide (i < 0) || decide (i ≥ 256)) = true) := by simp; lia
  rw [if_neg this]
  exact wpAny_pure h
theorem barr_update {a : Addr} {o : Obj} {b : Array UInt8} {k : Nat} {A : Around} {f : Array UInt8 → Array UInt8} {Q : Unit → Shared → Prop} {E} (ho : s.heap.get? a = some o) (hd : o.data = .bytearray b k) (hz : (f b).size ≤ sizeLine)
    (h : Q () { s with heap := s.heap.update a (Obj.mapBytearray f) }) : wpAny (M W) A (Builtin.Bytes.write (.ref a) f) Q E s := by
  obtain ⟨c, d, dt, sl⟩ := o
  simp only at hd; subst hd
  show wpAny _ _ (updateBytearray a f) _ _ _
  unfold updateBytearray
  refine wpAny_bind (wpAny_load ho ?_)
  dsimp only
  refine wpAny_bind (wpAny_update ho ?_)
  refine wpAny_lookBehind (o := Obj.mapBytearray f ⟨c, d, .bytearray b k, sl⟩) (Heap.get?_update_self _ ho rfl) ?_ h
  show (if (f b).size > sizeLine then some "bytearray:memory" else none) = none
  exact if_neg (Nat.not_lt.mpr hz)
theorem barr_append_ok (c : CxOK X) (R : Rep W X st s) {a : Ad} {bs : List UInt8} {i : Int} {t : Tok} (ha : st.mh a = some (.barr bs)) (h0 : 0 ≤ i) (h1 : i < 256) (hl : bs.length < LIM)
    {Qr : Value → Shared → Prop} {Er} (hQ : ∀ s', Nxt W X st s { st with mh := st.mh.set a (.barr (bs ++ [UInt8.ofNat i.toNat])) } s' → Qr .none s') : wpF (M W) X.A (call (.builtin "bytearray.append") [.ref a, .int i t]) Qr Er s := by
  obtain ⟨⟨o, ho, hc, hd, hsl, hdat, hlim⟩, hH⟩ := R.objs a _ ha
  have hT : s.TypeIs (.ref a) "bytearray" := ⟨o, ho, hc⟩
  refine wpF_call (codeF_callBuiltin (plainId_quiet slot_bytearray_append.plain _) (slot_bytearray_append.check _ _ _ _ _ _ _ _ hT (args_bytearray_append _ _) rfl) (codeF_builtin (append_fine _) entry_bytearray_append ?_))
  unfold Builtin.«bytearray.append»
  refine wpF_bind (wpF_pure (a := (Value.ref a, Value.int i t)) ?_)
  refine wpF_bind (wpF_any (wpAny_byteValue h0 h1 ?_))
  have chk : wpF (M W) (X.A.under (.builtin "bytearray.append" ⟨[.ref a, .int i t], []⟩)) (Builtin.Bytes.checkResize (.ref a)) (fun u_ s' => s' = s) (fun u_ u_ => False) s := by
    unfold Builtin.Bytes.checkResize
    refine wpF_then (P := fun b s' => b = false ∧ s' = s) ?_ fun b s' e => ?_
    · unfold orM
      refine wpF_bind (wpF_exported ?_)
      dsimp only [toBool]
      refine wpF_any (wpAny_bind (wpAny_bind (wpAny_load ho ?_)))
      rw [hdat]
      exact wpAny_pure (wpAny_pure ⟨rfl, rfl⟩)
    · obtain ⟨rfl, rfl⟩ := e
      rw [if_neg Bool.false_ne_true]
      exact wpF_pure rfl
  refine wpF_then (wpF_mono chk (fun u_ u_ e => e) fun u_ u_ x => x.elim) fun u_ s' e => ?_
  subst e
  refine wpF_bind (wpF_any (barr_update ho hdat ?_ ?_))
  · rw [Array.size_push, List.size_toArray, sizeLine_eq]; unfold LIM at hl; lia
  · refine wpF_pure ?_
    have hup := Heap.get?_update_self (Obj.mapBytearray fun x => x.push i.toNat.toUInt8) ho (by
      obtain ⟨c, d, dt, sl⟩ := o; simp only at hdat; subst hdat; rfl)
    obtain ⟨oc, od, odt, osl⟩ := o
    simp only at hc hd hsl hdat
    subst hc hd hsl hdat
    have P := R.put (tk := s'.toks) (dr := s'.drawn) c (a := a) (mo := .barr (bs ++ [UInt8.ofNat i.toNat])) (h' := s'.heap.update a (Obj.mapBytearray fun x => x.push i.toNat.toUInt8))
      (fun b o' q e => (Heap.get?_update_other s'.heap _ (Ne.symm q)).trans e) (.inl ⟨_, ha⟩) hH ⟨_, hup, rfl, rfl, rfl, by show Data.bytearray _ _ = _; congr 1; simp [UInt8.ofNat, Nat.toUInt8], by rw [List.length_append]; show bs.length + 1 ≤ LIM; lia⟩ ⟨_, hup⟩
    exact hQ _ ⟨P.1, P.2⟩
theorem type_bytearray_append : typeOf (.builtin "bytearray.append") = pure (.type "method_descriptor") := by show builtinType _ = _; rw [builtinType_eq_fast]; kernel_rfl
theorem type_bytes_find : typeOf (.builtin "bytes.find") = pure (.type "method_descriptor") := by show builtinType _ = _; rw [builtinType_eq_fast]; kernel_rfl
noncomputable def mkV : MK → Value
  | .own f => .ref f
  | .lAppend => .builtin "list.append"
  | .lReverse => .builtin "list.reverse"
  | .bAppend => .builtin "bytearray.append"
  | .dGet => .builtin "dict.get"
  | .bFind => .builtin "bytes.find"
theorem nm_append : nm (Ot W n).nAppend = PySem.Str.ofString "append" := by show nm 34 = _; decide +kernel
theorem nm_reverse : nm (Ot W n).nReverse = PySem.Str.ofString "reverse" := by show nm 35 = _; decide +kernel
theorem nm_find : nm (Ot W n).nFind = PySem.Str.ofString "find" := by show nm 51 = _; decide +kernel
theorem nm_get : nm (Ot W n).nGet = PySem.Str.ofString "get" := by show nm 120 = _; decide +kernel
theorem getMethod_ok (w : WOK W) (c : CxOK X) (R : Rep W X st s) {o : V} {name : Nm} {ro : Value} {k : MK} (ho : VRep st.mh s.heap o ro) (e : mkind (Ot W n) name o st.mh = some k) (hn : name < NN) {pl : Sem Bool}
    {Qr : Value × List Value → Shared → Prop} {Er}
    (hQ : ∀ rf s', Nxt W X st s st s' → rf = mkV k → ((∃ f, rf = .ref f ∧ keepIn W.K rf = true) ∨ ∀ a, rf ≠ .ref a) → Qr (rf, [ro]) s') : wpAny (M W) X.A (getMethod ro (nm name) pl) Qr Er s := by
  have fin : ∀ k' id, mkV k' = .builtin id → k = k' → Qr (.builtin id, [ro]) s := fun k' id e1 e2 => hQ _ _ (.refl R) (by rw [e2, e1]) (.inr fun a q => by cases q)
  cases o with
  | bytes b =>
    obtain ⟨t, rfl, _⟩ := ho.i_bytes
    obtain ⟨hnm, rfl⟩ := ite_sm e
    rw [hnm, nm_find]
    exact getMethod_builtin (typeIs_bytes _ _ _) FB.plainAttrs_bytes slot_bytes_find type_bytes_find (fun a q => by cases q) (fin .bFind _ rfl rfl)
  | ref a =>
    obtain rfl := ho.i_ref
    obtain ⟨m, ha, e⟩ := Option.bind_eq_some_iff.mp e
    cases m with
    | inst C d =>
      obtain ⟨fs, hd, e⟩ := Option.bind_eq_some_iff.mp e
      replace hd := moFlds_inv hd
      cases h0 : fs name with
      | some u => rw [h0] at e; cases e
      | none =>
        rw [h0] at e
        obtain ⟨f, hm, rfl⟩ := Option.map_eq_some_iff.mp e
        exact getMethod_own w c R ha hd h0 hm hn fun hk => hQ _ _ (.refl R) rfl (.inl ⟨f, rfl, hk⟩)
    | list vs =>
      obtain ⟨⟨oo, items, m, ho, hc, hd, hsl, hdat, hr, hlim⟩, _⟩ := R.objs a _ ha
      have nod : ∀ b, Value.ref a = .ref b → ∃ o, s.heap.get? b = some o ∧ o.dict = none := fun b q => by cases q; exact ⟨oo, ho, hd⟩
      by_cases hnm : name = (Ot W n).nAppend
      · cases (if_pos hnm).symm.trans e
        rw [hnm, nm_append]
        exact getMethod_builtin ⟨oo, ho, hc⟩ PySem.F.plainAttrs_list PySem.F.slot_list_append PySem.F.type_list_append nod (fin .lAppend _ rfl rfl)
      · obtain ⟨hnm, rfl⟩ := ite_sm ((if_neg hnm).symm.trans e)
        rw [hnm, nm_reverse]
        exact getMethod_builtin ⟨oo, ho, hc⟩ PySem.F.plainAttrs_list PySem.F.slot_list_reverse PySem.F.type_list_reverse nod (fin .lReverse _ rfl rfl)
    | barr bs =>
      obtain ⟨⟨oo, ho, hc, hd, hsl, hdat, hlim⟩, _⟩ := R.objs a _ ha
      have nod : ∀ b, Value.ref a = .ref b → ∃ o, s.heap.get? b = some o ∧ o.dict = none := fun b q => by cases q; exact ⟨oo, ho, hd⟩
      obtain ⟨hnm, rfl⟩ := ite_sm e
      rw [hnm, nm_append]
      exact getMethod_builtin ⟨oo, ho, hc⟩ plainAttrs_bytearray slot_bytearray_append type_bytearray_append nod (fin .bAppend _ rfl rfl)
    | bdict kvs =>
      obtain ⟨⟨kvr, hD, _⟩, _⟩ := R.objs a _ ha
      obtain ⟨hnm, rfl⟩ := ite_sm e
      rw [hnm, nm_get]
      exact getMethod_builtin hD.typeIs PySem.F.plainAttrs_dict PySem.F.slot_dict_get PySem.F.type_dict_get hD.mapOf.noDict (fin .dGet _ rfl rfl)
    | _ => cases e
  | _ => cases e
theorem upd_list {a : Ad} {vs us : List V} {items : List Value} {m : Nat} {f : Array Value → Array Value} {o : Obj} (c : CxOK X) (R : Rep W X st s) (ha : st.mh a = some (.list vs)) (ho : s.heap.get? a = some o) (hc : o.cls = .type "list") (hd : o.dict = none) (hsl : o.slots = #[]) (hdat : o.data = .seq items.toArray m)
    {its : List Value} (hf : f items.toArray = its.toArray) (hr : VReps st.mh s.heap us its) (hl : us.length ≤ LIM) : Nxt W X st s { st with mh := st.mh.set a (.list us) } { s with heap := s.heap.update a (Obj.mapSeq f) } := by
  obtain ⟨_, hH⟩ := R.objs a _ ha
  obtain ⟨m', hd'⟩ := Obj.data_mapSeq hdat f
  have hup := Heap.get?_update_self (Obj.mapSeq f) ho (Obj.isFreed_of_seq hd')
  have P := R.put (tk := s.toks) (dr := s.drawn) c (a := a) (mo := .list us) (h' := s.heap.update a (Obj.mapSeq f)) (fun b o' q e => (Heap.get?_update_other s.heap _ (Ne.symm q)).trans e) (.inl ⟨_, ha⟩) hH ?_ ⟨_, hup⟩
  · exact ⟨P.1, P.2⟩
  · obtain ⟨oc, od, odt, osl⟩ := o
    simp only at hc hd hsl hdat
    subst hc hd hsl hdat
    refine ⟨_, its, m', hup, rfl, rfl, rfl, by rw [← hf]; exact hd', ?_, hl⟩
    refine vreps_mono (fun b ob xs k hb hm u_ => ⟨?_, ob.slots, ?_⟩) hr
    · have : b ≠ a := fun q => by subst q; rw [ha] at hm; cases hm
      show (if b = _ then _ else st.mh b) = none
      rw [if_neg this, hm]
    · have : b ≠ a := fun q => by subst q; rw [ha] at hm; cases hm
      exact (Heap.get?_update_other s.heap _ (Ne.symm this)).trans hb
theorem vreps_app {mh : MH} {h : Heap} : ∀ {as bs : List V} {xs ys : List Value}, VReps mh h as xs → VReps mh h bs ys → VReps mh h (as ++ bs) (xs ++ ys)
  | [], bs, xs, ys, a, b => by
    have : xs = [] := List.eq_nil_of_length_eq_zero a.1
    subst this; exact b
  | u :: as, bs, [], ys, a, b => by cases a.1
  | u :: as, bs, x :: xs, ys, a, b => vreps_cons (a.2 0 u x rfl rfl) (vreps_app ⟨Nat.succ.inj a.1, fun i v y e1 e2 => a.2 (i + 1) v y e1 e2⟩ b)
theorem vreps_rev {mh : MH} {h : Heap} : ∀ {as : List V} {xs : List Value}, VReps mh h as xs → VReps mh h as.reverse xs.reverse
  | [], xs, a => by
    have : xs = [] := List.eq_nil_of_length_eq_zero a.1
    subst this; exact vreps_nil
  | u :: as, [], a => by cases a.1
  | u :: as, x :: xs, a => by
    rw [List.reverse_cons, List.reverse_cons]
    exact vreps_app (vreps_rev ⟨Nat.succ.inj a.1, fun i v y e1 e2 => a.2 (i + 1) v y e1 e2⟩) (vreps_cons (a.2 0 u x rfl rfl) vreps_nil)
theorem vreps_none {mh : MH} {h : Heap} {rs : List Value} (r : VReps mh h [] rs) : rs = [] := List.eq_nil_of_length_eq_zero r.1
theorem vreps_tail {mh : MH} {h : Heap} {v : V} {vs : List V} {rs : List Value} (r : VReps mh h (v :: vs) rs) : ∃ x xs, rs = x :: xs ∧ VRep mh h v x ∧ VReps mh h vs xs := by
  cases rs with
  | nil => cases r.1
  | cons x xs => exact ⟨x, xs, rfl, r.2 0 v x rfl rfl, Nat.succ.inj r.1, fun i v y e1 e2 => r.2 (i + 1) v y e1 e2⟩
theorem vreps_one {mh : MH} {h : Heap} {v : V} {rs : List Value} (r : VReps mh h [v] rs) : ∃ x, rs = [x] ∧ VRep mh h v x := by
  obtain ⟨x, xs, rfl, r1, r⟩ := vreps_tail r
  obtain rfl := vreps_none r
  exact ⟨x, rfl, r1⟩
theorem vreps_two {mh : MH} {h : Heap} {v u : V} {rs : List Value} (r : VReps mh h [v, u] rs) : ∃ x y, rs = [x, y] ∧ VRep mh h v x ∧ VRep mh h u y := by
  obtain ⟨x, xs, rfl, r1, r⟩ := vreps_tail r
  obtain ⟨y, rfl, r2⟩ := vreps_one r
  exact ⟨x, y, rfl, r1, r2⟩
theorem lappend_ok (c : CxOK X) (R : Rep W X st s) {a : Ad} {vs : List V} {u : V} {ru : Value} (ha : st.mh a = some (.list vs)) (hu : VRep st.mh s.heap u ru) (hl : vs.length < LIM)
    {Qr : Value → Shared → Prop} {Er} (hQ : ∀ s', Nxt W X st s { st with mh := st.mh.set a (.list (vs ++ [u])) } s' → Qr .none s') : wpAny (M W) X.A (call (.builtin "list.append") [.ref a, ru]) Qr Er s := by
  obtain ⟨⟨o, items, m, ho, hc, hd, hsl, hdat, hr, hlim⟩, hH⟩ := R.objs a _ ha
  have N := upd_list (us := vs ++ [u]) (its := items ++ [ru]) (f := fun x => x.push ru) c R ha ho hc hd hsl hdat (by simp) (vreps_app hr (vreps_cons hu vreps_nil)) (by rw [List.length_append]; show vs.length + 1 ≤ LIM; lia)
  have hl2 := hr.1
  refine call_meets (T := "list") PySem.F.slot_list_append ⟨o, ho, hc⟩ PySem.F.entry_list_append (PySem.F.args_list_append_2 _ _) (list_append a items.toArray m ru (by rw [List.size_toArray, sizeLine_eq]; unfold LIM at hlim; lia)) ⟨?_, hQ _ N⟩
  rw [ho]
  obtain ⟨oc, od, odt, osl⟩ := o
  simp only at hc hd hsl hdat
  subst hc hd hsl hdat
  rfl
theorem lreverse_ok (c : CxOK X) (R : Rep W X st s) {a : Ad} {vs : List V} (ha : st.mh a = some (.list vs))
    {Qr : Value → Shared → Prop} {Er} (hQ : ∀ s', Nxt W X st s { st with mh := st.mh.set a (.list vs.reverse) } s' → Qr .none s') : wpAny (M W) X.A (call (.builtin "list.reverse") [.ref a]) Qr Er s := by
  obtain ⟨⟨o, items, m, ho, hc, hd, hsl, hdat, hr, hlim⟩, hH⟩ := R.objs a _ ha
  have N := upd_list (us := vs.reverse) (its := items.reverse) (f := fun x => x.reverse) c R ha ho hc hd hsl hdat (by simp) (vreps_rev hr) (by rw [List.length_reverse]; exact hlim)
  have hl2 := hr.1
  refine call_meets (T := "list") PySem.F.slot_list_reverse ⟨o, ho, hc⟩ PySem.F.entry_list_reverse (PySem.F.args_list_reverse_1 _) (AutoSeq1.list_reverse_list_0 a items.toArray m (by rw [List.size_toArray, sizeLine_eq]; unfold LIM at hlim; lia)) ⟨?_, hQ _ N⟩
  rw [ho]
  obtain ⟨oc, od, odt, osl⟩ := o
  simp only at hc hd hsl hdat
  subst hc hd hsl hdat
  rfl
end
end Lx
namespace Lx
open PySem PySem.W PySem.Calls PyProof.Rows PySem.Spec
section
variable {W : Wd} {X : Cx} {st : St} {s : Shared} {n : Nat}
theorem Rep.low (w : WOK W) (R : Rep W X st s) {a : Ad} {mo : MO} (ha : st.mh a = some mo) : (a == sysModules) = false := beq_eq_false_iff_ne.mpr (R.objs _ _ ha).2.2
theorem lookup_pairs {mh : MH} {h : Heap} (k : List UInt8) : ∀ {kvs : List (List UInt8 × V)} {kvr : List (List UInt8 × Value)}, kvr.length = kvs.length →
    (∀ (i : Nat) (p : List UInt8 × V) (q : List UInt8 × Value), kvs[i]? = some p → kvr[i]? = some q → q.1 = p.1 ∧ VRep mh h p.2 q.2) →
    match kvs.lookup k with | some v => ∃ rv, valueAt kvr k = some rv ∧ VRep mh h v rv | none => valueAt kvr k = none
  | [], [], _, _ => rfl
  | [], _ :: _, l, _ => by cases l
  | _ :: _, [], l, _ => by cases l
  | (k', v) :: kvs, (k'', rv) :: kvr, l, q => by
    obtain ⟨e, r⟩ := q 0 _ _ rfl rfl
    dsimp only at e r
    subst e
    have ih := lookup_pairs k (Nat.succ.inj l) fun i p r a b => q (i + 1) p r a b
    rw [List.lookup_cons]
    unfold valueAt at ih ⊢
    by_cases hk : k'' = k
    · subst hk
      simp only [beq_self_eq_true]
      exact ⟨rv, by simp, r⟩
    · have h1 : (k == k'') = false := beq_eq_false_iff_ne.mpr (Ne.symm hk)
      simp only [h1]
      have h2 : (List.find? (fun kv => decide (kv.1 = k)) ((k'', rv) :: kvr)) = List.find? (fun kv => decide (kv.1 = k)) kvr := by rw [List.find?_cons_of_neg (by simpa using hk)]
      rw [h2]
      exact ih
theorem bytes_is (P : Program) (w : World) (k : List UInt8) (t : Tok) : (bytesKind P w).is k (.bytes k.toArray t) = true := by
  simp [bytesKind, isBytes]
theorem dget_ok (w : WOK W) (c : CxOK X) (R : Rep W X st s) {a : Ad} {kvs : List (List UInt8 × V)} {k : List UInt8} {t : Tok} (ha : st.mh a = some (.bdict kvs))
    {Qr : Value → Shared → Prop} {Er} (hQ : ∀ rv s', Nxt W X st s st s' → VRep st.mh s'.heap (lookB kvs k) rv → Qr rv s') : wpAny (M W) X.A (call (.builtin "dict.get") [.ref a, .bytes k.toArray t]) Qr Er s := by
  obtain ⟨⟨kvr, hD, l, _, q⟩, _⟩ := R.objs a _ ha
  have lk := lookup_pairs k l q
  refine call_meetsIn PySem.F.slot_dict_get hD.typeIs PySem.F.entry_dict_get (PySem.F.args_dict_get_2 _ _) (meets_dict_get (bytesKind W.prog W.w) a (bytes_is _ _ k t) (R.low w ha)) ⟨_, hD.mapOf, ?_⟩
  show Qr _ _
  refine hQ _ _ (R.tk _) ?_
  unfold lookB
  cases e : kvs.lookup k with
  | none => rw [e] at lk; rw [lk]; exact .none
  | some v => rw [e] at lk; obtain ⟨rv, e1, e2⟩ := lk; rw [e1]; exact e2
theorem setItemDict_ok (w : WOK W) (c : CxOK X) (R : Rep W X st s) {a : Ad} {k : List UInt8} {t : Tok} {kvs : List (List UInt8 × V)} {v : V} {rv : Value} (ha : st.mh a = some (.bdict kvs)) (h0 : kvs.lookup k = none) (h1 : kvs.length < LIM) (hv : VRep st.mh s.heap v rv)
    {Qr : Unit → Shared → Prop} {Er} (hQ : ∀ s', Nxt W X st s { st with mh := st.mh.set a (.bdict (kvs ++ [(k, v)])) } s' → Qr () s') : wpAny (M W) X.A (setItem (.ref a) (.bytes k.toArray t) rv) Qr Er s := by
  obtain ⟨⟨kvr, hD, l, hl, q⟩, hH⟩ := R.objs a _ ha
  have lk := lookup_pairs k l q
  rw [h0] at lk
  have hst : stored kvr k rv = kvr ++ [(k, rv)] := by
    unfold stored
    rw [if_neg]
    intro hany
    rw [List.any_eq_true] at hany
    obtain ⟨kv, hm, hk⟩ := hany
    unfold valueAt at lk
    rw [Option.map_eq_none_iff, List.find?_eq_none] at lk
    exact lk kv hm hk
  refine wpAny_setItem_pairs (bytes_is W.prog W.w k t) hD (fun h' hD' hs => ?_) (by rw [sizeLine_eq]; unfold LIM at h1; lia)
  rw [hst] at hD'
  obtain ⟨o', es', ep', ho', r'⟩ := hD'
  have P := R.put (tk := s.toks + 1) (dr := s.drawn) c (a := a) (mo := .bdict (kvs ++ [(k, v)])) (h' := h') (fun b o' q e => (hs.2 b q).trans e) (.inl ⟨_, ha⟩) hH ?_ ⟨_, ho'⟩
  · exact hQ _ ⟨P.1, P.2⟩
  · have up : ∀ b o xs n, s.heap.get? b = some o → st.mh b = none → o.data = .seq xs n → (st.mh.set a (.bdict (kvs ++ [(k, v)]))) b = none ∧ ∃ sl, h'.get? b = some { o with slots := sl } := fun b o u_ u_ e m u_ => by
      have : b ≠ a := fun q => by subst q; rw [ha] at m; cases m
      refine ⟨?_, o.slots, (hs.2 b this).trans e⟩
      show (if b = _ then _ else st.mh b) = none
      rw [if_neg this, m]
    refine ⟨kvr ++ [(k, rv)], ⟨o', es', ep', ho', r'⟩, by simp [l], by rw [List.length_append]; show kvs.length + 1 ≤ LIM; lia, fun i p r e1 e2 => ?_⟩
    by_cases hi : i < kvs.length
    · rw [List.getElem?_append_left hi] at e1
      rw [List.getElem?_append_left (by lia)] at e2
      exact ⟨(q i p r e1 e2).1, vrep_mono up (q i p r e1 e2).2⟩
    · rw [List.getElem?_append_right (by lia)] at e1
      rw [List.getElem?_append_right (by lia), l] at e2
      cases hj : i - kvs.length with
      | zero => rw [hj] at e1 e2; cases e1; cases e2; exact ⟨rfl, vrep_mono up hv⟩
      | succ j => rw [hj] at e1; cases e1
theorem len_ok (w : WOK W) (c : CxOK X) (R : Rep W X st s) {v : V} {rv : Value} {k : Nat} (hv : VRep st.mh s.heap v rv) (e : lenV (Ot W n) st.mh v = some k)
    {Qr : Value → Shared → Prop} {Er} (hQ : ∀ rv s', Nxt W X st s st s' → VRep st.mh s'.heap (.int k) rv → Qr rv s') : wpAny (M W) X.A (call (.builtin "len") [rv]) Qr Er s := by
  have fin : ∀ j t tk, j = k → Qr (.int (j : Nat) t) { s with toks := tk } := fun j t tk e => by subst e; exact hQ _ _ (R.tk _) (.int _ _)
  cases v with
  | bytes b =>
    obtain ⟨t, rfl, hb⟩ := hv.i_bytes
    cases e
    refine PySem.W.len_bytes (by rw [List.size_toArray]; unfold LIM at hb; lia) (fin _ _ _ (by simp))
  | ref a =>
    obtain rfl := hv.i_ref
    obtain ⟨mo, ha, e⟩ := Option.bind_eq_some_iff.mp e
    cases mo with
    | list vs =>
      cases e
      obtain ⟨⟨o, items, m, ho, hc, hd, hsl, hdat, hr, hlim⟩, _⟩ := R.objs a _ ha
      have hl := hr.1
      exact call_len_list ⟨o, ho, hc, m, hdat⟩ (by rw [List.size_toArray]; unfold LIM at hlim; lia) (fin _ _ _ (by simp [hl]))
    | barr bs =>
      cases e
      obtain ⟨⟨o, ho, hc, hd, hsl, hdat, hlim⟩, _⟩ := R.objs a _ ha
      have g : Meets (Builtin.«bytearray.__len__» ⟨[.ref a], []⟩) (fun u_ Rr s => (∃ ob, s.heap.get? a = some ob ∧ ob.data = .bytearray bs.toArray 0) ∧ Rr (.ok (.ret (.int bs.length s.toks))) { s with toks := s.toks + 1 }) := by
        refine .of_wp fun prog w A Rr s hS => ?_
        obtain ⟨⟨ob, hob, hbd⟩, h⟩ := hS
        show wpAny _ _ (Builtin.Bytes.payload (.ref a) >>= fun r => retInt r.size) _ _ s
        unfold Builtin.Bytes.payload Builtin.Bytes.payload?
        refine wpAny_bind (wpAny_bind (wpAny_bind (wpAny_load hob ?_)))
        rw [hbd]
        refine wpAny_pure (wpAny_pure ?_)
        show wpAny _ _ (do ret (← mkInt (bs.toArray.size : Int))) _ _ _
        refine wpAny_bind (wpAny_mkInt (wpAny_pure ⟨_, rfl, ?_⟩))
        simpa using h
      exact call_len_meets ⟨o, ho, hc⟩ slot_bytearray_len entry_bytearray_len (args_bytearray_len _) g (by lia) (by unfold LIM at hlim; lia) (fun Q' hq => ⟨⟨o, ho, hdat⟩, hq⟩) (fin _ _ _ rfl)
    | _ => cases e
  | stat a =>
    obtain rfl := hv.i_stat
    obtain ⟨vs, hs, rfl⟩ := Option.map_eq_some_iff.mp e
    · have hs : SLt a = some vs := hs
      obtain ⟨o, items, m, ho, hc, hdat, hr, _⟩ := w.kf.slist a vs hs
      have hl := (hr st.mh s.heap).1
      have hlim := SLt_len hs
      exact call_len_list ⟨o, R.stays _ _ ho, hc, m, hdat⟩ (by rw [List.size_toArray]; unfold LIM at hlim; lia) (fin _ _ _ (by simp [hl]))
  | _ => cases e
theorem find_one (b : List UInt8) (x : UInt8) : Builtin.Bytes.find? b.toArray #[x] 0 b.length = b.findIdx? (· == x) := by
  have e : ∀ i, i < b.length → ((b.toArray.extract i (i + 1) == #[x]) = (b[i]? == some x)) := fun i hi => by
    have h1 : b.toArray.extract i (i + 1) = #[b[i]] := by
      apply Array.ext'
      simp only [Array.toList_extract]
      rw [List.extract_eq_take_drop, Nat.add_sub_cancel_left, List.drop_eq_getElem_cons hi]
      rfl
    rw [h1, List.getElem?_eq_getElem hi]
    rw [Bool.eq_iff_iff]
    simp
  unfold Builtin.Bytes.find?
  have h0 : b.length + 1 - (0 + (#[x] : Array UInt8).size) = b.length := by simp
  rw [h0]
  have hm : (List.range b.length).map (· + 0) = List.range b.length := by simp
  rw [hm]
  cases q : b.findIdx? (· == x) with
  | some i =>
    obtain ⟨hi, hp, hb⟩ := List.findIdx?_eq_some_iff_getElem.mp q
    rw [List.find?_range_eq_some]
    refine ⟨?_, List.mem_range.mpr hi, fun j hj => ?_⟩
    · show (b.toArray.extract i (i + 1) == #[x]) = true
      rw [e i hi, List.getElem?_eq_getElem hi]; simpa using hp
    · have hj' : j < b.length := Nat.lt_trans hj hi
      show (!(b.toArray.extract j (j + 1) == #[x])) = true
      rw [e j hj', List.getElem?_eq_getElem hj']
      have := hb j hj
      simpa using this
  | none =>
    rw [List.find?_eq_none]
    intro i hi
    have hi' := List.mem_range.mp hi
    have := List.findIdx?_eq_none_iff.mp q b[i] (List.getElem_mem hi')
    show ¬ (b.toArray.extract i (i + 1) == #[x]) = true
    rw [e i hi', List.getElem?_eq_getElem hi']
    simpa using this
theorem bfind_ok (R : Rep W X st s) {b : List UInt8} {x : UInt8} {t u : Tok} {Qr : Value → Shared → Prop} {Er} (hQ : ∀ rv s', Nxt W X st s st s' → VRep st.mh s'.heap (.int (findB b x)) rv → Qr rv s') :
    wpAny (M W) X.A (call (.builtin "bytes.find") [.bytes b.toArray t, .bytes [x].toArray u]) Qr Er s := by
  have g : Gives (Builtin.«bytes.find» ⟨[.bytes b.toArray t, .bytes [x].toArray u], []⟩) (.int (findB b x)) := by
    refine .of_wp fun M A E s Q hq => ?_
    show wpAny M A (Builtin.Bytes.searchArgs .bytes "find" ⟨[.bytes b.toArray t, .bytes [x].toArray u], []⟩ >>= fun r => _) _ E s
    refine wpAny_bind ?_
    unfold Builtin.Bytes.searchArgs
    refine wpAny_bind (wpAny_pure (a := (Value.bytes b.toArray t, [Value.bytes [x].toArray u])) ?_)
    refine wpAny_bind (wpAny_pure (a := none) (wpAny_bind (wpAny_pure (a := none) ?_)))
    refine wpAny_bind (wpAny_of_eq KBy.buffer_eq ?_)
    refine wpAny_bind (wpAny_pure ?_)
    refine wpAny_bind (wpAny_of_eq (a := b.toArray) rfl ?_)
    have hw : Builtin.Bytes.window b.toArray.size none none = (0, (b.length : Int)) := by
      have h1 : ¬ ((b.length : Int) < 0) := by lia
      simp [Builtin.Bytes.window, h1]
    rw [hw]
    dsimp only
    refine wpAny_pure ?_
    have hfin : ∀ {z : Int}, z = findB b x → wpAny M A (retInt z) (fun fin s' => ∃ v, fin = Fin.done (Flow.ret v) ∧ Q v s') E s := fun {z} e => by
      subst e
      exact wpAny_ret_mkInt hq
    have hq2 := find_one b x
    unfold findB at hfin
    by_cases hb : b = []
    · subst hb
      exact wpAny_bind (wpAny_rule (hfin rfl))
    · have hl : ¬ ((b.length : Int) - 0 < ((#[x] : Array UInt8).size : Int)) := by
        have : 0 < b.length := List.length_pos_iff.mpr hb
        simp; lia
      rw [if_neg hl]
      simp only [Option.bind_some, Bool.false_eq_true, if_false, Int.toNat_zero, Int.toNat_natCast, hq2]
      cases q : b.findIdx? (· == x) with
      | none => rw [q] at hfin; exact wpAny_bind (wpAny_rule (hfin rfl))
      | some i => rw [q] at hfin; exact hfin rfl
  exact call_gives (T := "bytes") slot_bytes_find (typeIs_bytes _ _ _) entry_bytes_find (args_bytes_find _ _) g (hQ _ _ (R.tk _) (.int _ _))
end
end Lx
namespace Lx
open PySem PySem.W PySem.Calls PyProof.Rows PySem.Spec
section
variable {W : Wd} {X : Cx} {st : St} {s : Shared} {n : Nat}
theorem own_ba {M : Model} {A : Around} {a : Addr} {name id : String} {Q : Bool → Shared → Prop} {E} (hT : s.TypeIs (.ref a) "bytearray") (hl : typeLookup (.type "bytearray") (name : PySem.Str) = pure (some (.builtin id)))
    (h1 : id.endsWith ("." ++ name) = true) (h2 : id.dropRight (name.length + 1) = "bytearray") (h : Q true s) : wpAny M A (Builtin.Bytes.slotIsOwn (.ref a) name) Q E s := by
  unfold Builtin.Bytes.slotIsOwn
  refine wpAny_bind (wpAny_specialOf hT hl ?_)
  dsimp only
  rw [h1]
  simp only [Bool.not_true, Bool.false_eq_true, if_false]
  rw [h2]
  exact wpAny_isInstance hT ba_sub h
theorem buffer_ba {M : Model} {A : Around} {a : Addr} {o : Obj} {b : Array UInt8} {k : Nat} {id : String} {full : Bool} {Q : Option (Array UInt8) → Shared → Prop} {E} (ho : s.heap.get? a = some o) (hc : o.cls = .type "bytearray") (hd : o.data = .bytearray b k) (h : Q (some b) s) :
    wpAny M A (Builtin.Bytes.buffer? id (.ref a) full) Q E s := by
  have hT : s.TypeIs (.ref a) "bytearray" := ⟨o, ho, hc⟩
  unfold Builtin.Bytes.buffer?
  refine wpAny_bind (wpAny_specialOf hT ba_buffer ?_)
  dsimp only
  refine wpAny_bind (own_ba hT ba_buffer (by decide +kernel) (by decide +kernel) ?_)
  simp only [Bool.not_true, Bool.false_eq_true, if_false]
  refine wpAny_bind (wpAny_specialOf hT ba_buffer ?_)
  refine wpAny_bind ?_
  unfold Builtin.Bytes.ownRelease
  refine wpAny_bind (own_ba hT ba_release (by decide +kernel) (by decide +kernel) (wpAny_pure ?_))
  simp only [Bool.not_true, Bool.false_eq_true, if_false]
  refine wpAny_bind ?_
  unfold Builtin.Bytes.payload Builtin.Bytes.payload?
  refine wpAny_bind (wpAny_bind (wpAny_load ho ?_))
  rw [hd]
  exact wpAny_pure (wpAny_pure (wpAny_pure h))
theorem bytes_ba_new {A : Around} {a : Addr} {o : Obj} {b : Array UInt8} {k : Nat} {Q : Value → Shared → Prop} {E} (ho : s.heap.get? a = some o) (hc : o.cls = .type "bytearray") (hd : o.data = .bytearray b k) (hz : b.size ≤ sizeLine)
    (hQ : ∀ t k, Q (.bytes b t) { s with toks := k }) : codeAny (M W) A (.call (.builtin "bytes.__new__") ⟨[.type "bytes", .ref a], []⟩) (wants Q E) s := by
  have hT : s.TypeIs (.ref a) "bytearray" := ⟨o, ho, hc⟩
  refine codeAny_of_tree ?_
  show wpAny _ A.in1 (do checkBuiltinCall "bytes.__new__" ⟨[.type "bytes", .ref a], []⟩; again (.builtin "bytes.__new__" ⟨[.type "bytes", .ref a], []⟩)) _ _ s
  refine wpAny_bind (wpAny_of_eq (F.bm_newCall _) (wpAny_pure ⟨plainId_quiet F.bm_plain _, codeAny_builtin F.bm_entry ?_⟩))
  rw [Around.under_plainId F.bm_plain _]
  unfold Builtin.«bytes.__new__»
  refine wpAny_bind (wpAny_of_eq (a := true) rfl ?_)
  refine bm_if_false rfl ?_
  refine wpAny_bind (wpAny_of_eq F.bm_sub ?_)
  refine bm_if_false rfl ?_
  refine wpAny_bind (wpAny_of_eq (F.bm_bind _) ?_)
  refine wpAny_bind (wpAny_of_eq (a := ()) rfl ?_)
  refine wpAny_bind (wpAny_of_eq (a := ()) rfl ?_)
  refine bm_if_false rfl ?_
  refine wpAny_bind (wpAny_specialOf hT ba_bytes ?_)
  refine wpAny_bind (wpAny_bind ?_)
  show wpAny _ _ (load a >>= _) _ _ _
  refine wpAny_bind (wpAny_load ho ?_)
  rw [hd]
  refine wpAny_pure (wpAny_pure ?_)
  refine bm_if_false rfl ?_
  refine wpAny_bind (wpAny_specialOf hT ba_index ?_)
  refine bm_if_true rfl ?_
  show wpAny _ _ (Builtin.Bytes.buffer? "bytes.__new__" (.ref a) true >>= _) _ _ _
  refine wpAny_bind (buffer_ba ho hc hd ?_)
  refine wpAny_bind (wpAny_rule (wpAny_bind (wpAny_mkBytes ?_ hz)))
  show wpAny _ _ (if (Value.type "bytes" == Value.type "bytes") = true then _ else _) _ _ _
  refine bm_if_true (by decide) ?_
  first
    | exact wpAny_pure (hQ _ _)
    | exact wpAny_bind (wpAny_pure (wpAny_pure (hQ _ _)))
theorem bytes_ba (c : CxOK X) (R : Rep W X st s) {a : Ad} {bs : List UInt8} (ha : st.mh a = some (.barr bs)) {Qr : Value → Shared → Prop} {Er} (hQ : ∀ rv s', Nxt W X st s st s' → VRep st.mh s'.heap (.bytes bs) rv → Qr rv s') :
    wpAny (M W) X.A (call (.type "bytes") [.ref a]) Qr Er s := by
  obtain ⟨⟨o, ho, hc, hd, hsl, hdat, hlim⟩, _⟩ := R.objs a _ ha
  refine callType_codes (Q₁ := fun obj s₁ => s₁.TypeIs obj "bytes" ∧ Qr obj s₁) F.bm_called (F.bm_typeCall _) F.entry_object_init
    (bytes_ba_new ho hc hdat (by rw [List.size_toArray, sizeLine_eq]; unfold LIM at hlim; lia) fun t k => ⟨PySem.W.typeIs_bytes _ _ _, hQ _ _ (R.tk k) (.bytes _ _ hlim)⟩) fun obj s₁ h₁ => ?_
  exact ⟨h₁.1, F.args_object_init_2 obj _, object_init_meets F.bm_called.init.lookup F.bm_called.made (by decide) W.prog W.w X.A.in1 _ s₁ ⟨h₁.1, rfl, h₁.2⟩⟩
theorem ints_are {mh : MH} {h : Heap} : ∀ {bs : List UInt8} {items : List Value}, VReps mh h (bs.map fun b => V.int (b.toNat : Int)) items → IntsAre items (bs.map fun b => (b.toNat : Int))
  | [], [], _ => .nil
  | [], _ :: _, r => by cases r.1
  | _ :: _, [], r => by cases r.1
  | b :: bs, x :: items, r => by
    have h1 := r.2 0 _ x rfl rfl
    have ih := ints_are (bs := bs) (items := items) ⟨Nat.succ.inj r.1, fun i v y e1 e2 => r.2 (i + 1) v y e1 e2⟩
    cases h1
    exact .cons _ _ ih
theorem byteArr_back (bs : List UInt8) : byteArr (bs.map fun b => (b.toNat : Int)) = bs.toArray := by
  unfold byteArr
  congr 1
  rw [List.map_map]
  conv => rhs; rw [← List.map_id bs]
  apply List.map_congr_left
  intro b _
  show ((b.toNat : Int).toNat).toUInt8 = b
  simp
theorem bytes_list (c : CxOK X) (R : Rep W X st s) {a : Ad} {bs : List UInt8} (ha : st.mh a = some (.list (bs.map fun b => V.int (b.toNat : Int)))) {Qr : Value → Shared → Prop} {Er} (hQ : ∀ rv s', Nxt W X st s st s' → VRep st.mh s'.heap (.bytes bs) rv → Qr rv s') :
    wpAny (M W) X.A (call (.type "bytes") [.ref a]) Qr Er s := by
  obtain ⟨⟨o, items, m, ho, hc, hd, hsl, hdat, hr, hlim⟩, _⟩ := R.objs a _ ha
  have hl := hr.1
  rw [List.length_map] at hl hlim
  refine call_bytes_ints ⟨o, ho, hc, m, hdat⟩ (ints_are hr) (fun n hn => ?_) (by rw [sizeLine_eq]; unfold LIM at hlim; lia) c.handled fun h' t k hk => ?_
  · obtain ⟨b, _, rfl⟩ := List.mem_map.mp hn
    have := b.toNat_lt
    lia
  · rw [byteArr_back]
    exact hQ _ _ (R.grow hk rfl rfl) (.bytes _ _ hlim)
theorem init_fine (a : Args) : holdsB (.builtin "bytearray.__init__" a) = false := by
  show heldIds.contains "bytearray.__init__" = false
  decide +kernel
theorem ba_new {A : Around} {Q : Value → Shared → Prop} {E} (h : Q (.ref s.heap.objs.size) { s with heap := s.heap.push { cls := .type "bytearray", data := .bytearray #[] } }) :
    codeAny (M W) A (.call (.builtin "bytearray.__new__") ⟨[.type "bytearray"], []⟩) (wants Q E) s := by
  refine codeAny_of_tree ?_
  show wpAny _ A.in1 (do checkBuiltinCall "bytearray.__new__" ⟨[.type "bytearray"], []⟩; again (.builtin "bytearray.__new__" ⟨[.type "bytearray"], []⟩)) _ _ s
  refine wpAny_bind (wpAny_of_eq ba_newCall (wpAny_pure ⟨plainId_quiet ba_plain_new _, codeAny_builtin_stack ba_entry_new rfl fun p st => ?_⟩))
  rw [Around.under_plainId ba_plain_new _]
  have hsub := ba_sub
  have hown := ba_owner_new
  obtain ⟨hp, g, d, tk, os⟩ := s
  simp only [hown]
  wp_walk
  exact h
theorem wpF_if0 {α : Type} {M : Model} {A : Around} {c : Prop} [Decidable c] {t e : Sem α} {Q E s} (hc : ¬ c) (h : wpF M A e Q E s) : wpF M A (if c then t else e) Q E s := by rw [if_neg hc]; exact h
theorem ba_init {A : Around} {a : Addr} {Q : Shared → Prop} {E} (ho : s.heap.get? a = some { cls := .type "bytearray", data := .bytearray #[] }) (h : ∀ h', (∀ b o, s.heap.get? b = some o → h'.get? b = some o) → Q { s with heap := h' }) :
    wpF (M W) A (Builtin.«bytearray.__init__» ⟨[.ref a], []⟩) (fun fin s' => fin = .done (.ret .none) ∧ Q s') E s := by
  have hT : s.TypeIs (.ref a) "bytearray" := ⟨_, ho, rfl⟩
  unfold Builtin.«bytearray.__init__»
  refine wpF_bind (wpF_any ?_)
  unfold Builtin.Bytes.ownRelease
  refine wpAny_bind (own_ba hT ba_release (by decide +kernel) (by decide +kernel) (wpAny_pure ?_))
  dsimp only
  refine wpF_if0 (by decide) ?_
  refine wpF_bind (wpF_pure (a := [none, none, none]) ?_)
  refine wpF_bind (wpF_pure (a := ()) ?_)
  refine wpF_bind (wpF_pure (a := ()) ?_)
  refine wpF_then (P := fun b s' => b = false ∧ s' = s) ?_ fun b s' e => ?_
  · unfold orM
    refine wpF_bind (wpF_exported ?_)
    dsimp only [toBool]
    exact wpF_any (wpAny_bind (wpAny_bind (wpAny_load ho (wpAny_pure (wpAny_pure ⟨rfl, rfl⟩)))))
  obtain ⟨rfl, rfl⟩ := e
  refine wpF_if0 Bool.false_ne_true ?_
  refine wpF_bind (wpF_any (barr_update ho rfl (Nat.zero_le _) ?_))
  have hup : ∀ b o, s'.heap.get? b = some o → (s'.heap.update a (Obj.mapBytearray fun u_ => #[])).get? b = some o := fun b o e => by
    by_cases q : b = a
    · subst q
      rw [ho] at e; cases e
      exact Heap.get?_update_self (Obj.mapBytearray fun u_ => #[]) ho rfl
    · exact (Heap.get?_update_other _ _ (Ne.symm q)).trans e
  exact wpF_bind (wpF_pure (wpF_pure ⟨rfl, h _ hup⟩))
theorem bytearray0 (c : CxOK X) (R : Rep W X st s) {Qr : Value → Shared → Prop} {Er} (hQ : ∀ a s', st.mh a = none → Nxt W X st s { st with mh := st.mh.set a (.barr []) } s' → Qr (.ref a) s') :
    wpF (M W) X.A (call (.type "bytearray") []) Qr Er s := by
  have ft := ba_called
  obtain ⟨cc, tl, hmro⟩ := ft.mro
  have N := R.new (tk := s.toks) (o := { cls := .type "bytearray", data := .bytearray #[] }) (mo := .barr []) c rfl ⟨_, Heap.get?_push_size _ rfl, rfl, rfl, rfl, rfl, Nat.zero_le _⟩
  refine wpF_call (codeF_tree rfl ?_)
  show wpF _ _ (callAny (.type "bytearray") _) _ _ _
  refine wpF_pure ⟨Code.quiet_builtin _ (by decide +kernel), codeF_builtin (typeCall_fine _) PySem.F.entry_type_call ?_⟩
  rw [Around.under_plain (weight_type_call_type "bytearray" [] []) rfl]
  unfold Builtin.«type.__call__»
  have h1 := ft.notType
  have h2 := ft.canCreate
  have hm := ft.made
  dsimp only
  rw [h1, if_neg Bool.false_ne_true, h2, if_neg Bool.false_ne_true]
  refine wpF_bind (wpF_eq ba_typeCall (wpF_pure ?_))
  refine wpF_bind (wpF_eq hmro (wpF_pure ?_))
  rw [show (cc :: tl).isEmpty = false from rfl, if_neg Bool.false_ne_true]
  refine wpF_bind (wpF_eq hm (wpF_pure ?_))
  refine wpF_bind (wpF_pure (wpF_then (P := fun v s' => v = .ref s.heap.objs.size ∧ s' = { s with heap := s.heap.push { cls := .type "bytearray", data := .bytearray #[] } }) (wpF_holding (wpF_any (wpAny_call (codeAny_mono (ba_new (E := fun u_ u_ => False) (Q := fun v s' => v = .ref s.heap.objs.size ∧ s' = { s with heap := s.heap.push { cls := .type "bytearray", data := .bytearray #[] } }) ⟨rfl, rfl⟩) fun r s' hr => ?_)))) fun v s' e => ?_))
  · rcases r with e | (_ | _ | _ | v) <;> first | exact hr.elim | exact hr
  obtain ⟨rfl, rfl⟩ := e
  have hx : (s.heap.push { cls := .type "bytearray", data := .bytearray #[] }).get? s.heap.objs.size = some { cls := .type "bytearray", data := .bytearray #[] } := Heap.get?_push_size _ rfl
  have hT : ({ s with heap := s.heap.push { cls := .type "bytearray", data := .bytearray #[] } } : Shared).TypeIs (.ref s.heap.objs.size) "bytearray" := ⟨_, hx, rfl⟩
  refine wpF_bind (wpF_any (wpAny_isInstance hT ba_sub ?_))
  rw [show (!true) = false from rfl, if_neg Bool.false_ne_true]
  refine wpF_then (P := fun v s' => v = some .none ∧ Qr (.ref s.heap.objs.size) s') (wpF_holding ?_) fun v s' e => ?_
  · unfold callSpecial?
    refine wpF_bind (wpF_any (wpAny_specialOf hT ft.init.lookup ?_))
    dsimp only
    refine wpF_holding (wpF_bind (wpF_eq (ft.init.bind _) (wpF_pure ?_)))
    refine wpF_then (P := fun v s' => v = .none ∧ Qr (.ref s.heap.objs.size) s') (wpF_call (codeF_callBuiltin (plainId_quiet ft.init.plain _) (ft.init.check _ _ _ _ _ _ _ _ hT (ba_args_init _) rfl) (codeF_builtin (init_fine _) ba_entry_init ?_))) fun v s' e => by obtain ⟨rfl, q⟩ := e; exact wpF_pure ⟨rfl, q⟩
    refine wpF_mono (ba_init (E := fun u_ u_ => False) (Q := fun s' => Qr (.ref s.heap.objs.size) s') hx fun h' hk => ?_) (fun fin s' e => by obtain ⟨rfl, q⟩ := e; exact ⟨rfl, q⟩) fun u_ u_ x => x.elim
    exact hQ _ _ (mh_none R (dead_size s)) (N.trans (N.rep.grow hk rfl rfl))
  · obtain ⟨rfl, q⟩ := e
    exact wpF_pure q
theorem bytes_bytes_isi {A : Around} {b : Array UInt8} {t : Tok} {Q : Value → Shared → Prop} {E} (h : Q (.bool true) s) : wpAny (M W) A (call (.builtin "isinstance") [.bytes b t, .type "bytes"]) Q E s :=
  call_isinstance (isinstance_true (Tx := "bytes") F.isi_meta_bytes F.sub_bytes_bytes) ⟨rfl, h⟩
theorem abs_nat (i : Int) : (if i < 0 then -i else i) = (i.natAbs : Int) := by split <;> lia
theorem isInst_inv (v : V) (t : B) : isInst v t = none ∨ (∃ i, v = .int i ∧ t = .int ∧ isInst v t = some true) ∨ (∃ i, v = .int i ∧ t = .bool ∧ isInst v t = some false) ∨ (∃ i, v = .int i ∧ t = .bytes ∧ isInst v t = some false) ∨ ∃ i, v = .bytes i ∧ t = .bytes ∧ isInst v t = some true := by
  cases v <;> first | exact .inl rfl | skip
  · cases t <;> first | exact .inl rfl | skip
    · exact .inr (.inr (.inr (.inl ⟨_, rfl, rfl, rfl⟩)))
    · exact .inr (.inl ⟨_, rfl, rfl, rfl⟩)
    · exact .inr (.inr (.inl ⟨_, rfl, rfl, rfl⟩))
  · cases t <;> first | exact .inl rfl | skip
    exact .inr (.inr (.inr (.inr ⟨_, rfl, rfl, rfl⟩)))
theorem bcall_ok (w : WOK W) (c : CxOK X) (R : Rep W X st s) {b : B} {vs : List V} {rs : List Value} (hv : VReps st.mh s.heap vs rs) {Q : V → MH → Prop} (e0 : bcall (Ot W n) b vs st.mh Q)
    {Qr : Value → Shared → Prop} {Er} (hQ : ∀ v mh rv s', Q v mh → Nxt W X st s { st with mh := mh } s' → VRep mh s'.heap v rv → Qr rv s') : wpF (M W) X.A (call (bVal b) rs) Qr Er s := by
  cases b with
  | len =>
    obtain ⟨v, rfl, e1⟩ := arg1 e0
    obtain ⟨x, rfl, r⟩ := vreps_one hv
    obtain ⟨k, hk, e2⟩ := optP_inv e1
    exact wpF_any (len_ok w c R r hk fun rv s' N r' => hQ _ _ _ _ e2 N r')
  | bytes =>
    obtain ⟨v, rfl, e1⟩ := arg1 e0
    obtain ⟨x, rfl, r⟩ := vreps_one hv
    cases v with
    | ref a =>
      obtain rfl := r.i_ref
      obtain ⟨m, ha, e2⟩ := optP_inv (o := st.mh a) (f := byF Q st.mh) e1
      cases m with
      | barr bs => exact wpF_any (bytes_ba c R ha fun rv s' N r' => hQ _ _ _ _ e2 N r')
      | list us =>
        obtain ⟨bs, rfl, e3⟩ := e2
        exact wpF_any (bytes_list c R ha fun rv s' N r' => hQ _ _ _ _ e3 N r')
      | _ => exact False.elim e2
    | _ => exact False.elim e1
  | bytearray =>
    cases vs with
    | nil =>
      rw [vreps_none hv]
      exact bytearray0 c R fun a s' ha N => hQ _ _ _ _ (e0 a ha) N (.ref a)
    | cons v vs => exact False.elim e0
  | abs =>
    obtain ⟨v, rfl, e1⟩ := arg1 e0
    obtain ⟨x, rfl, r⟩ := vreps_one hv
    obtain ⟨i, hi, e2⟩ := optP_inv (o := vInt v) (f := fun i => Q (.int i.natAbs) st.mh) e1
    obtain rfl := vInt_inv hi
    obtain ⟨_, rfl⟩ := r.i_int
    exact wpF_any (PyProof.Rows.call_abs_int fun u tk => by rw [abs_nat]; exact hQ _ _ _ _ e2 (R.tk tk) (.int _ _))
  | int =>
    obtain ⟨v, rfl, e1⟩ := arg1 e0
    obtain ⟨x, rfl, r⟩ := vreps_one hv
    obtain ⟨i, hi, e2⟩ := optP_inv (o := vInt v) (f := fun i => Q (.int i) st.mh) e1
    obtain rfl := vInt_inv hi
    obtain ⟨_, rfl⟩ := r.i_int
    exact wpF_any (call_int_int (hQ _ _ _ _ e2 (.refl R) (.int _ _)))
  | isinstance =>
    obtain ⟨v, u, rfl, e1⟩ := arg2 e0
    obtain ⟨t, ht, e2⟩ := optP_inv (o := vBt u) (f := fun t => optP (isInst v t) fun r => Q (.bool r) st.mh) e1
    obtain rfl := vBt_inv ht
    obtain ⟨x, y, rfl, r1, r2⟩ := vreps_two hv
    obtain rfl := r2.i_bt
    obtain ⟨b, hb, e3⟩ := optP_inv e2
    rcases isInst_inv v t with hr | ⟨i, rfl, rfl, hr⟩ | ⟨i, rfl, rfl, hr⟩ | ⟨i, rfl, rfl, hr⟩ | ⟨i, rfl, rfl, hr⟩ <;> (rw [hr] at hb; cases hb)
    · obtain ⟨_, rfl⟩ := r1.i_int
      exact wpF_any (IsiPair.int_int (hQ _ _ _ _ e3 (.refl R) (.bool _)))
    · obtain ⟨_, rfl⟩ := r1.i_int
      exact wpF_any (IsiPair.int_bool (hQ _ _ _ _ e3 (R.tk _) (.bool _)))
    · obtain ⟨_, rfl⟩ := r1.i_int
      exact wpF_any (IsiPair.int_bytes (hQ _ _ _ _ e3 (R.tk _) (.bool _)))
    · obtain ⟨_, rfl, _⟩ := r1.i_bytes
      exact wpF_any (bytes_bytes_isi (hQ _ _ _ _ e3 (.refl R) (.bool _)))
  | _ => exact False.elim e0
theorem mrun_ok (w : WOK W) (c : CxOK X) (hn : n ≤ X.n) (R : Rep W X st s) {o : V} {ro : Value} {k : MK} {vs : List V} {rs : List Value} (ho : VRep st.mh s.heap o ro) (hv : VReps st.mh s.heap vs rs)
    {Q : V → MH → Prop} {Xc : MH → Prop} (e0 : mrun (Ot W n) k o vs st.mh Q Xc) {rf : Value} (hk : rf = mkV k)
    {Qr : Value → Shared → Prop} {Er} (hQ : ∀ v mh rv s', Q v mh → Nxt W X st s { st with mh := mh } s' → VRep mh s'.heap v rv → Qr rv s')
    (hE : ∀ mh e s', Xc mh → Nxt W X st s { st with mh := mh } s' → Exc X e s.heap mh s'.heap → Er (.ref e) s') : wpF (M W) X.A (call rf (ro :: rs)) Qr Er s := by
  subst hk
  cases k with
  | own f => exact e0 X _ s _ c hn R (vreps_cons ho hv) _ _ (fun v mh' rv s' q N r => hQ _ _ _ _ q N r) fun mh' e s' x N x' => hE _ _ _ x N (.inr (.inl x'))
  | lAppend =>
    obtain ⟨a, ha, e1⟩ := optP_inv (o := vRef o) e0
    obtain rfl := vRef_inv ha
    obtain ⟨u, rfl, e2⟩ := arg1 e1
    obtain ⟨x, rfl, r⟩ := vreps_one hv
    obtain rfl := ho.i_ref
    obtain ⟨us, ha, e3⟩ := optP_inv e2
    exact wpF_any (lappend_ok c R (moList_inv ha) r e3.1 fun s' N => hQ _ _ _ _ e3.2 N .none)
  | lReverse =>
    obtain ⟨a, ha, e1⟩ := optP_inv (o := vRef o) e0
    obtain rfl := vRef_inv ha
    obtain ⟨rfl, e2⟩ := arg0 e1
    rw [vreps_none hv]
    obtain rfl := ho.i_ref
    obtain ⟨us, ha, e3⟩ := optP_inv e2
    exact wpF_any (lreverse_ok c R (moList_inv ha) fun s' N => hQ _ _ _ _ e3 N .none)
  | bAppend =>
    obtain ⟨a, ha, e1⟩ := optP_inv (o := vRef o) e0
    obtain rfl := vRef_inv ha
    obtain ⟨u, rfl, e2⟩ := arg1 e1
    obtain ⟨x, rfl, r⟩ := vreps_one hv
    obtain rfl := ho.i_ref
    obtain ⟨i, hi, e3⟩ := optP_inv e2
    obtain rfl := vInt_inv hi
    obtain ⟨_, rfl⟩ := r.i_int
    obtain ⟨us, ha, e4⟩ := optP_inv e3
    exact barr_append_ok c R (moBarr_inv ha) e4.1 e4.2.1 e4.2.2.1 fun s' N => hQ _ _ _ _ e4.2.2.2 N .none
  | dGet =>
    obtain ⟨a, ha, e1⟩ := optP_inv (o := vRef o) e0
    obtain rfl := vRef_inv ha
    obtain ⟨u, rfl, e2⟩ := arg1 e1
    obtain ⟨x, rfl, r⟩ := vreps_one hv
    obtain rfl := ho.i_ref
    obtain ⟨i, hi, e3⟩ := optP_inv e2
    obtain rfl := vByt_inv hi
    obtain ⟨_, rfl, _⟩ := r.i_bytes
    obtain ⟨us, ha, e4⟩ := optP_inv e3
    exact wpF_any (dget_ok w c R (moDict_inv ha) fun rv s' N r' => hQ _ _ _ _ e4 N r')
  | bFind =>
    obtain ⟨b, hb, e1⟩ := optP_inv (o := vByt o) e0
    obtain rfl := vByt_inv hb
    obtain ⟨u, rfl, e2⟩ := arg1 e1
    obtain ⟨x, rfl, r⟩ := vreps_one hv
    obtain ⟨_, rfl, _⟩ := ho.i_bytes
    obtain ⟨i, hi, e3⟩ := optP_inv e2
    obtain rfl := vByt_inv hi
    obtain ⟨_, rfl, _⟩ := r.i_bytes
    obtain ⟨y, rfl, e4⟩ := arg1 e3
    exact wpF_any (bfind_ok R fun rv s' N r' => hQ _ _ _ _ e4 N r')
end
end Lx
namespace Lx
open PySem PySem.W PySem.Calls PyProof.Rows PySem.Spec
open PySem.SeqAt (EqAt RcAt RcNeAt)
theorem eqL_spec {f : V → V → Option Bool} : ∀ {xs ys : List V} {t : Bool}, eqL f xs ys = some t → xs.length = ys.length ∧ ∃ e : Nat → Bool, (∀ j x y, xs[j]? = some x → ys[j]? = some y → f x y = some (e j)) ∧ t = (List.range xs.length).all e := by
  intro xs
  induction xs with
  | nil =>
    intro ys t h
    cases ys with
    | nil => cases h; exact ⟨rfl, fun u_ => true, fun j x y hx => (by cases hx), rfl⟩
    | cons _ _ => cases h
  | cons x xs ih =>
    intro ys t h
    cases ys with
    | nil => cases h
    | cons y ys =>
      obtain ⟨a, ha, h⟩ := Option.bind_eq_some_iff.mp h
      obtain ⟨b, hb, rfl⟩ := Option.map_eq_some_iff.mp h
      obtain ⟨hl, e, he, rfl⟩ := ih hb
      refine ⟨congrArg Nat.succ hl, fun j => Nat.casesOn j a e, fun j u v hu hv => ?_, ?_⟩
      · cases j with
        | zero => cases hu; cases hv; exact ha
        | succ j => exact he j u v hu hv
      · rw [List.length_cons, List.range_succ_eq_map, List.all_cons, List.all_map]
        rfl
theorem eq0_refl {v : V} {t : Bool} (h : eq0 v v = some t) : t = true := by
  rcases eq0_inv h with ⟨_, _, h⟩ | ⟨a, b, rfl, h2, rfl⟩ | ⟨a, b, rfl, h2, rfl⟩ | ⟨a, b, rfl, h2, rfl⟩
  · exact h
  · cases h2; exact beq_self_eq_true _
  · cases h2; exact beq_self_eq_true _
  · cases h2; exact beq_self_eq_true _
theorem eqL_refl {f : V → V → Option Bool} (hf : ∀ v t, f v v = some t → t = true) {xs : List V} {t : Bool} (h : eqL f xs xs = some t) : t = true := by
  obtain ⟨_, e, he, rfl⟩ := eqL_spec h
  rw [List.all_eq_true]
  intro j hj
  have hj := List.mem_range.mp hj
  exact hf _ _ (he j _ _ (List.getElem?_eq_getElem hj) (List.getElem?_eq_getElem hj))
theorem eq1_refl {v : V} {t : Bool} (h : eq1 v v = some t) : t = true := by
  rcases eq1_inv h with ⟨xs, ys, rfl, q, e⟩ | e
  · cases q; exact eqL_refl (fun u_ u_ => eq0_refl) e
  · exact eq0_refl e
theorem eqLs_refl {f : V → V → Option Bool} (hf : ∀ v t, f v v = some t → t = true) {xs : List V} {t : Bool} (h : eqLs f xs xs = some t) : t = true := by
  unfold eqLs at h
  rw [if_pos rfl] at h
  exact eqL_refl hf h
section
variable {W : Wd} {X : Cx} {st : St} {s : Shared} {n : Nat}
theorem EqAt.bytes (A : Around) (s : Shared) (b c : List UInt8) (t u : Tok) : EqAt A s (.bytes b.toArray t) (.bytes c.toArray u) (b == c) := fun prog w E Q h => by
  refine eqBool_bytes ?_
  have : decide (b.toArray.toList = c.toArray.toList) = (b == c) := by rw [Bool.eq_iff_iff]; simp
  rw [this]; exact h
theorem eqAt0 {mh : MH} {h : Heap} {A : Around} {s : Shared} {v u : V} {rv ru : Value} {t : Bool} (a : VRep mh h v rv) (b : VRep mh h u ru) (e : eq0 v u = some t) : EqAt A s rv ru t := by
  rcases eq0_inv e with ⟨rfl, rfl, rfl⟩ | ⟨x, y, rfl, rfl, rfl⟩ | ⟨x, y, rfl, rfl, rfl⟩ | ⟨x, y, rfl, rfl, rfl⟩
  · rw [a.i_none, b.i_none]; exact SeqAt.EqAt.same _
  · rw [a.i_bool, b.i_bool]; exact SeqAt.EqAt.bool_bool _ _
  · obtain ⟨_, h1⟩ := a.i_int
    obtain ⟨_, h2⟩ := b.i_int
    rw [h1, h2]; exact SeqAt.EqAt.int_int _ _ _ _
  · obtain ⟨_, h1, _⟩ := a.i_bytes
    obtain ⟨_, h2, _⟩ := b.i_bytes
    rw [h1, h2]; exact EqAt.bytes A s _ _ _ _
theorem same0 {mh : MH} {h : Heap} {v u : V} {r : Value} {t : Bool} (a : VRep mh h v r) (b : VRep mh h u r) (e : eq0 v u = some t) : t = true := by
  rcases eq0_inv e with ⟨rfl, rfl, rfl⟩ | ⟨x, y, rfl, rfl, rfl⟩ | ⟨x, y, rfl, rfl, rfl⟩ | ⟨x, y, rfl, rfl, rfl⟩
  · rfl
  · have h1 := a.i_bool.symm.trans b.i_bool
    injection h1 with h1
    rw [h1]; exact beq_self_eq_true _
  · obtain ⟨_, h1⟩ := a.i_int
    obtain ⟨_, h2⟩ := b.i_int
    have h1 := h1.symm.trans h2
    injection h1 with h1 _
    rw [h1]; exact beq_self_eq_true _
  · obtain ⟨_, h1, _⟩ := a.i_bytes
    obtain ⟨_, h2, _⟩ := b.i_bytes
    have h1 := h1.symm.trans h2
    injection h1 with h1 _
    have h1 : x = y := congrArg Array.toList h1
    rw [h1]; exact beq_self_eq_true _
theorem tup_parts {mh : MH} {h : Heap} {vs : List V} {a : Addr} (r : VRep mh h (.tup vs) (.ref a)) : ∃ items o n, h.get? a = some o ∧ o.cls = .type "tuple" ∧ o.data = .seq (List.toArray items) n ∧ VReps mh h vs items := by
  cases r with
  | tup a vs items o n hm ha hc hd hl hlim hi => exact ⟨items, o, n, ha, hc, hd, hl, hi⟩
theorem eqAt_tup {s : Shared} {mh : MH} {A : Around} {f : V → V → Option Bool} {xs ys : List V} {ra rb : Value} {t : Bool} (hu : A.units < cLine)
    (hf : ∀ v u rv ru t, VRep mh s.heap v rv → VRep mh s.heap u ru → f v u = some t → EqAt A.in1 s rv ru t) (hs : ∀ v u r t, VRep mh s.heap v r → VRep mh s.heap u r → f v u = some t → t = true)
    (a : VRep mh s.heap (.tup xs) ra) (b : VRep mh s.heap (.tup ys) rb) (e : eqL f xs ys = some t) : (ra = rb ∧ t = true) ∨ ∃ x y, ra = .ref x ∧ rb = .ref y ∧ x ≠ y ∧ RcAt A s (.ref x) (.ref y) t ∧ RcNeAt A s (.ref x) (.ref y) (!t) := by
  obtain ⟨hl, ev, he, rfl⟩ := eqL_spec e
  obtain ⟨x, rfl⟩ := a.i_tup
  obtain ⟨y, rfl⟩ := b.i_tup
  obtain ⟨i1, o1, n1, h1, c1, d1, r1⟩ := tup_parts a
  obtain ⟨i2, o2, n2, h2, c2, d2, r2⟩ := tup_parts b
  have l1 := r1.1
  have l2 := r2.1
  by_cases q : x = y
  · subst q
    rw [h1] at h2; cases h2
    rw [d1] at d2
    have : i1 = i2 := by injection d2 with d2 _; simpa using d2
    subst this
    refine .inl ⟨rfl, ?_⟩
    rw [List.all_eq_true]
    intro j hj
    have hj := List.mem_range.mp hj
    have g1 : xs[j]? = some xs[j] := List.getElem?_eq_getElem hj
    have g2 : ys[j]? = some (ys[j]'(hl ▸ hj)) := List.getElem?_eq_getElem (hl ▸ hj)
    have g3 : i1[j]? = some (i1[j]'(l1 ▸ hj)) := List.getElem?_eq_getElem (l1 ▸ hj)
    exact hs _ _ _ _ (r1.2 j _ _ g1 g3) (r2.2 j _ _ g2 g3) (he j _ _ g1 g2)
  · have key : ∀ j (h1 : j < i1.toArray.size) (h2 : j < i2.toArray.size), EqAt A.in1 s i1.toArray[j] i2.toArray[j] (ev j) := fun j k1 k2 => by
      have k1' : j < i1.length := by simpa using k1
      have k2' : j < i2.length := by simpa using k2
      have g1 : xs[j]? = some (xs[j]'(l1 ▸ k1')) := List.getElem?_eq_getElem _
      have g2 : ys[j]? = some (ys[j]'(l2 ▸ k2')) := List.getElem?_eq_getElem _
      exact hf _ _ _ _ _ (r1.2 j _ _ g1 (List.getElem?_eq_getElem k1')) (r2.2 j _ _ g2 (List.getElem?_eq_getElem k2')) (he j _ _ g1 g2)
    have fin : ((List.range (min i1.toArray.size i2.toArray.size)).all ev && i1.toArray.size == i2.toArray.size) = (List.range xs.length).all ev := by
      have e1 : i1.toArray.size = xs.length := by simp [l1]
      have e2 : i2.toArray.size = xs.length := by simp [l2, hl]
      rw [e1, e2]; simp
    refine .inr ⟨x, y, rfl, rfl, q, ?_, ?_⟩
    · rw [← fin]; exact SeqAt.RcAt.tuples ⟨o1, h1, c1, n1, d1⟩ ⟨o2, h2, c2, n2, d2⟩ hu key
    · rw [← fin]; exact SeqAt.RcNeAt.tuples ⟨o1, h1, c1, n1, d1⟩ ⟨o2, h2, c2, n2, d2⟩ hu key
theorem eqAt1 {mh : MH} {s : Shared} {A : Around} {v u : V} {rv ru : Value} {t : Bool} (hu : A.units < cLine) (a : VRep mh s.heap v rv) (b : VRep mh s.heap u ru) (e : eq1 v u = some t) : EqAt A s rv ru t := by
  rcases eq1_inv e with hv | this
  · obtain ⟨xs, ys, rfl, rfl, e⟩ := hv
    rcases eqAt_tup hu (fun u_ u_ u_ u_ u_ => eqAt0) (fun u_ u_ u_ u_ => same0) a b e with ⟨rfl, rfl⟩ | ⟨x, y, rfl, rfl, q, r, _⟩
    · exact SeqAt.EqAt.same _
    · exact SeqAt.EqAt.of_refs q r
  · exact eqAt0 a b this
theorem same1 {mh : MH} {h : Heap} {v u : V} {r : Value} {t : Bool} (a : VRep mh h v r) (b : VRep mh h u r) (e : eq1 v u = some t) : t = true := by
  rcases eq1_inv e with hv | this
  · obtain ⟨xs, ys, rfl, rfl, e⟩ := hv
    obtain ⟨hl, ev, he, rfl⟩ := eqL_spec e
    obtain ⟨x, rfl⟩ := a.i_tup
    obtain ⟨i1, o1, n1, h1, c1, d1, r1⟩ := tup_parts a
    obtain ⟨i2, o2, n2, h2, c2, d2, r2⟩ := tup_parts b
    have l1 := r1.1
    rw [h1] at h2; cases h2
    rw [d1] at d2
    have : i1 = i2 := by injection d2 with d2 _; simpa using d2
    subst this
    rw [List.all_eq_true]
    intro j hj
    have hj := List.mem_range.mp hj
    have g1 : xs[j]? = some xs[j] := List.getElem?_eq_getElem hj
    have g2 : ys[j]? = some (ys[j]'(hl ▸ hj)) := List.getElem?_eq_getElem (hl ▸ hj)
    have g3 : i1[j]? = some (i1[j]'(l1 ▸ hj)) := List.getElem?_eq_getElem (l1 ▸ hj)
    exact same0 (r1.2 j _ _ g1 g3) (r2.2 j _ _ g2 g3) (he j _ _ g1 g2)
  · exact same0 a b this
theorem eqAt_list (R : Rep W X st s) {A : Around} {x y : Ad} {t : Bool} (hu : A.units + 1 < cLine) (e : eq2 st.mh (.ref x) (.ref y) = some t) : (x = y ∧ t = true) ∨ (x ≠ y ∧ RcAt A s (.ref x) (.ref y) t ∧ RcNeAt A s (.ref x) (.ref y) (!t)) := by
  obtain ⟨xs, ys, hx, hy, e⟩ := eq2_ref e
  · by_cases q : x = y
    · subst q
      rw [hx] at hy; cases hy
      exact .inl ⟨rfl, eqLs_refl (fun u_ u_ => eq1_refl) e⟩
    · refine .inr ⟨q, ?_⟩
      obtain ⟨⟨o1, i1, m1, ho1, hc1, _, _, hd1, r1, _⟩, _⟩ := R.objs x _ hx
      obtain ⟨⟨o2, i2, m2, ho2, hc2, _, _, hd2, r2, _⟩, _⟩ := R.objs y _ hy
      have l1 := r1.1
      have l2 := r2.1
      by_cases hl : xs.length = ys.length
      · have e : eqL eq1 xs ys = some t := (if_pos hl).symm.trans e
        obtain ⟨_, ev, he, rfl⟩ := eqL_spec e
        have key : ∀ j (h1 : j < i1.toArray.size) (h2 : j < i2.toArray.size), EqAt A.in1 s i1.toArray[j] i2.toArray[j] (ev j) := fun j k1 k2 => by
          have k1' : j < i1.length := by simpa using k1
          have k2' : j < i2.length := by simpa using k2
          have g1 : xs[j]? = some (xs[j]'(l1 ▸ k1')) := List.getElem?_eq_getElem _
          have g2 : ys[j]? = some (ys[j]'(l2 ▸ k2')) := List.getElem?_eq_getElem _
          exact eqAt1 hu (r1.2 j _ _ g1 (List.getElem?_eq_getElem k1')) (r2.2 j _ _ g2 (List.getElem?_eq_getElem k2')) (he j _ _ g1 g2)
        have hsz : i1.toArray.size = i2.toArray.size := by simp [l1, l2, hl]
        have fin : (List.range i1.toArray.size).all ev = (List.range xs.length).all ev := by simp [l1]
        refine ⟨?_, ?_⟩
        · rw [← fin]; exact SeqAt.RcAt.lists ⟨o1, ho1, hc1, m1, hd1⟩ ⟨o2, ho2, hc2, m2, hd2⟩ hsz (Nat.lt_of_succ_lt hu) key
        · rw [← fin]; exact SeqAt.RcNeAt.lists ⟨o1, ho1, hc1, m1, hd1⟩ ⟨o2, ho2, hc2, m2, hd2⟩ hsz (Nat.lt_of_succ_lt hu) key
      · have e : some false = some t := (if_neg hl).symm.trans e
        cases e
        have hsz : (i1.toArray.size != i2.toArray.size) = true := by simp [l1, l2, hl]
        exact ⟨SeqAt.RcAt.lists_lengths ⟨o1, ho1, hc1, m1, hd1⟩ ⟨o2, ho2, hc2, m2, hd2⟩ hsz (Nat.lt_of_succ_lt hu), SeqAt.RcNeAt.lists_lengths ⟨o1, ho1, hc1, m1, hd1⟩ ⟨o2, ho2, hc2, m2, hd2⟩ hsz (Nat.lt_of_succ_lt hu)⟩
theorem eqAt2 (R : Rep W X st s) {A : Around} {v u : V} {rv ru : Value} {t : Bool} (hu : A.units + 1 < cLine) (a : VRep st.mh s.heap v rv) (b : VRep st.mh s.heap u ru) (e : eq2 st.mh v u = some t) : EqAt A s rv ru t := by
  rcases eq2_inv e with hv | this
  · obtain ⟨x, y, xs, ys, rfl, rfl, h1, h2, e'⟩ := hv
    obtain rfl := a.i_ref
    obtain hb := b.i_ref
    cases hb
    rcases eqAt_list R hu e with ⟨rfl, rfl⟩ | ⟨q, r, _⟩
    · exact SeqAt.EqAt.same _
    · exact SeqAt.EqAt.of_refs q r
  · exact eqAt1 (Nat.lt_of_succ_lt hu) a b this
theorem same2 (R : Rep W X st s) {v u : V} {r : Value} {t : Bool} (a : VRep st.mh s.heap v r) (b : VRep st.mh s.heap u r) (e : eq2 st.mh v u = some t) : t = true := by
  rcases eq2_inv e with hv | this
  · obtain ⟨x, y, xs, ys, rfl, rfl, hx, hy, e⟩ := hv
    obtain rfl := a.i_ref
    obtain hb := b.i_ref
    cases hb
    rw [hx] at hy; cases hy
    exact eqLs_refl (fun u_ u_ => eq1_refl) e
  · exact same1 a b this
theorem ne_same_tup {A : Around} {x : Addr} {items : List Value} {o : Obj} {k : Nat} {prog : Program} {w : World} (ho : s.heap.get? x = some o) (hc : o.cls = .type "tuple") (hd : o.data = .seq items.toArray k) (hu : A.units < cLine) {op : CmpOp} {b : Bool} (hop : op = .Eq ∧ b = true ∨ op = .NotEq ∧ b = false)
    {Qr : Value → Shared → Prop} {Er} (hQ : Qr (.bool b) s) : wpAny (model prog w) A (richCompare op (.ref x) (.ref x)) Qr Er s := by
  have e1 : ((List.range (min items.toArray.size items.toArray.size)).all (fun u_ => true) && items.toArray.size == items.toArray.size) = true := by simp
  have key : ∀ j (h1 : j < items.toArray.size) (h2 : j < items.toArray.size), EqAt A.in1 s items.toArray[j] items.toArray[j] ((fun u_ => true) j) := fun j u_ u_ => SeqAt.EqAt.same _
  rcases hop with ⟨rfl, rfl⟩ | ⟨rfl, rfl⟩
  · have := SeqAt.RcAt.tuples (s := s) (A := A) ⟨o, ho, hc, k, hd⟩ ⟨o, ho, hc, k, hd⟩ hu key
    rw [e1] at this
    exact this prog w _ _ hQ
  · have := SeqAt.RcNeAt.tuples (s := s) (A := A) ⟨o, ho, hc, k, hd⟩ ⟨o, ho, hc, k, hd⟩ hu key
    rw [e1] at this
    exact this prog w _ _ hQ
theorem ne_same_list {A : Around} {x : Addr} {items : List Value} {o : Obj} {k : Nat} {prog : Program} {w : World} (ho : s.heap.get? x = some o) (hc : o.cls = .type "list") (hd : o.data = .seq items.toArray k) (hu : A.units < cLine) {op : CmpOp} {b : Bool} (hop : op = .Eq ∧ b = true ∨ op = .NotEq ∧ b = false)
    {Qr : Value → Shared → Prop} {Er} (hQ : Qr (.bool b) s) : wpAny (model prog w) A (richCompare op (.ref x) (.ref x)) Qr Er s := by
  have e1 : (List.range items.toArray.size).all (fun u_ => true) = true := by simp
  have key : ∀ j (h1 : j < items.toArray.size) (h2 : j < items.toArray.size), EqAt A.in1 s items.toArray[j] items.toArray[j] ((fun u_ => true) j) := fun j u_ u_ => SeqAt.EqAt.same _
  rcases hop with ⟨rfl, rfl⟩ | ⟨rfl, rfl⟩
  · have := SeqAt.RcAt.lists (s := s) (A := A) ⟨o, ho, hc, k, hd⟩ ⟨o, ho, hc, k, hd⟩ rfl hu key
    rw [e1] at this
    exact this prog w _ _ hQ
  · have := SeqAt.RcNeAt.lists (s := s) (A := A) ⟨o, ho, hc, k, hd⟩ ⟨o, ho, hc, k, hd⟩ rfl hu key
    rw [e1] at this
    exact this prog w _ _ hQ
theorem eq_ok (c : CxOK X) (R : Rep W X st s) {op : CmpOp} {a b : V} {t r : Bool} {ra rb : Value} (ha : VRep st.mh s.heap a ra) (hb : VRep st.mh s.heap b rb) (hs : sameTy a b = true) (e : eq3 st.mh a b = some t) (hop : op = .Eq ∧ r = t ∨ op = .NotEq ∧ r = !t)
    {Qr : Value → Shared → Prop} {Er} (hQ : ∀ s', Nxt W X st s st s' → Qr (.bool r) s') : wpAny (M W) X.A (compareOp op ra rb) Qr Er s := by
  have hu := c.units
  have hq := hQ _ (.refl R)
  have bad : ∀ t' : Bool, t' = true → (op = CmpOp.Eq ∧ r = t' ∨ op = CmpOp.NotEq ∧ r = !t') → (op = .Eq ∧ r = true ∨ op = .NotEq ∧ r = false) := fun t' h1 h2 => by subst h1; simpa using h2
  have rc : compareOp op ra rb = richCompare op ra rb := by rcases hop with ⟨rfl, _⟩ | ⟨rfl, _⟩ <;> rfl
  rcases sameTy_inv hs with ⟨x, y, rfl, rfl⟩ | ⟨x, y, rfl, rfl⟩ | ⟨xs, ys, rfl, rfl⟩ | ⟨x, y, rfl, rfl⟩
  · obtain ⟨_, rfl⟩ := ha.i_int
    obtain ⟨_, rfl⟩ := hb.i_int
    cases e
    rcases hop with ⟨rfl, rfl⟩ | ⟨rfl, rfl⟩
    · exact PyProof.Rows.eq_int hq
    · exact PyProof.Rows.ne_int hq
  · obtain ⟨_, rfl, _⟩ := ha.i_bytes
    obtain ⟨_, rfl, _⟩ := hb.i_bytes
    cases e
    rcases hop with ⟨rfl, rfl⟩ | ⟨rfl, rfl⟩
    · exact PySem.W.eq_bytes (by simpa using hq)
    · exact PySem.W.ne_bytes (by simpa [bne] using hq)
  · rw [rc]
    rcases eqAt_tup (A := X.A) (by lia) (fun u_ u_ u_ u_ u_ h1 h2 h3 => eqAt2 (A := X.A.in1) R (by show X.A.units + 1 + 1 < cLine; lia) h1 h2 h3) (fun u_ u_ u_ u_ => same2 R) ha hb e with ⟨rfl, ht⟩ | ⟨x, y, rfl, rfl, _, r1, r2⟩
    · obtain ⟨x, rfl⟩ := ha.i_tup
      obtain ⟨items, o, k, ho, hc, hd, _⟩ := tup_parts ha
      exact ne_same_tup ho hc hd (by lia) (bad _ ht hop) hq
    · rcases hop with ⟨rfl, rfl⟩ | ⟨rfl, rfl⟩
      · exact r1 _ _ _ _ hq
      · exact r2 _ _ _ _ hq
  · rw [rc]
    obtain rfl := ha.i_ref
    obtain rfl := hb.i_ref
    rcases eqAt_list (A := X.A) R (by lia) e with ⟨rfl, ht⟩ | ⟨_, r1, r2⟩
    · obtain ⟨xs, ys, hx, hy, e⟩ := eq2_ref e
      obtain ⟨⟨o, items, m, ho, hc, _, _, hd, _⟩, _⟩ := R.objs x _ hx
      exact ne_same_list ho hc hd (by lia) (bad _ ht hop) hq
    · rcases hop with ⟨rfl, rfl⟩ | ⟨rfl, rfl⟩
      · exact r1 _ _ _ _ hq
      · exact r2 _ _ _ _ hq
noncomputable def eV : V → Value → Bool
  | .none, .none => true
  | .bool a, .bool b => b == a
  | .int a, .int b _ => b == a
  | .bytes a, .bytes b _ => b.toList == a
  | _, _ => false
theorem eV_spec {mh : MH} {h : Heap} {v x : V} {y : Value} {b : Bool} (r : VRep mh h x y) (e : eq0 v x = some b) : eV v y = b ∧ eq0 x v = some b := by
  rcases eq0_inv e with ⟨rfl, rfl, rfl⟩ | ⟨i, j, rfl, rfl, rfl⟩ | ⟨i, j, rfl, rfl, rfl⟩ | ⟨i, j, rfl, rfl, rfl⟩
  · rw [r.i_none]; exact ⟨rfl, rfl⟩
  · rw [r.i_bool]
    have : (j == i) = (i == j) := by rw [Bool.eq_iff_iff, beq_iff_eq, beq_iff_eq]; exact eq_comm
    exact ⟨this, congrArg some this⟩
  · obtain ⟨_, h1⟩ := r.i_int
    rw [h1]
    have : (j == i) = (i == j) := by rw [Bool.eq_iff_iff, beq_iff_eq, beq_iff_eq]; exact eq_comm
    exact ⟨this, congrArg some this⟩
  · obtain ⟨_, h1, _⟩ := r.i_bytes
    rw [h1]
    have : (j == i) = (i == j) := by rw [Bool.eq_iff_iff, beq_iff_eq, beq_iff_eq]; exact eq_comm
    exact ⟨this, congrArg some this⟩
theorem inT_spec {v : V} {xs : List V} : ∀ {t : Bool}, inT v xs = some t → (∀ x ∈ xs, ∃ b, eq0 v x = some b) ∧ ∀ f : V → Bool, (∀ x ∈ xs, eq0 v x = some (f x)) → xs.any f = t := by
  induction xs with
  | nil => intro t h; cases h; exact ⟨fun x hx => (List.not_mem_nil hx).elim, fun f u_ => rfl⟩
  | cons x xs ih =>
    intro t h
    obtain ⟨a, ha, h⟩ := Option.bind_eq_some_iff.mp h
    obtain ⟨b, hb, rfl⟩ := Option.map_eq_some_iff.mp h
    obtain ⟨h1, h2⟩ := ih hb
    refine ⟨fun y hy => ?_, fun f hf => ?_⟩
    · rcases List.mem_cons.mp hy with rfl | hy
      · exact ⟨a, ha⟩
      · exact h1 y hy
    · have := hf x (.head _)
      rw [ha] at this
      rw [List.any_cons, ← Option.some.inj this, h2 f fun y hy => hf y (.tail _ hy)]
theorem memB_gives (b : List UInt8) (i : Int) (t u : Tok) (h0 : 0 ≤ i) (h1 : i < 256) : Gives (Builtin.«bytes.__contains__» ⟨[.bytes b.toArray t, .int i u], []⟩) (.val (.bool (b.contains (UInt8.ofNat i.toNat)))) := by
  refine .of_wp fun M A E s Q hq => ?_
  show wpAny M A (Builtin.Bytes.containsIn "bytes.__contains__" (.bytes b.toArray t) (.int i u) >>= fun r => ret (.bool r)) _ E s
  refine wpAny_bind ?_
  unfold Builtin.Bytes.containsIn
  refine wpAny_bind (wpAny_attempt (wpAny_of_eq (a := i) rfl ?_))
  refine wpAny_bind (wpAny_of_eq KBy.buffer_eq ?_)
  dsimp only
  have : ¬ ((decide (i < 0) || decide (i ≥ 256)) = true) := by simp; lia
  rw [if_neg this]
  refine wpAny_pure (wpAny_pure ⟨_, rfl, ?_⟩)
  have e : b.toArray.contains i.toNat.toUInt8 = b.contains (UInt8.ofNat i.toNat) := by simp
  rw [e]
  exact hq
theorem mem_ok (c : CxOK X) (R : Rep W X st s) {op : CmpOp} {a b : V} {t r : Bool} {ra rb : Value} (ha : VRep st.mh s.heap a ra) (hb : VRep st.mh s.heap b rb) (e : memV a b = some t) (hop : op = .In ∧ r = t ∨ op = .NotIn ∧ r = !t)
    {Qr : Value → Shared → Prop} {Er} (hQ : ∀ s', Nxt W X st s st s' → Qr (.bool r) s') : wpAny (M W) X.A (compareOp op ra rb) Qr Er s := by
  have hq := hQ _ (.refl R)
  cases b with
  | bytes b =>
    obtain ⟨i, hi, e⟩ := Option.bind_eq_some_iff.mp e
    obtain rfl := vInt_inv hi
    by_cases hi : 0 ≤ i ∧ i < 256
    · have e : some _ = some t := (if_pos hi).symm.trans e
      cases e
      obtain ⟨u1, rfl⟩ := ha.i_int
      obtain ⟨u2, rfl, _⟩ := hb.i_bytes
      have g := memB_gives b i u2 u1 hi.1 hi.2
      rcases hop with ⟨rfl, rfl⟩ | ⟨rfl, rfl⟩
      · exact SeqRoads2.in_meets (T := "bytes") rfl slot_bytes_contains entry_bytes_contains (args_bytes_contains _ _) (Gives.meets g) ⟨_, rfl, hq⟩
      · exact SeqRoads2.notIn_meets (T := "bytes") rfl slot_bytes_contains entry_bytes_contains (args_bytes_contains _ _) (Gives.meets g) ⟨_, rfl, hq⟩
    · have e : none = some t := (if_neg hi).symm.trans e
      cases e
  | tup xs =>
    have e : inT a xs = some t := e
    obtain ⟨y, rfl⟩ := hb.i_tup
    obtain ⟨items, o, k, ho, hc, hd, hr⟩ := tup_parts hb
    obtain ⟨h1, h2⟩ := inT_spec e
    have hl := hr.1
    have key : ∀ z, z ∈ items.toArray → EqAt X.A.in1 s z ra (eV a z) := fun z hz => by
      have hz' : z ∈ items := by simpa using hz
      obtain ⟨j, hj, rfl⟩ := List.getElem_of_mem hz'
      have g1 : xs[j]? = some (xs[j]'(hl ▸ hj)) := List.getElem?_eq_getElem _
      have rep := hr.2 j _ _ g1 (List.getElem?_eq_getElem hj)
      obtain ⟨b, hb'⟩ := h1 _ (List.mem_of_getElem? g1)
      obtain ⟨e1, e2⟩ := eV_spec rep hb'
      rw [e1]
      exact eqAt0 rep ha e2
    have tot : items.toArray.any (eV a) = t := by
      rw [← h2 (fun x => (eq0 a x).getD false) fun x hx => by obtain ⟨b, hb'⟩ := h1 x hx; rw [hb']; rfl]
      have : ∀ {xs : List V} {items : List Value}, VReps st.mh s.heap xs items → (∀ x ∈ xs, ∃ b, eq0 a x = some b) → items.any (eV a) = xs.any (fun x => (eq0 a x).getD false) := by
        intro xs
        induction xs with
        | nil => intro items r _; rw [vreps_none r]; rfl
        | cons x xs ih =>
          intro items r hh
          match items, r with
          | [], r => cases r.1
          | z :: items, r =>
            obtain ⟨b, hb'⟩ := hh x (.head _)
            rw [List.any_cons, List.any_cons, ih ⟨Nat.succ.inj r.1, fun i v y e1 e2 => r.2 (i + 1) v y e1 e2⟩ fun y hy => hh y (.tail _ hy), hb', (eV_spec (r.2 0 x z rfl rfl) hb').1]
            rfl
      have := this hr h1
      simpa using this
    rcases hop with ⟨rfl, rfl⟩ | ⟨rfl, rfl⟩
    · exact SeqAt.in_tupleAt (eV a) ⟨o, ho, hc, k, hd⟩ key (by rw [tot]; exact hq)
    · exact SeqAt.notIn_tupleAt (eV a) ⟨o, ho, hc, k, hd⟩ key (by rw [tot]; exact hq)
  | _ => cases e
set_option tactic.hygienic true in
theorem isNone_rep {mh : MH} {h : Heap} {v : V} {r : Value} (a : VRep mh h v r) : (r == .none) = isNone v := by
  cases a <;> first | rfl | skip
  rename_i b
  cases b <;> rfl
theorem cmp_ok (c : CxOK X) (R : Rep W X st s) {op : Cp} {a b : V} {t : Bool} {ra rb : Value} (ha : VRep st.mh s.heap a ra) (hb : VRep st.mh s.heap b rb) (e : cmpV st.mh op a b = some t)
    {Qr : Value → Shared → Prop} {Er} (hQ : ∀ s', Nxt W X st s st s' → Qr (.bool t) s') : wpAny (M W) X.A (compareOp (toCp op) ra rb) Qr Er s := by
  have hq := hQ _ (.refl R)
  have two : ∀ {g : Int → Int → Bool}, cmpV2 a b g = some t → ∃ x y, a = .int x ∧ b = .int y ∧ t = g x y := fun {g} e => by
    obtain ⟨x, h1, e⟩ := Option.bind_eq_some_iff.mp e
    obtain ⟨y, h2, e⟩ := Option.bind_eq_some_iff.mp e
    exact ⟨x, y, vInt_inv h1, vInt_inv h2, (Option.some.inj e).symm⟩
  have same : ∀ {o : Option Bool}, ite (sameTy a b = true) o none = some t → sameTy a b = true ∧ o = some t := fun {o} e => by
    by_cases hs : sameTy a b = true
    · rw [if_pos hs] at e; exact ⟨hs, e⟩
    · rw [if_neg hs] at e; cases e
  cases op with
  | eq => obtain ⟨hs, e⟩ := same e; exact eq_ok c R ha hb hs e (.inl ⟨rfl, rfl⟩) hQ
  | ne => obtain ⟨hs, e⟩ := same e; obtain ⟨z, hz, e⟩ := Option.map_eq_some_iff.mp e; exact eq_ok c R ha hb hs hz (.inr ⟨rfl, e.symm⟩) hQ
  | iss => obtain ⟨z, hz, e⟩ := Option.bind_eq_some_iff.mp e; obtain rfl := vNon_inv hz; obtain rfl := hb.i_none; cases e; exact PyProof.Rows.is_none_gen (by rw [isNone_rep ha]; exact hq)
  | isNot => obtain ⟨z, hz, e⟩ := Option.bind_eq_some_iff.mp e; obtain rfl := vNon_inv hz; obtain rfl := hb.i_none; cases e; exact isNot_none (by rw [isNone_rep ha]; exact hq)
  | inn => exact mem_ok c R ha hb e (.inl ⟨rfl, rfl⟩) hQ
  | notIn => obtain ⟨z, hz, e⟩ := Option.map_eq_some_iff.mp e; exact mem_ok c R ha hb hz (.inr ⟨rfl, e.symm⟩) hQ
  | lt => obtain ⟨x, y, rfl, rfl, rfl⟩ := two e; obtain ⟨_, rfl⟩ := ha.i_int; obtain ⟨_, rfl⟩ := hb.i_int; exact PyProof.Rows.lt_int hq
  | le => obtain ⟨x, y, rfl, rfl, rfl⟩ := two e; obtain ⟨_, rfl⟩ := ha.i_int; obtain ⟨_, rfl⟩ := hb.i_int; exact PyProof.Rows.le_int hq
  | gt => obtain ⟨x, y, rfl, rfl, rfl⟩ := two e; obtain ⟨_, rfl⟩ := ha.i_int; obtain ⟨_, rfl⟩ := hb.i_int; exact PyProof.Rows.gt_int hq
  | ge => obtain ⟨x, y, rfl, rfl, rfl⟩ := two e; obtain ⟨_, rfl⟩ := ha.i_int; obtain ⟨_, rfl⟩ := hb.i_int; exact PyProof.Rows.ge_int hq
end
end Lx
namespace Lx
open PySem PySem.W PySem.Calls PyProof.Rows PySem.Spec
noncomputable def beqV (v u : V) : Bool := @V.casesOn (fun u_ => Bool) v false (fun u_ => false) (fun i => vInt u == some i) (fun i => vByt u == some i) (fun u_ => false) (fun u_ => false) (fun i => vStat u == some i) (fun u_ => false)
theorem beqV_eq {a b : V} (h : beqV a b = true) : a = b := by
  cases a <;> first | (cases h; done) | skip
  · exact (vInt_inv (beq_iff_eq.mp h)).symm
  · exact (vByt_inv (beq_iff_eq.mp h)).symm
  · exact (vStat_inv (beq_iff_eq.mp h)).symm
noncomputable def isC (v : V) : Bool := @V.casesOn (fun u_ => Bool) v true (fun u_ => true) (fun u_ => true) (fun b => decide (b.length ≤ LIM)) (fun u_ => false) (fun u_ => false) (fun u_ => false) (fun u_ => false)
noncomputable def notNil (es : Es) : Bool := @Es.casesOn (fun u_ => Bool) es false (fun u_ u_ => true)
noncomputable def notCall0 (e : E) : Bool := @E.casesOn (fun u_ => Bool) e (fun u_ u_ => true) (fun u_ u_ => true) (fun u_ u_ => true) (fun u_ u_ u_ => true) (fun u_ u_ => true) (fun u_ u_ u_ => true) (fun u_ u_ u_ u_ => true) (fun u_ u_ => true) (fun u_ u_ => true) (fun u_ u_ => true) (fun u_ u_ => true) (fun u_ u_ u_ u_ => true) (fun u_ u_ u_ u_ u_ u_ => true) (fun u_ u_ u_ u_ => true) (fun u_ u_ u_ => true) (fun u_ u_ => true) (fun u_ u_ u_ => true) (fun u_ u_ u_ u_ u_ => true) (fun u_ => true) true (fun u_ es u_ => notNil es) (fun u_ u_ u_ u_ u_ => true)
noncomputable def lenEs : Es → Nat
  | .nil => 0
  | .cons _ es => lenEs es + 1
noncomputable def isCallee (e : E) : Bool := @E.casesOn (fun u_ => Bool) e (fun u_ u_ => false) (fun u_ u_ => false) (fun u_ u_ => false) (fun u_ v u_ => (vStat v).any fun a => staticDefs.contains a) (fun u_ u_ => true) (fun u_ u_ u_ => false) (fun u_ u_ u_ u_ => false) (fun u_ u_ => false) (fun u_ u_ => false) (fun u_ u_ => false) (fun u_ u_ => false) (fun u_ u_ u_ u_ => false) (fun u_ u_ u_ u_ u_ u_ => false) (fun u_ u_ u_ u_ => false) (fun u_ u_ u_ => false) (fun u_ u_ => false) (fun u_ u_ u_ => false) (fun u_ u_ u_ u_ u_ => false) (fun u_ => false) false (fun u_ u_ u_ => false) (fun u_ u_ u_ u_ u_ => false)
mutual
noncomputable def okE (sc : Scope) : E → Bool
  | .c v _ => isC v
  | .loc i _ => decide (i < NN) && !(nm i == ("__debug__" : PySem.Str)) && (sc.names.lookup (nm i) == some .local)
  | .cel i _ => decide (i < NN) && !(nm i == ("__debug__" : PySem.Str)) && (sc.names.lookup (nm i) == some .cell)
  | .glob i v _ => !(nm i == ("__debug__" : PySem.Str)) && (sc.names.lookup (nm i) == some .globalImplicit) && globTab.any fun p => p.1 == i && beqV p.2 v
  | .blt b _ => sc.names.lookup (PySem.Str.ofString (bName b)) == some .globalImplicit
  | .attr o f _ => okE sc o && fieldNames.contains f && decide (f < NN) && notCall0 o
  | .bin _ l r _ => okE sc l && okE sc r
  | .neg e _ => okE sc e
  | .not e _ => okE sc e
  | .and es _ => okEs sc es && (match es with | .cons .. => true | _ => false)
  | .or es _ => okEs sc es && (match es with | .cons .. => true | _ => false)
  | .cmp1 l _ r _ => okE sc l && okE sc r
  | .cmp2 l _ m _ r _ => okE sc l && okE sc m && okE sc r
  | .ite t a b _ => okE sc t && okE sc a && okE sc b
  | .tup es _ _ => okEs sc es
  | .list es _ => okEs sc es
  | .idx o i _ => okE sc o && okE sc i
  | .slice o lo hi _ _ => okE sc o && (isNo lo || okE sc lo) && (isNo hi || okE sc hi)
  | .dict0 _ => true
  | .no => false
  | .call f args _ => okE sc f && okEs sc args && isCallee f
  | .meth o n args ap p => okE sc o && okEs sc args && decide (n < NN) && notCall0 o && decide (lenEs args < 30) && (ap.el == p.l)
noncomputable def okEs (sc : Scope) : Es → Bool
  | .nil => true
  | .cons e es => okE sc e && okEs sc es
end
theorem oke_c {sc : Scope} {v x0} : okE sc (.c v x0) = (isC v) := rfl
theorem oke_loc {sc : Scope} {i x0} : okE sc (.loc i x0) = (decide (i < NN) && !(nm i == ("__debug__" : PySem.Str)) && (sc.names.lookup (nm i) == some .local)) := rfl
theorem oke_cel {sc : Scope} {i x0} : okE sc (.cel i x0) = (decide (i < NN) && !(nm i == ("__debug__" : PySem.Str)) && (sc.names.lookup (nm i) == some .cell)) := rfl
theorem oke_glob {sc : Scope} {i v x0} : okE sc (.glob i v x0) = (!(nm i == ("__debug__" : PySem.Str)) && (sc.names.lookup (nm i) == some .globalImplicit) && globTab.any fun p => p.1 == i && beqV p.2 v) := rfl
theorem oke_blt {sc : Scope} {b x0} : okE sc (.blt b x0) = (sc.names.lookup (PySem.Str.ofString (bName b)) == some .globalImplicit) := rfl
theorem oke_attr {sc : Scope} {o f x0} : okE sc (.attr o f x0) = (okE sc o && fieldNames.contains f && decide (f < NN) && notCall0 o) := rfl
theorem oke_bin {sc : Scope} {x0 l r x1} : okE sc (.bin x0 l r x1) = (okE sc l && okE sc r) := rfl
theorem oke_neg {sc : Scope} {e x0} : okE sc (.neg e x0) = (okE sc e) := rfl
theorem oke_not {sc : Scope} {e x0} : okE sc (.not e x0) = (okE sc e) := rfl
theorem oke_and {sc : Scope} {es x0} : okE sc (.and es x0) = (okEs sc es && (match es with | .cons .. => true | _ => false)) := rfl
theorem oke_or {sc : Scope} {es x0} : okE sc (.or es x0) = (okEs sc es && (match es with | .cons .. => true | _ => false)) := rfl
theorem oke_cmp1 {sc : Scope} {l x0 r x1} : okE sc (.cmp1 l x0 r x1) = (okE sc l && okE sc r) := rfl
theorem oke_cmp2 {sc : Scope} {l x0 m x1 r x2} : okE sc (.cmp2 l x0 m x1 r x2) = (okE sc l && okE sc m && okE sc r) := rfl
theorem oke_ite {sc : Scope} {t a b x0} : okE sc (.ite t a b x0) = (okE sc t && okE sc a && okE sc b) := rfl
theorem oke_tup {sc : Scope} {es x0 x1} : okE sc (.tup es x0 x1) = (okEs sc es) := rfl
theorem oke_list {sc : Scope} {es x0} : okE sc (.list es x0) = (okEs sc es) := rfl
theorem oke_idx {sc : Scope} {o i x0} : okE sc (.idx o i x0) = (okE sc o && okE sc i) := rfl
theorem oke_slice {sc : Scope} {o lo hi x0 x1} : okE sc (.slice o lo hi x0 x1) = (okE sc o && (isNo lo || okE sc lo) && (isNo hi || okE sc hi)) := rfl
theorem oke_dict0 {sc : Scope} {x0} : okE sc (.dict0 x0) = (true) := rfl
theorem oke_no {sc : Scope} : okE sc .no = (false) := rfl
theorem oke_call {sc : Scope} {f args x0} : okE sc (.call f args x0) = (okE sc f && okEs sc args && isCallee f) := rfl
theorem oke_meth {sc : Scope} {o n args ap p} : okE sc (.meth o n args ap p) = (okE sc o && okEs sc args && decide (n < NN) && notCall0 o && decide (lenEs args < 30) && (ap.el == p.l)) := rfl
theorem okes_nil {sc : Scope} : okEs sc .nil = (true) := rfl
theorem okes_cons {sc : Scope} {e es} : okEs sc (.cons e es) = (okE sc e && okEs sc es) := rfl
section
variable {W : Wd} {X : Cx} {st : St} {s : Shared} {n : Nat}
theorem base_plain {o : E} (h : notCall0 o = true) {name : PySem.Str} {env : Env} {wh : Sem Value} : attributeBase (toE o) name env wh = wh := by
  cases o with
  | call f args p =>
    cases args with
    | nil => cases h
    | cons e es => cases f <;> rfl
  | _ => rfl
theorem onB_inv {mh : MH} {h : Heap} {v : V} {rv : Value} {f : Bool → Prop} (a : onB v f) (r : VRep mh h v rv) : ∃ b, v = .bool b ∧ f b ∧ rv = .bool b := by
  cases r <;> first | exact ⟨_, rfl, a, rfl⟩ | exact a.elim
noncomputable def calleeV (e : E) : V := @E.casesOn (fun u_ => V) e (fun u_ u_ => .none) (fun u_ u_ => .none) (fun u_ u_ => .none) (fun u_ v u_ => v) (fun b u_ => .bt b) (fun u_ u_ u_ => .none) (fun u_ u_ u_ u_ => .none) (fun u_ u_ => .none) (fun u_ u_ => .none) (fun u_ u_ => .none) (fun u_ u_ => .none) (fun u_ u_ u_ u_ => .none) (fun u_ u_ u_ u_ u_ u_ => .none) (fun u_ u_ u_ u_ => .none) (fun u_ u_ u_ => .none) (fun u_ u_ => .none) (fun u_ u_ u_ => .none) (fun u_ u_ u_ u_ u_ => .none) (fun u_ => .none) .none (fun u_ u_ u_ => .none) (fun u_ u_ u_ u_ u_ => .none)
theorem callee_wp {O : Out} {f : E} {st : St} {Q : V → St → Prop} {Xc} (he : isCallee f = true) (h : wpE O f st Q Xc) : wpE O f st (fun v st' => v = calleeV f ∧ Q v st') Xc := by
  cases f <;> first | cases he | skip
  · exact ⟨rfl, h⟩
  · exact ⟨rfl, h⟩
set_option tactic.hygienic true in
theorem callee_keep (w : WOK W) {f : E} {rf : Value} {mh : MH} {h : Heap} (he : isCallee f = true) (r : VRep mh h (calleeV f) rf) : (∃ f, rf = .ref f ∧ keepIn W.K rf = true) ∨ ∀ a, rf ≠ .ref a := by
  cases f <;> first | cases he | skip
  · rename_i i v p
    cases v <;> first | cases he | skip
    rename_i a
    cases r
    exact .inl ⟨a, rfl, w.kf.keep a (by simpa using (show staticDefs.contains a = true from he))⟩
  · rename_i b p
    cases r
    exact .inr fun a q => by cases b <;> cases q
theorem slice_arm (lo hi : Option PySem.Expr) (p : Pos) (env : Env) : eval (.Slice lo hi none p) env = (do
      let l ← valueOrNone (evalOpt lo env)
      let u ← holding [l] (valueOrNone (evalOpt hi env))
      let z ← holding [l, u] (valueOrNone (evalOpt none env))
      newFields "slice" [l, u, z]) := rfl
theorem isTrue_of_bool {e : PySem.Expr} {env : Env} {A : Around} {Q : Bool → Shared → Prop} {Er} (hs : isTrue e env (eval e env) = (do let v ← eval e env; standAt e.pos; holding [v] (truthy v)))
    (h : wpF (M W) A (eval e env) (fun v s' => ∃ b, v = .bool b ∧ Q b s') Er s) : wpF (M W) A (isTrue e env (eval e env)) Q Er s := by
  refine fTest (wpF_mono h (fun v s' hv => ?_) fun u_ u_ x => x) hs
  obtain ⟨b, rfl, q⟩ := hv
  exact wpF_any (wpAny_truthy_bool q)
theorem star_toE (e : E) (rest : List PySem.Expr) (env : Env) : starEach (toE e :: rest) env = (false, eval (toE e) env) :: starEach rest env := by
  cases e <;> rfl
theorem star_any (es : Es) (env : Env) (p : Pos) : (backTo p (starEach (toEs es) env)).any (·.1) = false := by
  match es with
  | .nil => rfl
  | .cons e es => rw [tes_cons, star_toE]; show (false || _) = false; exact star_any es env p
theorem len_toEs : ∀ es : Es, (toEs es).length = lenEs es
  | .nil => rfl
  | .cons e es => by rw [tes_cons, List.length_cons, len_toEs es]; rfl
theorem star_all (es : Es) (env : Env) (p : Pos) : (backTo p (starEach (toEs es) env)).all (fun x => !x.1) = true := by
  match es with
  | .nil => rfl
  | .cons e es => rw [tes_cons, star_toE]; show (true && _) = true; rw [Bool.true_and]; exact star_all es env p
theorem callWith_any (w : WOK W) {es : Es} {p : Pos} {rf : Value} {first : List Value} {A : Around} {env : Env} {Qr : Value → Shared → Prop} {Er} (hk : (∃ f, rf = .ref f ∧ keepIn W.K rf = true) ∨ ∀ a, rf ≠ .ref a)
    (h : wpF (M W) A (spliced (backTo p (starEach (toEs es) env))) (fun vs s₁ => W.K.In s₁.heap ∧ wpF (M W) A (call rf (first ++ vs)) Qr Er s₁) Er s) :
    wpF (M W) A (callWith p rf first (backTo p (starEach (toEs es) env)) []) Qr Er s := by
  refine fCallWith (P := fun h => W.K.In h) (star_any es env p) (fun h' X' => ?_) ?_
  · rcases hk with ⟨f, rfl, hk⟩ | hk
    · exact keeps_K hk h' X'
    · refine ⟨.machine, .inr (.inl rfl), ?_⟩
      cases rf <;> first | exact .now | exact (hk _ rfl).elim
  · cases es with
    | nil =>
      unfold evalArgs
      show wpF _ _ (spliced [] >>= _) _ _ _
      exact wpF_then h fun vs s' h' => wpF_bind (wpF_pure (wpF_holding (wpF_bind (wpF_pure (wpF_bind (wpF_pure (wpF_pure h')))))))
    | cons e es =>
      rw [tes_cons, star_toE] at h ⊢
      exact fEvalArgs h
noncomputable def SE (W : Wd) (X : Cx) (n : Nat) (e : E) : Prop := ∀ (st : St) (Q : V → St → Prop) (Xc : St → Prop), okE X.env.scope e = true → wpE (Ot W n) e st Q Xc → Sat VRep W X (eval (toE e) X.env) st Q Xc
noncomputable def ST (W : Wd) (X : Cx) (n : Nat) (e : E) : Prop := ∀ (st : St) (Q : Bool → St → Prop) (Xc : St → Prop), okE X.env.scope e = true → wpE (Ot W n) e st (fun v st => onB v fun b => Q b st) Xc → Sat (fun u_ u_ a b => a = b) W X (isTrue (toE e) X.env (eval (toE e) X.env)) st Q Xc
noncomputable def SAv (W : Wd) (X : Cx) (n : Nat) (es : Es) : Prop := ∀ (p : Pos) (st : St) (Q : Bool → St → Prop) (Xc : St → Prop), okEs X.env.scope es = true → (match es with | .cons .. => true | _ => false) = true → wpAnd (Ot W n) es st Q Xc →
    Sat (fun u_ u_ b v => v = .bool b) W X (eval (.BoolOp .And (toEs es) p) X.env) st Q Xc
noncomputable def SOv (W : Wd) (X : Cx) (n : Nat) (es : Es) : Prop := ∀ (p : Pos) (st : St) (Q : Bool → St → Prop) (Xc : St → Prop), okEs X.env.scope es = true → (match es with | .cons .. => true | _ => false) = true → wpOr (Ot W n) es st Q Xc →
    Sat (fun u_ u_ b v => v = .bool b) W X (eval (.BoolOp .Or (toEs es) p) X.env) st Q Xc
noncomputable def SEs (W : Wd) (X : Cx) (n : Nat) (es : Es) : Prop := ∀ (p : Pos) (st : St) (Q : List V → St → Prop) (Xc : St → Prop), okEs X.env.scope es = true → wpEs (Ot W n) es st Q Xc → Sat VReps W X (spliced (backTo p (starEach (toEs es) X.env))) st Q Xc
noncomputable def SAt (W : Wd) (X : Cx) (n : Nat) (es : Es) : Prop := ∀ (p : Pos) (wh : Sem Value) (st : St) (Q : Bool → St → Prop) (Xc : St → Prop), okEs X.env.scope es = true → wpAnd (Ot W n) es st Q Xc → Sat (fun u_ u_ a b => a = b) W X (isTrue (.BoolOp .And (toEs es) p) X.env wh) st Q Xc
noncomputable def SOt (W : Wd) (X : Cx) (n : Nat) (es : Es) : Prop := ∀ (p : Pos) (wh : Sem Value) (st : St) (Q : Bool → St → Prop) (Xc : St → Prop), okEs X.env.scope es = true → wpOr (Ot W n) es st Q Xc → Sat (fun u_ u_ a b => a = b) W X (isTrue (.BoolOp .Or (toEs es) p) X.env wh) st Q Xc
structure SS (W : Wd) (X : Cx) (n : Nat) (l : Es) : Prop where
  av : SAv W X n l
  ov : SOv W X n l
  es : SEs W X n l
  at' : SAt W X n l
  ot : SOt W X n l
variable (w : WOK W) (c : CxOK X) (hn : n ≤ X.n)
include w c hn
theorem snd_o {e : E} (i : SE W X n e) : ∀ (st : St) (Q : V → St → Prop) (Xc : St → Prop), (isNo e || okE X.env.scope e) = true → wpE (Ot W n) e st Q Xc → Sat VRep W X (valueOrNone (evalOpt (if isNo e then none else some (toE e)) X.env)) st Q Xc :=
  fun st Q Xc ok h => fun s R Qr Er hQ hE => by
    cases hno : isNo e with
    | true =>
      cases e <;> first | cases hno | skip
      exact wpF_pure (hQ _ _ _ _ h (.refl R) .none)
    | false =>
      rw [hno] at ok
      exact i st _ _ ok h s R _ _ hQ hE
theorem e_c {v} {p} : SE W X n (.c v p) := fun st Q Xc ok h => fun s R Qr Er hQ hE => by
    cases v with
    | none => exact wpF_any (Constant_none (hQ _ _ _ _ h (.refl R) .none))
    | bool b => exact wpF_any (Constant_bool (hQ _ _ _ _ h (.refl R) (.bool b)))
    | int i => exact wpF_any (wpAny_Constant_int (hQ _ _ _ _ h (R.tk _) (.int i _)))
    | bytes b =>
      have hb : b.length ≤ LIM := by simpa [oke_c, isC] using ok
      exact wpF_any (const_bytes hb fun t tk => hQ _ _ _ _ h (R.tk tk) (.bytes b t hb))
    | _ => cases ok
set_option tactic.hygienic true in
theorem e_loc {i} {p} : SE W X n (.loc i p) := fun st Q Xc ok h => fun s R Qr Er hQ hE => by
    simp only [oke_loc, Bool.and_eq_true, decide_eq_true_eq, Bool.not_eq_true', beq_iff_eq] at ok
    obtain ⟨⟨hi, hd⟩, hl⟩ := ok
    simp only [we_loc] at h
    split at h
    · rename_i v hv
      obtain ⟨m, hm, q⟩ := R.ns
      obtain ⟨rv, ⟨l1, _⟩, vr⟩ := q i v hi hv
      exact wpF_any (wpAny_Name (wpAny_loadName_local c.kind hl (by rw [c.locals]; exact hm) (l1 hl) (hQ _ _ _ _ h (.refl R) vr)) hd)
    · exact h.elim
set_option tactic.hygienic true in
theorem e_cel {i} {p} : SE W X n (.cel i p) := fun st Q Xc ok h => fun s R Qr Er hQ hE => by
    simp only [oke_cel, Bool.and_eq_true, decide_eq_true_eq, Bool.not_eq_true', beq_iff_eq] at ok
    obtain ⟨⟨hi, hd⟩, hl⟩ := ok
    simp only [we_cel] at h
    split at h
    · rename_i v hv
      obtain ⟨m, hm, q⟩ := R.ns
      obtain ⟨rv, ⟨_, l2⟩, vr⟩ := q i v hi hv
      obtain ⟨cc, o, e1, e2, e3⟩ := l2 hl
      exact wpF_any (wpAny_Name (wpAny_loadName_cell c.kind hl e1 ⟨o, e2, e3⟩ (hQ _ _ _ _ h (.refl R) vr)) hd)
    · exact h.elim
theorem e_glob {i} {v} {p} : SE W X n (.glob i v p) := fun st Q Xc ok h => fun s R Qr Er hQ hE => by
    simp only [oke_glob, Bool.and_eq_true, decide_eq_true_eq, Bool.not_eq_true', beq_iff_eq, List.any_eq_true] at ok
    obtain ⟨⟨hd, hl⟩, p', hp, e1, e2⟩ := ok
    obtain ⟨pp, loose, mg, mb, T⟩ := w.top
    obtain ⟨rv, g1, g2⟩ := w.kf.glob p' hp
    rw [beqV_eq e2] at g2
    rw [e1] at g1
    exact wpF_any (Name_function_global c.kind hl (loadGlobal_global (by rw [c.globals]; exact T.g.keeps R.stays) (mg_of w.kin T.g g1) (hQ _ _ _ _ h (.refl R) (g2 _ _))) hd)
theorem e_blt {b} {p} : SE W X n (.blt b p) := fun st Q Xc ok h => fun s R Qr Er hQ hE => by
    simp only [oke_blt, beq_iff_eq] at ok
    obtain ⟨pp, loose, mg, mb, T⟩ := w.top
    refine wpF_any (Name_function_global c.kind ok (loadGlobal_builtin (mb := mb) (by rw [c.globals]; exact T.g.keeps R.stays) (mg_none_of w.kin T.g (w.kf.blt b)) (by rw [c.builtins]; exact T.b.keeps R.stays) ((T.builtins _ ?_).trans ?_) (hQ _ _ _ _ h (.refl R) (.bt b))) ?_)
    · cases b <;> decide
    · cases b <;> decide +kernel
    · cases b <;> decide
set_option tactic.hygienic true in
theorem e_attr {o} {f} {p} (i_o : SE W X n o) (t_o : ST W X n o) : SE W X n (.attr o f p) := fun st Q Xc ok h => fun s R Qr Er hQ hE => by
    simp only [oke_attr, Bool.and_eq_true, decide_eq_true_eq, List.contains_iff_mem] at ok
    obtain ⟨⟨⟨ok, hf⟩, hfn⟩, h0⟩ := ok
    simp only [we_attr] at h
    show wpF _ _ (eval (.Attribute (toE o) (nm f) (toP p)) X.env) _ _ _
    rw [arm_eval_Attribute, base_plain h0]
    refine wpF_then (i_o st (fun v st => match attrV st.mh v f with | some u => Q u st | none => False) Xc ok h s R (fun rv s₁ => wpF (M W) X.A (getAttr rv (nm f) true) Qr Er s₁) _ (fun v st₁ rv s₁ h₁ N₁ r₁ => ?_) hE) fun rv s₁ h₁ => wpF_standAt (wpF_then (wpF_holding h₁) fun r s₂ h₂ => wpF_then (P := fun u_ s' => Qr r s') (fLetTemp h₂) fun u_ u_ q => wpF_pure q)
    dsimp only at h₁
    split at h₁
    · rename_i u hu
      exact wpF_any (attr_ok w c N₁.rep r₁ hu hf hfn fun rv' s' N' r' => hQ _ _ _ _ h₁ (N₁.trans N') r')
    · exact h₁.elim
set_option tactic.hygienic true in
theorem e_bin {op} {l} {r} {p} (i_l : SE W X n l) (t_l : ST W X n l) (i_r : SE W X n r) (t_r : ST W X n r) : SE W X n (.bin op l r p) := fun st Q Xc ok h => fun s R Qr Er hQ hE => by
    simp only [oke_bin, Bool.and_eq_true] at ok
    simp only [we_bin] at h
    refine fBinOp (i_l st _ _ ok.1 h s R _ _ (fun a st₁ ra s₁ h₁ N₁ r₁ => ?_) hE)
    refine i_r st₁ _ _ ok.2 h₁ s₁ N₁.rep _ _ (fun b st₂ rb s₂ h₂ N₂ r₂ => ?_) fun st' e s' x N x' => hE st' e s' x (N₁.trans N) (x'.back N₁.stp)
    split at h₂
    · rename_i v hv
      exact wpF_any (bin_ok c N₂.rep (N₂.v N₁.rep r₁) r₂ hv fun rv s' N' r' => hQ _ _ _ _ h₂ ((N₁.trans N₂).trans N') r')
    · exact h₂.elim
theorem e_neg {e} {p} (i_e : SE W X n e) (t_e : ST W X n e) : SE W X n (.neg e p) := fun st Q Xc ok h => fun s R Qr Er hQ hE => by
    simp only [oke_neg] at ok
    simp only [we_neg] at h
    refine fUnaryOp (i_e st _ _ ok h s R _ _ (fun a st₁ ra s₁ h₁ N₁ r₁ => ?_) hE)
    cases r₁ <;> first | exact h₁.elim | skip
    exact wpF_any (neg_ok N₁.rep fun rv s' N' r' => hQ _ _ _ _ h₁ (N₁.trans N') r')
theorem e_not {e} {p} (i_e : SE W X n e) (t_e : ST W X n e) : SE W X n (.not e p) := fun st Q Xc ok h => fun s R Qr Er hQ hE => by
    simp only [oke_not] at ok
    simp only [we_not] at h
    exact fUnaryOp (i_e st _ _ ok h s R _ _ (fun a st₁ ra s₁ h₁ N₁ r₁ => by
      obtain ⟨b, rfl, h₁, rfl⟩ := onB_inv h₁ r₁
      exact wpF_any (not_of (wpAny_truthy_bool (hQ _ _ _ _ h₁ N₁ (.bool _))))) hE)
theorem e_and {es} {p} (j_es : SS W X n es) : SE W X n (.and es p) := fun st Q Xc ok h => fun s R Qr Er hQ hE => by
    simp only [oke_and, Bool.and_eq_true] at ok
    simp only [we_and] at h
    exact j_es.av (toP p) st _ _ ok.1 (by cases es with | nil => cases ok.2 | cons => rfl) h s R _ _ (fun b st₁ rv s₁ h₁ N₁ r₁ => hQ _ _ _ _ h₁ N₁ (r₁ ▸ .bool b)) hE
theorem e_or {es} {p} (j_es : SS W X n es) : SE W X n (.or es p) := fun st Q Xc ok h => fun s R Qr Er hQ hE => by
    simp only [oke_or, Bool.and_eq_true] at ok
    simp only [we_or] at h
    exact j_es.ov (toP p) st _ _ ok.1 (by cases es with | nil => cases ok.2 | cons => rfl) h s R _ _ (fun b st₁ rv s₁ h₁ N₁ r₁ => hQ _ _ _ _ h₁ N₁ (r₁ ▸ .bool b)) hE
set_option tactic.hygienic true in
theorem e_cmp1 {l} {op} {r} {p} (i_l : SE W X n l) (t_l : ST W X n l) (i_r : SE W X n r) (t_r : ST W X n r) : SE W X n (.cmp1 l op r p) := fun st Q Xc ok h => fun s R Qr Er hQ hE => by
    simp only [oke_cmp1, Bool.and_eq_true] at ok
    simp only [we_cmp1] at h
    refine fCompare1 (i_l st _ _ ok.1 h s R _ _ (fun a st₁ ra s₁ h₁ N₁ r₁ => ?_) hE) (by cases r <;> rfl)
    refine i_r st₁ _ _ ok.2 h₁ s₁ N₁.rep _ _ (fun b st₂ rb s₂ h₂ N₂ r₂ => ?_) fun st' e s' x N x' => hE st' e s' x (N₁.trans N) (x'.back N₁.stp)
    split at h₂
    · rename_i v hv
      exact wpF_any (cmp_ok c N₂.rep (N₂.v N₁.rep r₁) r₂ hv fun s' N' => hQ _ _ _ _ h₂ ((N₁.trans N₂).trans N') (.bool _))
    · exact h₂.elim
set_option tactic.hygienic true in
theorem e_cmp2 {l} {op1} {m} {op2} {r} {p} (i_l : SE W X n l) (t_l : ST W X n l) (i_m : SE W X n m) (t_m : ST W X n m) (i_r : SE W X n r) (t_r : ST W X n r) : SE W X n (.cmp2 l op1 m op2 r p) := fun st Q Xc ok h => fun s R Qr Er hQ hE => by
    simp only [oke_cmp2, Bool.and_eq_true] at ok
    obtain ⟨⟨ok1, ok2⟩, ok3⟩ := ok
    simp only [we_cmp2] at h
    refine fCompare2 (i_l st _ _ ok1 h s R _ _ (fun a st₁ ra s₁ h₁ N₁ r₁ => ?_) hE) (by cases r <;> rfl)
    refine i_m st₁ _ _ ok2 h₁ s₁ N₁.rep _ _ (fun b st₂ rb s₂ h₂ N₂ r₂ => ?_) fun st' e s' x N x' => hE st' e s' x (N₁.trans N) (x'.back N₁.stp)
    cases hv : cmpV st₂.mh op1 a b with
    | none => rw [hv] at h₂; exact h₂.elim
    | some t =>
      rw [hv] at h₂
      refine wpF_any (cmp_ok c N₂.rep (N₂.v N₁.rep r₁) r₂ hv fun s₃ N₃ => wpF_any (wpAny_truthy_bool ?_))
      cases t with
      | false => exact hQ _ _ _ _ h₂ ((N₁.trans N₂).trans N₃) (.bool false)
      | true =>
        refine i_r st₂ _ _ ok3 h₂ s₃ N₃.rep _ _ (fun b' st₄ rb' s₄ h₄ N₄ r₄ => ?_) fun st' e s' x N x' => hE st' e s' x (((N₁.trans N₂).trans N₃).trans N) (x'.back ((N₁.trans N₂).trans N₃).stp)
        split at h₄
        · rename_i v hv'
          exact wpF_any (cmp_ok c N₄.rep ((N₃.trans N₄).v N₂.rep r₂) r₄ hv' fun s' N' => hQ _ _ _ _ h₄ ((((N₁.trans N₂).trans N₃).trans N₄).trans N') (.bool _))
        · exact h₄.elim
theorem e_ite {t} {a} {b} {p} (i_t : SE W X n t) (t_t : ST W X n t) (i_a : SE W X n a) (t_a : ST W X n a) (i_b : SE W X n b) (t_b : ST W X n b) : SE W X n (.ite t a b p) := fun st Q Xc ok h => fun s R Qr Er hQ hE => by
    simp only [oke_ite, Bool.and_eq_true] at ok
    obtain ⟨⟨ok1, ok2⟩, ok3⟩ := ok
    simp only [we_ite] at h
    refine fIfExp (t_t st _ _ ok1 h s R _ _ (fun v st₁ x s₁ h₁ N₁ r₁ => ?_) hE)
    cases r₁
    cases v with
    | true =>
      exact i_a st₁ _ _ ok2 h₁ s₁ N₁.rep _ _ (fun v st₂ rv s₂ h₂ N₂ r₂ => hQ _ _ _ _ h₂ (N₁.trans N₂) r₂) fun st' e s' x N x' => hE st' e s' x (N₁.trans N) (x'.back N₁.stp)
    | false =>
      exact i_b st₁ _ _ ok3 h₁ s₁ N₁.rep _ _ (fun v st₂ rv s₂ h₂ N₂ r₂ => hQ _ _ _ _ h₂ (N₁.trans N₂) r₂) fun st' e s' x N x' => hE st' e s' x (N₁.trans N) (x'.back N₁.stp)
theorem e_tup {es} {k} {p} (j_es : SS W X n es) : SE W X n (.tup es k p) := fun st Q Xc ok h => fun s R Qr Er hQ hE => by
    simp only [oke_tup] at ok
    simp only [we_tup] at h
    refine fTuple (j_es.es (toP p) st _ _ ok h s R _ _ (fun vs st₁ rs s₁ h₁ N₁ r₁ => ?_) hE)
    exact wpF_any (newTuple_ok c N₁.rep r₁ h₁.1 fun rv s' N' r' => hQ _ _ _ _ h₁.2 (N₁.trans N') r')
theorem e_list {es} {p} (j_es : SS W X n es) : SE W X n (.list es p) := fun st Q Xc ok h => fun s R Qr Er hQ hE => by
    simp only [oke_list] at ok
    simp only [we_list] at h
    refine fList (j_es.es (toP p) st _ _ ok h s R _ _ (fun vs st₁ rs s₁ h₁ N₁ r₁ => ?_) hE)
    exact wpF_any (newList_ok c N₁.rep r₁ h₁.1 fun a s' ha N' => hQ _ _ _ _ (h₁.2 a ha) (N₁.trans N') (.ref a))
set_option tactic.hygienic true in
theorem e_idx {o} {i} {p} (i_o : SE W X n o) (t_o : ST W X n o) (i_i : SE W X n i) (t_i : ST W X n i) : SE W X n (.idx o i p) := fun st Q Xc ok h => fun s R Qr Er hQ hE => by
    simp only [oke_idx, Bool.and_eq_true] at ok
    simp only [we_idx] at h
    simp only [te_c, te_loc, te_cel, te_glob, te_blt, te_attr, te_bin, te_neg, te_not, te_and, te_or, te_cmp1, te_cmp2, te_ite, te_tup, te_list, te_idx, te_slice, te_dict0, te_no, te_call, te_meth]
    refine fSubscript (value := toE o) (slice := toE i) (i_o st _ _ ok.1 h s R _ _ (fun a st₁ ra s₁ h₁ N₁ r₁ => ?_) hE)
    refine i_i st₁ _ _ ok.2 h₁ s₁ N₁.rep _ _ (fun b st₂ rb s₂ h₂ N₂ r₂ => ?_) fun st' e s' x N x' => hE st' e s' x (N₁.trans N) (x'.back N₁.stp)
    split at h₂
    · rename_i v hv
      exact wpF_any (idx_ok w c N₂.rep (N₂.v N₁.rep r₁) r₂ hv fun rv s' N' r' => hQ _ _ _ _ h₂ ((N₁.trans N₂).trans N') r')
    · exact h₂.elim
theorem e_slice {o} {lo} {hi} {sp} {p} (i_o : SE W X n o) (t_o : ST W X n o) (i_lo : SE W X n lo) (t_lo : ST W X n lo) (i_hi : SE W X n hi) (t_hi : ST W X n hi) : SE W X n (.slice o lo hi sp p) := fun st Q Xc ok h => fun s R Qr Er hQ hE => by
    simp only [oke_slice, Bool.and_eq_true] at ok
    obtain ⟨⟨ok1, ok2⟩, ok3⟩ := ok
    simp only [we_slice] at h
    simp only [te_c, te_loc, te_cel, te_glob, te_blt, te_attr, te_bin, te_neg, te_not, te_and, te_or, te_cmp1, te_cmp2, te_ite, te_tup, te_list, te_idx, te_slice, te_dict0, te_no, te_call, te_meth]
    refine fSubscript (value := toE o) (i_o st _ _ ok1 h s R _ _ (fun a st₁ ra s₁ h₁ N₁ r₁ => ?_) hE)
    rw [slice_arm]
    refine wpF_bind (snd_o w c hn i_lo st₁ _ _ ok2 h₁ s₁ N₁.rep _ _ (fun l st₂ rl s₂ h₂ N₂ r₂ => ?_) fun st' e s' x N x' => hE st' e s' x (N₁.trans N) (x'.back N₁.stp))
    refine wpF_bind (wpF_holding (snd_o w c hn i_hi st₂ _ _ ok3 h₂ s₂ N₂.rep _ _ (fun u st₃ ru s₃ h₃ N₃ r₃ => ?_) fun st' e s' x N x' => hE st' e s' x ((N₁.trans N₂).trans N) (x'.back (N₁.trans N₂).stp)))
    refine wpF_bind (wpF_holding (wpF_pure ?_))
    exact wpF_any (wpAny_mono (slice_ok w c N₃.rep ((N₂.trans N₃).v N₁.rep r₁) (N₃.v N₂.rep r₂) r₃ h₃ fun v mh rv s' q N' r' => hQ _ _ _ _ q (((N₁.trans N₂).trans N₃).trans N') r') (fun u_ u_ z => wpF_any z) fun u_ u_ x => x)
theorem e_dict0 {p} : SE W X n (.dict0 p) := fun st Q Xc ok h => fun s R Qr Er hQ hE => wpF_any (newDict_ok c R fun a s' ha N' => hQ _ _ _ _ (h a ha) N' (.ref a))
omit w c hn in
theorem e_no : SE W X n .no := fun u_ u_ u_ ok u_ => by cases ok
theorem e_call {f} {args} {p} (i_f : SE W X n f) (t_f : ST W X n f) (j_args : SS W X n args) : SE W X n (.call f args p) := fun st Q Xc ok h => fun s R Qr Er hQ hE => by
    simp only [oke_call, Bool.and_eq_true] at ok
    simp only [we_call] at h
    refine fCall (i_f st _ _ ok.1.1 (callee_wp ok.2 h) s R _ _ (fun fv st₁ rf s₁ h₁ N₁ r₁ => ?_) hE) ?_
    · obtain ⟨rfl, h₁⟩ := h₁
      refine callWith_any w (callee_keep w ok.2 r₁) (j_args.es (toP p) st₁ _ _ ok.1.2 h₁ s₁ N₁.rep _ _ (fun vs st₂ rs s₂ h₂ N₂ r₂ => ?_) fun st' e s' x N x' => hE st' e s' x (N₁.trans N) (x'.back N₁.stp))
      refine ⟨w.kin.keeps N₂.rep.stays, ?_⟩
      generalize calleeV f = fv at h₂ r₁
      cases r₁ <;> first | exact h₂.elim | skip
      · exact h₂ X _ s₂ _ c hn N₂.rep r₂ _ _ (fun v mh' rv s' q N' r' => hQ _ _ _ _ q ((N₁.trans N₂).trans N') r') fun mh' e s' x N' x' => hE _ e s' x ((N₁.trans N₂).trans N') (Exc.back (X := X) (N₁.trans N₂).stp (.inr (.inl x')))
      · exact bcall_ok (n := n) w c N₂.rep r₂ h₂ fun v mh rv s' q N' r' => hQ _ _ _ _ q ((N₁.trans N₂).trans N') r'
    · cases f <;> first | rfl | cases ok.2
set_option tactic.hygienic true in
theorem e_meth {o} {name} {args} {ap} {p} (i_o : SE W X n o) (t_o : ST W X n o) (j_args : SS W X n args) : SE W X n (.meth o name args ap p) := fun st Q Xc ok h => fun s R Qr Er hQ hE => by
    simp only [oke_meth, Bool.and_eq_true, decide_eq_true_eq, beq_iff_eq] at ok
    obtain ⟨⟨⟨⟨⟨ok1, ok2⟩, hnn⟩, h0⟩, hlen⟩, hline⟩ := ok
    simp only [we_meth] at h
    have hform : methodCallForm ((toEs args).length + ([] : List PySem.Keyword).length) (backTo (toP p) (starEach (toEs args) X.env)) (backToKw (toP p) (keywordEach [] X.env)) = true := by
      have hk : backToKw (toP p) (keywordEach [] X.env) = [] := rfl
      unfold methodCallForm
      rw [len_toEs, star_all, hk]
      simpa using hlen
    have hpos : methodCallPos true (toE o) X.env (toP ap) (toP p) = pure (toP p) := by
      unfold methodCallPos
      simp [toP, hline]
    show wpF _ _ (eval (.Call (.Attribute (toE o) (nm name) (toP ap)) (toEs args) [] (toP p)) X.env) _ _ _
    rw [arm_eval_Call, base_plain h0]
    refine wpF_bind (i_o st _ _ ok1 h s R _ _ (fun ov st₁ ro s₁ h₁ N₁ r₁ => wpF_standAt ?_) hE)
    unfold methodCall
    rw [hform]
    split at h₁
    · rename_i k hk
      refine wpF_bind (wpF_holding (wpF_any (getMethod_ok w c N₁.rep r₁ hk hnn fun rf s₂ N₂ hrf hkeep => ?_)))
      refine wpF_bind (wpF_eq hpos (wpF_pure ?_))
      refine callWith_any w hkeep (j_args.es (toP p) st₁ _ _ ok2 h₁ s₂ N₂.rep _ _ (fun vs st₃ rs s₃ h₃ N₃ r₃ => ?_) fun st' e s' x N x' => hE st' e s' x ((N₁.trans N₂).trans N) (x'.back (N₁.trans N₂).stp))
      refine ⟨w.kin.keeps N₃.rep.stays, ?_⟩
      exact mrun_ok w c hn N₃.rep ((N₂.trans N₃).v N₁.rep r₁) r₃ h₃ hrf (fun v mh rv s' q N' r' => hQ _ _ _ _ q (((N₁.trans N₂).trans N₃).trans N') r') fun mh e s' x N' x' => hE _ e s' x (((N₁.trans N₂).trans N₃).trans N') (x'.back ((N₁.trans N₂).trans N₃).stp)
    · exact h₁.elim
theorem t_not {e} {p} (i_e : SE W X n e) (t_e : ST W X n e) : ST W X n (.not e p) := fun st Q Xc ok h => fun s R Qr Er hQ hE => by
    simp only [oke_not] at ok
    simp only [we_not, onB] at h
    exact fTestNot (t_e st (fun b st => Q (!b) st) _ ok h s R _ _ (fun b st₁ b' s₁ h₁ N₁ r₁ => hQ _ _ _ _ h₁ N₁ (congrArg _ r₁)) hE)
theorem t_and {es} {p} (j_es : SS W X n es) : ST W X n (.and es p) := fun st Q Xc ok h => fun s R Qr Er hQ hE => by
    simp only [oke_and, Bool.and_eq_true] at ok
    simp only [we_and, onB] at h
    exact j_es.at' (toP p) _ st _ _ ok.1 h s R _ _ hQ hE
theorem t_or {es} {p} (j_es : SS W X n es) : ST W X n (.or es p) := fun st Q Xc ok h => fun s R Qr Er hQ hE => by
    simp only [oke_or, Bool.and_eq_true] at ok
    simp only [we_or, onB] at h
    exact j_es.ot (toP p) _ st _ _ ok.1 h s R _ _ hQ hE
set_option tactic.hygienic true in
theorem t_cmp1 {l} {op} {r} {p} (i_l : SE W X n l) (t_l : ST W X n l) (i_r : SE W X n r) (t_r : ST W X n r) : ST W X n (.cmp1 l op r p) := fun st Q Xc ok h => fun s R Qr Er hQ hE => by
    simp only [oke_cmp1, Bool.and_eq_true] at ok
    simp only [we_cmp1, onB] at h
    refine fTestCompare1 (i_l st _ _ ok.1 h s R _ _ (fun a st₁ ra s₁ h₁ N₁ r₁ => ?_) hE) (by cases r <;> rfl)
    refine i_r st₁ _ _ ok.2 h₁ s₁ N₁.rep _ _ (fun b st₂ rb s₂ h₂ N₂ r₂ => ?_) fun st' e s' x N x' => hE st' e s' x (N₁.trans N) (x'.back N₁.stp)
    split at h₂
    · rename_i v hv
      exact wpF_any (cmp_ok c N₂.rep (N₂.v N₁.rep r₁) r₂ hv fun s' N' => wpF_any (wpAny_truthy_bool (hQ _ _ _ _ h₂ ((N₁.trans N₂).trans N') rfl)))
    · exact h₂.elim
set_option tactic.hygienic true in
theorem t_cmp2 {l} {op1} {m} {op2} {r} {p} (i_l : SE W X n l) (t_l : ST W X n l) (i_m : SE W X n m) (t_m : ST W X n m) (i_r : SE W X n r) (t_r : ST W X n r) : ST W X n (.cmp2 l op1 m op2 r p) := fun st Q Xc ok h => fun s R Qr Er hQ hE => by
    simp only [oke_cmp2, Bool.and_eq_true] at ok
    obtain ⟨⟨ok1, ok2⟩, ok3⟩ := ok
    simp only [we_cmp2, onB] at h
    refine fTestCompare2 (i_l st _ _ ok1 h s R _ _ (fun a st₁ ra s₁ h₁ N₁ r₁ => ?_) hE) (by cases r <;> rfl)
    refine i_m st₁ _ _ ok2 h₁ s₁ N₁.rep _ _ (fun b st₂ rb s₂ h₂ N₂ r₂ => ?_) fun st' e s' x N x' => hE st' e s' x (N₁.trans N) (x'.back N₁.stp)
    cases hv : cmpV st₂.mh op1 a b with
    | none => rw [hv] at h₂; exact h₂.elim
    | some t =>
      rw [hv] at h₂
      refine wpF_any (cmp_ok c N₂.rep (N₂.v N₁.rep r₁) r₂ hv fun s₃ N₃ => wpF_any (wpAny_truthy_bool ?_))
      cases t with
      | false => exact hQ _ _ _ _ h₂ ((N₁.trans N₂).trans N₃) rfl
      | true =>
        refine i_r st₂ _ _ ok3 h₂ s₃ N₃.rep _ _ (fun b' st₄ rb' s₄ h₄ N₄ r₄ => ?_) fun st' e s' x N x' => hE st' e s' x (((N₁.trans N₂).trans N₃).trans N) (x'.back ((N₁.trans N₂).trans N₃).stp)
        split at h₄
        · rename_i v hv'
          exact wpF_any (cmp_ok c N₄.rep ((N₃.trans N₄).v N₂.rep r₂) r₄ hv' fun s' N' => wpF_any (wpAny_truthy_bool (hQ _ _ _ _ h₄ ((((N₁.trans N₂).trans N₃).trans N₄).trans N') rfl)))
        · exact h₄.elim
theorem t_ite {t} {a} {b} {p} (i_t : SE W X n t) (t_t : ST W X n t) (i_a : SE W X n a) (t_a : ST W X n a) (i_b : SE W X n b) (t_b : ST W X n b) : ST W X n (.ite t a b p) := fun st Q Xc ok h => fun s R Qr Er hQ hE => by
    simp only [oke_ite, Bool.and_eq_true] at ok
    obtain ⟨⟨ok1, ok2⟩, ok3⟩ := ok
    simp only [we_ite] at h
    refine fTestIfExp (t_t st _ _ ok1 h s R _ _ (fun v st₁ x s₁ h₁ N₁ r₁ => ?_) hE)
    cases r₁
    cases v with
    | true => exact t_a st₁ _ _ ok2 h₁ s₁ N₁.rep _ _ (fun v st₂ rv s₂ h₂ N₂ r₂ => hQ _ _ _ _ h₂ (N₁.trans N₂) r₂) fun st' e s' x N x' => hE st' e s' x (N₁.trans N) (x'.back N₁.stp)
    | false => exact t_b st₁ _ _ ok3 h₁ s₁ N₁.rep _ _ (fun v st₂ rv s₂ h₂ N₂ r₂ => hQ _ _ _ _ h₂ (N₁.trans N₂) r₂) fun st' e s' x N x' => hE st' e s' x (N₁.trans N) (x'.back N₁.stp)
noncomputable def boolE (e : E) : Bool := @E.casesOn (fun u_ => Bool) e (fun u_ u_ => true) (fun u_ u_ => true) (fun u_ u_ => true) (fun u_ u_ u_ => true) (fun u_ u_ => true) (fun u_ u_ u_ => true) (fun u_ u_ u_ u_ => true) (fun u_ u_ => true) (fun u_ u_ => false) (fun u_ u_ => false) (fun u_ u_ => false) (fun u_ u_ u_ u_ => false) (fun u_ u_ u_ u_ u_ u_ => false) (fun u_ u_ u_ u_ => false) (fun u_ u_ u_ => true) (fun u_ u_ => true) (fun u_ u_ u_ => true) (fun u_ u_ u_ u_ u_ => true) (fun u_ => true) true (fun u_ u_ u_ => true) (fun u_ u_ u_ u_ u_ => true)
theorem t_of {e : E} (he : boolE e = true) (i : SE W X n e) : ST W X n e := fun st Q Xc ok h => fun s R Qr Er hQ hE =>
  isTrue_of_bool (by cases e <;> first | rfl | cases he) (i st _ _ ok h s R _ _ (fun v st₁ rv s₁ h₁ N₁ r₁ => by obtain ⟨b, rfl, h₁, rfl⟩ := onB_inv h₁ r₁; exact ⟨b, rfl, hQ _ _ _ _ h₁ N₁ rfl⟩) hE)
theorem v_av {e es} (i_e : SE W X n e) (j : SS W X n es) : SAv W X n (.cons e es) := by
  cases es with
  | nil =>
    exact fun p st Q Xc ok u_ h => fun s R Qr Er hQ hE => by
      simp only [okes_cons, okes_nil, Bool.and_true] at ok
      simp only [wan_cons] at h
      refine i_e st _ _ ok h s R _ _ (fun v st₁ rv s₁ h₁ N₁ r₁ => ?_) hE
      obtain ⟨b, rfl, h₁, rfl⟩ := onB_inv h₁ r₁
      cases b <;> exact hQ _ _ _ _ h₁ N₁ rfl
  | cons e' es =>
    exact fun p st Q Xc ok u_ h => fun s R Qr Er hQ hE => by
      rw [okes_cons, Bool.and_eq_true] at ok
      rw [wan_cons] at h
      refine fAnd (i_e st _ _ ok.1 h s R _ _ (fun v st₁ rv s₁ h₁ N₁ r₁ => ?_) hE)
      obtain ⟨b, rfl, h₁, rfl⟩ := onB_inv h₁ r₁
      refine wpF_any (wpAny_truthy_bool ?_)
      cases b with
      | false => exact hQ _ _ _ _ h₁ N₁ rfl
      | true => exact j.av p st₁ _ _ ok.2 rfl h₁ s₁ N₁.rep _ _ (fun b st₂ rv s₂ h₂ N₂ r₂ => hQ _ _ _ _ h₂ (N₁.trans N₂) r₂) fun st' e s' x N x' => hE st' e s' x (N₁.trans N) (x'.back N₁.stp)
theorem v_ov {e es} (i_e : SE W X n e) (j : SS W X n es) : SOv W X n (.cons e es) := by
  cases es with
  | nil =>
    exact fun p st Q Xc ok u_ h => fun s R Qr Er hQ hE => by
      simp only [okes_cons, okes_nil, Bool.and_true] at ok
      simp only [wor_cons] at h
      refine i_e st _ _ ok h s R _ _ (fun v st₁ rv s₁ h₁ N₁ r₁ => ?_) hE
      obtain ⟨b, rfl, h₁, rfl⟩ := onB_inv h₁ r₁
      cases b <;> exact hQ _ _ _ _ h₁ N₁ rfl
  | cons e' es =>
    exact fun p st Q Xc ok u_ h => fun s R Qr Er hQ hE => by
      rw [okes_cons, Bool.and_eq_true] at ok
      rw [wor_cons] at h
      refine fOr (i_e st _ _ ok.1 h s R _ _ (fun v st₁ rv s₁ h₁ N₁ r₁ => ?_) hE)
      obtain ⟨b, rfl, h₁, rfl⟩ := onB_inv h₁ r₁
      refine wpF_any (wpAny_truthy_bool ?_)
      cases b with
      | true => exact hQ _ _ _ _ h₁ N₁ rfl
      | false => exact j.ov p st₁ _ _ ok.2 rfl h₁ s₁ N₁.rep _ _ (fun b st₂ rv s₂ h₂ N₂ r₂ => hQ _ _ _ _ h₂ (N₁.trans N₂) r₂) fun st' e s' x N x' => hE st' e s' x (N₁.trans N) (x'.back N₁.stp)
theorem v_es {e es} (i_e : SE W X n e) (j_es : SS W X n es) : SEs W X n (.cons e es) := fun p st Q Xc ok h => fun s R Qr Er hQ hE => by
    simp only [okes_cons, Bool.and_eq_true] at ok
    simp only [wes_cons] at h
    rw [tes_cons, star_toE]
    refine fArgsCons (i_e st _ _ ok.1 h s R _ _ (fun v st₁ rv s₁ h₁ N₁ r₁ => ?_) hE)
    exact j_es.es p st₁ _ _ ok.2 h₁ s₁ N₁.rep _ _ (fun vs st₂ rs s₂ h₂ N₂ r₂ => hQ _ _ _ _ h₂ (N₁.trans N₂) (vreps_cons (N₂.v N₁.rep r₁) r₂)) fun st' e s' x N x' => hE st' e s' x (N₁.trans N) (x'.back N₁.stp)
omit w c hn in
theorem z_es : SEs W X n .nil := fun p st Q Xc ok h => fun s R Qr Er hQ hE => wpF_any (args_nil (hQ _ _ _ _ h (.refl R) vreps_nil))
theorem v_at {e es} (t_e : ST W X n e) (j_es : SS W X n es) : SAt W X n (.cons e es) := fun p wh st Q Xc ok h => fun s R Qr Er hQ hE => by
    simp only [okes_cons, Bool.and_eq_true] at ok
    simp only [wan_cons] at h
    refine fTestAnd (t_e st _ _ ok.1 h s R _ _ (fun b st₁ b' s₁ h₁ N₁ r₁ => ?_) hE)
    cases r₁
    cases b with
    | false => exact hQ _ _ _ _ h₁ N₁ rfl
    | true => exact j_es.at' p wh st₁ _ _ ok.2 h₁ s₁ N₁.rep _ _ (fun b st₂ rv s₂ h₂ N₂ r₂ => hQ _ _ _ _ h₂ (N₁.trans N₂) r₂) fun st' e s' x N x' => hE st' e s' x (N₁.trans N) (x'.back N₁.stp)
omit w c hn in
theorem z_at : SAt W X n .nil := fun p wh st Q Xc ok h => fun s R Qr Er hQ hE => wpF_any (isTrue_and_nil (hQ _ _ _ _ h (.refl R) rfl))
theorem v_ot {e es} (t_e : ST W X n e) (j_es : SS W X n es) : SOt W X n (.cons e es) := fun p wh st Q Xc ok h => fun s R Qr Er hQ hE => by
    simp only [okes_cons, Bool.and_eq_true] at ok
    simp only [wor_cons] at h
    refine fTestOr (t_e st _ _ ok.1 h s R _ _ (fun b st₁ b' s₁ h₁ N₁ r₁ => ?_) hE)
    cases r₁
    cases b with
    | true => exact hQ _ _ _ _ h₁ N₁ rfl
    | false => exact j_es.ot p wh st₁ _ _ ok.2 h₁ s₁ N₁.rep _ _ (fun b st₂ rv s₂ h₂ N₂ r₂ => hQ _ _ _ _ h₂ (N₁.trans N₂) r₂) fun st' e s' x N x' => hE st' e s' x (N₁.trans N) (x'.back N₁.stp)
omit w c hn in
theorem z_ot : SOt W X n .nil := fun p wh st Q Xc ok h => fun s R Qr Er hQ hE => wpF_any (isTrue_or_nil (hQ _ _ _ _ h (.refl R) rfl))
mutual
theorem sndA : ∀ e : E, SE W X n e ∧ ST W X n e
  | .c _ _ => ⟨e_c w c hn, t_of w c hn rfl (e_c w c hn)⟩
  | .loc _ _ => ⟨e_loc w c hn, t_of w c hn rfl (e_loc w c hn)⟩
  | .cel _ _ => ⟨e_cel w c hn, t_of w c hn rfl (e_cel w c hn)⟩
  | .glob _ _ _ => ⟨e_glob w c hn, t_of w c hn rfl (e_glob w c hn)⟩
  | .blt _ _ => ⟨e_blt w c hn, t_of w c hn rfl (e_blt w c hn)⟩
  | .attr o _ _ => ⟨e_attr w c hn (sndA o).1 (sndA o).2, t_of w c hn rfl (e_attr w c hn (sndA o).1 (sndA o).2)⟩
  | .bin _ l r _ => ⟨e_bin w c hn (sndA l).1 (sndA l).2 (sndA r).1 (sndA r).2, t_of w c hn rfl (e_bin w c hn (sndA l).1 (sndA l).2 (sndA r).1 (sndA r).2)⟩
  | .neg e _ => ⟨e_neg w c hn (sndA e).1 (sndA e).2, t_of w c hn rfl (e_neg w c hn (sndA e).1 (sndA e).2)⟩
  | .not e _ => ⟨e_not w c hn (sndA e).1 (sndA e).2, t_not w c hn (sndA e).1 (sndA e).2⟩
  | .and es _ => ⟨e_and w c hn (sndB es), t_and w c hn (sndB es)⟩
  | .or es _ => ⟨e_or w c hn (sndB es), t_or w c hn (sndB es)⟩
  | .cmp1 l _ r _ => ⟨e_cmp1 w c hn (sndA l).1 (sndA l).2 (sndA r).1 (sndA r).2, t_cmp1 w c hn (sndA l).1 (sndA l).2 (sndA r).1 (sndA r).2⟩
  | .cmp2 l _ m _ r _ => ⟨e_cmp2 w c hn (sndA l).1 (sndA l).2 (sndA m).1 (sndA m).2 (sndA r).1 (sndA r).2, t_cmp2 w c hn (sndA l).1 (sndA l).2 (sndA m).1 (sndA m).2 (sndA r).1 (sndA r).2⟩
  | .ite t a b _ => ⟨e_ite w c hn (sndA t).1 (sndA t).2 (sndA a).1 (sndA a).2 (sndA b).1 (sndA b).2, t_ite w c hn (sndA t).1 (sndA t).2 (sndA a).1 (sndA a).2 (sndA b).1 (sndA b).2⟩
  | .tup es _ _ => ⟨e_tup w c hn (sndB es), t_of w c hn rfl (e_tup w c hn (sndB es))⟩
  | .list es _ => ⟨e_list w c hn (sndB es), t_of w c hn rfl (e_list w c hn (sndB es))⟩
  | .idx o i _ => ⟨e_idx w c hn (sndA o).1 (sndA o).2 (sndA i).1 (sndA i).2, t_of w c hn rfl (e_idx w c hn (sndA o).1 (sndA o).2 (sndA i).1 (sndA i).2)⟩
  | .slice o lo hi _ _ => ⟨e_slice w c hn (sndA o).1 (sndA o).2 (sndA lo).1 (sndA lo).2 (sndA hi).1 (sndA hi).2, t_of w c hn rfl (e_slice w c hn (sndA o).1 (sndA o).2 (sndA lo).1 (sndA lo).2 (sndA hi).1 (sndA hi).2)⟩
  | .dict0 _ => ⟨e_dict0 w c hn, t_of w c hn rfl (e_dict0 w c hn)⟩
  | .no => ⟨e_no, fun u_ u_ u_ ok u_ => by cases ok⟩
  | .call f args _ => ⟨e_call w c hn (sndA f).1 (sndA f).2 (sndB args), t_of w c hn rfl (e_call w c hn (sndA f).1 (sndA f).2 (sndB args))⟩
  | .meth o _ args _ _ => ⟨e_meth w c hn (sndA o).1 (sndA o).2 (sndB args), t_of w c hn rfl (e_meth w c hn (sndA o).1 (sndA o).2 (sndB args))⟩
theorem sndB : ∀ es : Es, SS W X n es
  | .nil => ⟨fun u_ u_ u_ u_ u_ hne u_ => by (cases hne), fun u_ u_ u_ u_ u_ hne u_ => by (cases hne), z_es, z_at, z_ot⟩
  | .cons e es => ⟨v_av w c hn (sndA e).1 (sndB es), v_ov w c hn (sndA e).1 (sndB es), v_es w c hn (sndA e).1 (sndB es), v_at w c hn (sndA e).2 (sndB es), v_ot w c hn (sndA e).2 (sndB es)⟩
end
theorem sndE : ∀ (e : E) (st : St) (Q : V → St → Prop) (Xc : St → Prop), okE X.env.scope e = true → wpE (Ot W n) e st Q Xc → Sat VRep W X (eval (toE e) X.env) st Q Xc := fun e => (sndA w c hn e).1
theorem sndO : ∀ (e : E) (st : St) (Q : V → St → Prop) (Xc : St → Prop), (isNo e || okE X.env.scope e) = true → wpE (Ot W n) e st Q Xc → Sat VRep W X (valueOrNone (evalOpt (if isNo e then none else some (toE e)) X.env)) st Q Xc := fun e => snd_o w c hn (sndA w c hn e).1
theorem sndT : ∀ (e : E) (st : St) (Q : Bool → St → Prop) (Xc : St → Prop), okE X.env.scope e = true → wpE (Ot W n) e st (fun v st => onB v fun b => Q b st) Xc → Sat (fun u_ u_ a b => a = b) W X (isTrue (toE e) X.env (eval (toE e) X.env)) st Q Xc := fun e => (sndA w c hn e).2
theorem sndEs : ∀ (es : Es) (p : Pos) (st : St) (Q : List V → St → Prop) (Xc : St → Prop), okEs X.env.scope es = true → wpEs (Ot W n) es st Q Xc → Sat VReps W X (spliced (backTo p (starEach (toEs es) X.env))) st Q Xc := fun es => (sndB w c hn es).es
end
end Lx
namespace Lx
open PySem PySem.W PySem.Calls PyProof.Rows PySem.Spec
section
variable {W : Wd} {X : Cx} {st : St} {s : Shared} {n : Nat}
theorem setItemList_ok (w : WOK W) (c : CxOK X) (R : Rep W X st s) {a : Ad} {k : Int} {t : Tok} {vs : List V} {v : V} {rv : Value} (ha : st.mh a = some (.list vs)) (h0 : 0 ≤ k) (h1 : k.toNat < vs.length) (hv : VRep st.mh s.heap v rv)
    {Qr : Unit → Shared → Prop} {Er} (hQ : ∀ s', Nxt W X st s { st with mh := st.mh.set a (.list (vs.set k.toNat v)) } s' → Qr () s') : wpAny (M W) X.A (setItem (.ref a) (.int k t) rv) Qr Er s := by
  obtain ⟨⟨o, items, m, ho, hc, hd, hsl, hdat, hr, hlim⟩, hH⟩ := R.objs a _ ha
  have hlen := hr.1
  have hr' : VReps st.mh s.heap (vs.set k.toNat v) (items.set k.toNat rv) := by
    refine ⟨by simp [hlen], fun i u x e1 e2 => ?_⟩
    by_cases q : k.toNat = i
    · subst q
      rw [List.getElem?_set_self h1] at e1
      rw [List.getElem?_set_self (by lia)] at e2
      cases e1; cases e2; exact hv
    · rw [List.getElem?_set_ne q] at e1 e2
      exact hr.2 i u x e1 e2
  have N := upd_list (us := vs.set k.toNat v) (its := items.set k.toNat rv) (f := fun x => x.setIfInBounds k.toNat rv) c R ha ho hc hd hsl hdat (by simp) hr' (by rw [List.length_set]; exact hlim)
  have hl : s.heap.IsList a items.toArray := ⟨o, ho, hc, m, hdat⟩
  unfold setItem
  refine wpAny_holding ?_
  refine wpAny_bind (wpAny_sequenceKey hl.typeIs (by decide) ?_)
  refine wpAny_bind (wpAny_callSpecial?_slot (name := PySem.Str.ofString "__setitem__") hl.typeIs PySem.slot_list_setitem (wpAny_call_entry PySem.slot_list_setitem hl.typeIs PySem.entry_list_setitem ?_ (PySem.args_list_setitem _ _ _)))
  have hfit : k < 2 ^ 63 := by unfold LIM at hlim; lia
  show wpAny _ _ (Builtin.List.listSubscript? (.int k t) >>= _) _ _ s
  refine wpAny_bind (wpAny_listSubscript_int (fitsIndex_of h0 hfit) ?_)
  obtain ⟨j, rfl⟩ := Int.eq_ofNat_of_zero_le h0
  have hj : j < items.length := by simpa [hlen] using h1
  show wpAny _ _ ((seqItemAt a j >>= fun r => pure (r.map (j, ·))) >>= _) _ _ s
  refine wpAny_bind (wpAny_bind (wpAny_seqItemAt ho hdat (wpAny_pure ?_)))
  rw [show items.toArray[j]? = some items[j] by simp [hj]]
  show wpAny _ _ (setSeqItemAt a j rv >>= _) _ _ s
  refine wpAny_bind (wpAny_setSeqItemAt ho hdat ?_)
  first
    | exact wpAny_bind (wpAny_pure (wpAny_pure ⟨.none, rfl, wpAny_pure (hQ _ N)⟩))
    | exact wpAny_pure ⟨.none, rfl, wpAny_pure (hQ _ N)⟩
theorem lookup_none {l : List (PySem.Str × Value)} {x : PySem.Str} (h : ∀ p ∈ l, p.1 ≠ x) : l.lookup x = none := by
  induction l with
  | nil => rfl
  | cons p r ih =>
    rw [List.lookup_cons, beq_eq_false_iff_ne.mpr (Ne.symm (h p (.head _)))]
    exact ih fun q hq => h q (.tail _ hq)
theorem lookup_app {l r : List (PySem.Str × Value)} {x : PySem.Str} : (l ++ r).lookup x = (l.lookup x).or (r.lookup x) := by
  induction l with
  | nil => simp
  | cons p l ih =>
    rw [List.cons_append, List.lookup_cons, List.lookup_cons]
    split
    · simp
    · exact ih
theorem bind_ok {mh : MH} {h : Heap} : ∀ {ps : List Nm} {args : List V} {vals : List Value} {loc : Fs}, (∀ i ∈ ps, i < NN) → ps.Nodup → bindF ps args = some loc → VReps mh h args vals →
    ∀ i v, i < NN → loc i = some v → ∃ rv, ((ps.map nm).zip vals).reverse.lookup (nm i) = some rv ∧ VRep mh h v rv := by
  intro ps
  induction ps with
  | nil =>
    intro args vals loc hp nd e r i v hi hv
    cases args with
    | nil => cases e; cases hv
    | cons => cases e
  | cons p ps ih =>
   intro args vals loc hp nd e r i v hi hv
   cases args with
   | nil => cases e
   | cons a args =>
    obtain ⟨x, vals, rfl, r1, r'⟩ := vreps_tail r
    obtain ⟨m, hm, rfl⟩ := Option.map_eq_some_iff.mp e
    rw [List.nodup_cons] at nd
    rw [List.map_cons, List.zip_cons_cons, List.reverse_cons, lookup_app]
    by_cases q : i = p
    · subst q
      have hv : some a = some v := (if_pos rfl).symm.trans hv
      cases hv
      have : ((ps.map nm).zip vals).reverse.lookup (nm i) = none := lookup_none fun z hz => by
        rw [List.mem_reverse] at hz
        have := (List.of_mem_zip hz).1
        obtain ⟨j, hj, e⟩ := List.mem_map.mp this
        rw [← e]
        intro q
        exact nd.1 (nm_inj (hp j (.tail _ hj)) hi q ▸ hj)
      rw [this]
      exact ⟨x, by simp, r1⟩
    · have hv : m i = some v := (if_neg q).symm.trans hv
      obtain ⟨rv, e1, e2⟩ := ih (fun j hj => hp j (.tail _ hj)) nd.2 hm r' i v hi hv
      exact ⟨rv, by rw [e1]; rfl, e2⟩
theorem draw_list {it l : Addr} {items : Array Value} {A : Around} {E : Value → Shared → Prop} {prog : Program} {w : World} (hne : l ≠ it) : ∀ (n i : Nat) (s : Shared) (Q : List Value → Shared → Prop), s.heap.IsListIter it l i → s.heap.IsList l items → i + n ≤ items.size →
    (∀ h', h'.IsListIter it l (i + n) → Heap.SameBut it s.heap h' → Q ((items.toList.drop i).take n) { s with heap := h' }) → wpAny (model prog w) A (draw (.ref it) n) Q E s := by
  intro n
  induction n with
  | zero => exact fun i s Q hit u_ u_ hQ => wpAny_pure (by simpa using hQ s.heap hit (Heap.SameBut.refl ..))
  | succ k ih =>
    intro i s Q hit hl hle hQ
    have hlt : i < items.size := by lia
    show wpAny _ _ (pyNext (.ref it) >>= _) Q E s
    refine wpAny_bind (wpAny_pyNext_list_item hit hl (x := items[i]) (by simp [hlt]) fun h₁ hit₁ hs₁ => ?_)
    refine wpAny_bind (wpAny_holding (ih (i + 1) _ _ hit₁ (hl.extBut hs₁.extBut hne) (by lia) fun h₂ hit₂ hs₂ => wpAny_pure ?_))
    have := hQ h₂ (by rw [show i + (k + 1) = i + 1 + k by lia]; exact hit₂) (hs₁.trans hs₂)
    rw [show items.toList.drop i = items[i] :: items.toList.drop (i + 1) by simp [List.drop_eq_getElem_cons, hlt], List.take_succ_cons] at this
    exact this
theorem unpackItems_list {t : Addr} {items : Array Value} {A : Around} {E : Value → Shared → Prop} {prog : Program} {w : World} {Q : List Value → Shared → Prop} (hh : A.handled = none) (ht : s.heap.IsList t items)
    (hQ : ∀ h', Heap.ExtBut s.heap.objs.size s.heap h' → Q items.toList { s with heap := h' }) : wpAny (model prog w) A (unpackItems (.ref t) items.size none) Q E s := by
  have hlt : t ≠ s.heap.objs.size := by obtain ⟨o, ho, _⟩ := ht; exact Nat.ne_of_lt (Heap.lt_size ho)
  unfold unpackItems notIterableAtAll
  refine wpAny_bind (wpAny_bind (wpAny_specialOf ht.typeIs PySem.slot_list_iter.lookup (wpAny_pure ?_)))
  simp only [Bool.false_eq_true, if_false]
  refine wpAny_bind (wpAny_holding (wpAny_pyIter_list ht ?_))
  refine wpAny_bind (wpAny_holding (draw_list hlt items.size 0 _ _ ⟨_, Heap.get?_push_size _ rfl, rfl, rfl⟩ (ht.push _) (by lia) fun h₁ hit₁ hs₁ => ?_))
  have hall : List.take items.size (List.drop 0 items.toList) = items.toList := by
    rw [List.drop_zero]; exact List.take_of_length_le (by simp)
  rw [hall, if_neg (by simp)]
  refine wpAny_bind (wpAny_holding (wpAny_pyNext_list_end hh hit₁ ((ht.push _).extBut hs₁.extBut hlt) (by simp) fun h₂ he₂ => ?_))
  simp only [Option.isSome_none, Bool.false_eq_true, if_false]
  exact wpAny_pure (hQ h₂ fun b o hb e => he₂ b o hb (hs₁.extBut b o hb (Heap.get?_push_of_some _ e)))
theorem unpack_ok (c : CxOK X) (R : Rep W X st s) {v : V} {rv : Value} {vs : List V} (hv : VRep st.mh s.heap v rv) (hp : partsV st.mh v = some vs) {k : Nat} (hk : k = vs.length) {Qr : List Value → Shared → Prop} {Er}
    (hQ : ∀ rs s', Nxt W X st s st s' → VReps st.mh s'.heap vs rs → Qr rs s') : wpAny (M W) X.A (unpackItems rv k none) Qr Er s := by
  have fin : ∀ (items : List Value) h', Heap.ExtBut s.heap.objs.size s.heap h' → VReps st.mh s.heap vs items → Qr items { s with heap := h' } := fun items h' he hr => by
    have N : Nxt W X st s st { s with heap := h' } := R.grow (fun b o e => he b o (Nat.ne_of_lt (Heap.lt_size e)) e) rfl rfl
    exact hQ _ _ N (N.vs R hr)
  cases v with
  | tup us =>
    cases hp
    obtain ⟨x, rfl⟩ := hv.i_tup
    obtain ⟨items, o, m, ho, hc, hd, hr⟩ := tup_parts hv
    have hl := hr.1
    rw [hk, ← hl, show items.length = items.toArray.size by simp]
    exact unpackItems_tuple c.handled ⟨o, ho, hc, m, hd⟩ fun h' he => by simpa using fin items h' he hr
  | ref x =>
    obtain rfl := hv.i_ref
    have ha := moList_inv hp
    · obtain ⟨⟨o, items, m, ho, hc, _, _, hd, hr, _⟩, _⟩ := R.objs x _ ha
      have hl := hr.1
      rw [hk, ← hl, show items.length = items.toArray.size by simp]
      exact unpackItems_list c.handled ⟨o, ho, hc, m, hd⟩ fun h' he => by simpa using fin items h' he hr
  | _ => cases hp
noncomputable def setAll (m : Fs) : List (Nm × V) → Fs
  | [] => m
  | (i, v) :: r => setAll (m.set i v) r
theorem setTup_all : ∀ {is : List (Nm × P)} {vs : List V} {m m' : Fs}, setTup m is vs = some m' → is.length = vs.length ∧ m' = setAll m ((is.map (·.1)).zip vs) := by
  intro is
  induction is with
  | nil =>
    intro vs m m' h
    cases vs with
    | nil => cases h; exact ⟨rfl, rfl⟩
    | cons => cases h
  | cons q is ih =>
    intro vs m m' h
    cases vs with
    | nil => cases h
    | cons v vs => obtain ⟨h1, h2⟩ := ih h; exact ⟨congrArg Nat.succ h1, h2⟩
theorem setAll_at {l : List (Nm × V)} {m : Fs} {j : Nm} (h : ∀ p ∈ l, p.1 ≠ j) : setAll m l j = m j := by
  induction l generalizing m with
  | nil => rfl
  | cons p r ih =>
    obtain ⟨i, v⟩ := p
    have h1 : ¬ j = i := fun e => h (i, v) (.head _) e.symm
    show setAll (m.set i v) r j = _
    rw [ih fun q hq => h q (.tail _ hq)]
    simp [Fs.set, h1]
theorem setAll_mem {j : Nm} {v : V} : ∀ {l : List (Nm × V)} {m : Fs}, (l.map (·.1)).Nodup → (j, v) ∈ l → setAll m l j = some v := by
  intro l
  induction l with
  | nil => intro m _ h; cases h
  | cons p r ih =>
    intro m nd h
    obtain ⟨i, u⟩ := p
    rw [List.map_cons, List.nodup_cons] at nd
    rcases List.mem_cons.mp h with e | h
    · cases e
      show setAll (m.set j v) r j = _
      rw [setAll_at fun q hq e => nd.1 (List.mem_map.mpr ⟨q, hq, e⟩)]
      simp [Fs.set]
    · exact ih nd.2 h
theorem setAll_rev {l : List (Nm × V)} {m : Fs} (nd : (l.map (·.1)).Nodup) : setAll m l.reverse = setAll m l := by
  funext j
  by_cases h : ∃ v, (j, v) ∈ l
  · obtain ⟨v, h⟩ := h
    have nd' : (l.reverse.map (·.1)).Nodup := by
      rw [List.map_reverse]
      exact (List.reverse_perm _).symm.nodup nd
    rw [setAll_mem nd h, setAll_mem nd' (List.mem_reverse.mpr h)]
  · have h1 : ∀ p ∈ l, p.1 ≠ j := fun p hp e => h ⟨p.2, by rw [← e]; exact hp⟩
    rw [setAll_at h1, setAll_at fun p hp => h1 p (List.mem_reverse.mp hp)]
theorem stores_ok (c : CxOK X) {T : Nm × P → Value → Sem Unit} (hT : ∀ x v (s : Shared) (Q : Unit → Shared → Prop) (E : Value → Shared → Prop), wpAny (M W) X.A (storeName X.env (nm x.1) v) Q E s → wpAny (M W) X.A (T x v) Q E s) {Er : Value → Shared → Prop} :
    ∀ (is : List (Nm × P)) (vs : List V) (rs : List Value) (st : St) (s : Shared) (Qr : Unit → Shared → Prop), (is.all fun x => okLoc X.env.scope x.1) = true → is.length = vs.length → Rep W X st s → VReps st.mh s.heap vs rs →
      (∀ s', Nxt W X st s { st with loc := setAll st.loc ((is.map (·.1)).zip vs) } s' → Qr () s') → wpAny (M W) X.A (assignInOrder (is.map T) rs) Qr Er s := by
  intro is
  induction is with
  | nil =>
    intro vs rs st s Qr _ hl R hv hQ
    have : vs = [] := List.eq_nil_of_length_eq_zero hl.symm
    subst this
    exact wpAny_pure (hQ _ (.refl R))
  | cons i is ih =>
   intro vs rs st s Qr ok hl R hv hQ
   cases vs with
   | nil => cases hl
   | cons v vs =>
    obtain ⟨r, rs, rfl, r1, hv'⟩ := vreps_tail hv
    have ok := Bool.and_eq_true_iff.mp ok
    show wpAny _ _ (holding rs (T i r) >>= fun u_ => assignInOrder (is.map T) rs) _ _ _
    refine wpAny_bind (wpAny_holding (hT _ _ _ _ _ (store_ok c R ok.1 r1 fun s₁ N₁ => ?_)))
    exact ih vs rs _ s₁ _ ok.2 (Nat.succ.inj hl) N₁.rep (N₁.vs R hv') fun s' N' => hQ _ (N₁.trans N')
end
noncomputable def sameLine : List (Nm × P) → Bool
  | [] => true
  | (_, p) :: r => r.all fun x => x.2.l == p.l
noncomputable def isTup (e : E) : Option Es := @E.casesOn (fun u_ => Option Es) e (fun u_ u_ => none) (fun u_ u_ => none) (fun u_ u_ => none) (fun u_ u_ u_ => none) (fun u_ u_ => none) (fun u_ u_ u_ => none) (fun u_ u_ u_ u_ => none) (fun u_ u_ => none) (fun u_ u_ => none) (fun u_ u_ => none) (fun u_ u_ => none) (fun u_ u_ u_ u_ => none) (fun u_ u_ u_ u_ u_ u_ => none) (fun u_ u_ u_ u_ => none) (fun es u_ u_ => some es) (fun u_ u_ => none) (fun u_ u_ u_ => none) (fun u_ u_ u_ u_ u_ => none) (fun u_ => none) none (fun u_ u_ u_ => none) (fun u_ u_ u_ u_ u_ => none)
noncomputable def swOK (is : List (Nm × P)) (e : E) : Bool := match isTup e with
  | some es => (is.length == 2 || is.length == 3) && lenEs es == is.length && sameLine is && ((toEs es).all (foldedForSure 8) || !(toEs es).all (constantsAlone 8))
  | none => true
section
variable {W : Wd} {X : Cx} {st : St} {s : Shared} {n : Nat}
theorem tup_of {e : E} {es : Es} (h : isTup e = some es) : ∃ k p, toE e = .Tuple (toEs es) k (toP p) := by
  cases e <;> first | (cases h; done) | skip
  cases h
  exact ⟨_, _, rfl⟩
theorem no_star {f : PySem.Expr → Bool} (hf : ∀ e : E, f (toE e) = false) : ∀ es : Es, (toEs es).any f = false
  | .nil => rfl
  | .cons e es => by rw [tes_cons, List.any_cons, no_star hf es, hf]; rfl
theorem names_of {env : Env} {l : Nat} {f : PySem.Expr → Option PySem.Str} (hf : ∀ id pos, f (.Name id pos) = if env.kindOf id == some .local && pos.line == l then some id else none) {is : List (Nm × P)} (h1 : (is.all fun x => okLoc env.scope x.1) = true) (h2 : (is.all fun x => x.2.l == l) = true) :
    (is.map fun x => PySem.Expr.Name (nm x.1) (toP x.2)).filterMap f = is.map fun x => nm x.1 := by
  induction is with
  | nil => rfl
  | cons x is ih =>
    rw [List.all_cons, Bool.and_eq_true] at h1 h2
    have h := h1.1
    simp only [okLoc, Bool.and_eq_true, decide_eq_true_eq, beq_iff_eq] at h
    have hk : env.kindOf (nm x.1) = some .local := h.2
    have : f (.Name (nm x.1) (toP x.2)) = some (nm x.1) := (hf _ _).trans (if_pos (by rw [hk, show ((toP x.2).line == l) = true from h2.1]; rfl))
    rw [List.map_cons, List.filterMap_cons_some this, List.map_cons, ih h1.2 h2.2]
theorem dups_of {l : List PySem.Str} (h : l.Nodup) : l.eraseDups = l := by
  induction l with
  | nil => rfl
  | cons a l ih =>
    obtain ⟨h1, h2⟩ := List.nodup_cons.mp h
    rw [List.eraseDups_cons, List.filter_eq_self.mpr fun b hb => by rw [Bool.not_eq_true', beq_eq_false_iff_ne]; exact fun e => h1 (e ▸ hb), ih h2]
theorem swapped_ok (c : CxOK X) {is : List (Nm × P)} {k : Nat} {e : E} {tp : P} (hl : (is.all fun x => okLoc X.env.scope x.1) = true) (hd : (is.map (·.1)).Nodup) (hs : swOK is e = true) :
    swappedStores [.Tuple (is.map fun x => .Name (nm x.1) (toP x.2)) k (toP tp)] (toE e) X.env = pure none ∨ swappedStores [.Tuple (is.map fun x => .Name (nm x.1) (toP x.2)) k (toP tp)] (toE e) X.env = pure (some (is.map fun x => nm x.1)) := by
  cases he : isTup e with
  | some es =>
    have hs : ((is.length == 2 || is.length == 3) && lenEs es == is.length && sameLine is && ((toEs es).all (foldedForSure 8) || !(toEs es).all (constantsAlone 8))) = true := by
      unfold swOK at hs; rw [he] at hs; exact hs
    simp only [Bool.and_eq_true, Bool.or_eq_true, beq_iff_eq] at hs
    obtain ⟨⟨⟨h23, hlen⟩, hline⟩, hfold⟩ := hs
    obtain ⟨k', p', hE⟩ := tup_of he
    rw [hE]
    have hbk : X.env.blockKind = .function := by unfold Env.blockKind; rw [c.kind]; rfl
    have hnames : ∃ l, ((is.map fun x => PySem.Expr.Name (nm x.1) (toP x.2)).head?.map (·.pos.line)).getD 0 = l ∧ (is.all fun x => x.2.l == l) = true := by
      cases is with
      | nil => exact ⟨_, rfl, rfl⟩
      | cons q r =>
        refine ⟨q.2.l, rfl, ?_⟩
        have hline : (r.all fun x => x.2.l == q.2.l) = true := hline
        rw [List.all_cons, hline, beq_self_eq_true]; rfl
    obtain ⟨l, hl1, hl2⟩ := hnames
    have nd : (is.map fun x => nm x.1).Nodup := by
      have : (is.map fun x => nm x.1) = (is.map (·.1)).map nm := by rw [List.map_map]; rfl
      rw [this]
      have hlt : ∀ i ∈ is.map (·.1), i < NN := fun i hi => by
        obtain ⟨x, hx, rfl⟩ := List.mem_map.mp hi
        have := List.all_eq_true.mp hl x hx
        simp only [okLoc, Bool.and_eq_true, decide_eq_true_eq] at this
        exact this.1
      generalize is.map (·.1) = js at hd hlt
      induction js with
      | nil => exact List.nodup_nil
      | cons j js ih =>
        rw [List.nodup_cons] at hd
        rw [List.map_cons, List.nodup_cons]
        refine ⟨fun hm => ?_, ih hd.2 fun i hi => hlt i (.tail _ hi)⟩
        obtain ⟨j', hj', e⟩ := List.mem_map.mp hm
        exact hd.1 (nm_inj (hlt _ (.tail _ hj')) (hlt _ (.head _)) e ▸ hj')
    have hdl : (is.map fun x => nm x.1).eraseDups.length = (is.map fun x => nm x.1).length := congrArg List.length (dups_of nd)
    have c1 : (!((is.map fun x => PySem.Expr.Name (nm x.1) (toP x.2)).length == 2 || (is.map fun x => PySem.Expr.Name (nm x.1) (toP x.2)).length == 3) || (toEs es).length != (is.map fun x => PySem.Expr.Name (nm x.1) (toP x.2)).length || X.env.blockKind != .function) = false := by
      rw [hbk, len_toEs, List.length_map, hlen]
      rcases h23 with h | h <;> simp [h]
    have c2 : ((is.map fun x => nm x.1).length != (is.map fun x => PySem.Expr.Name (nm x.1) (toP x.2)).length || (is.map fun x => nm x.1).eraseDups.length != (is.map fun x => nm x.1).length) = false := by
      rw [hdl]; simp
    have e1 : ∀ (b : Bool) (a d : Sem (Option (List PySem.Str))), b = false → (if b = true then a else d) = d := fun b a d h => by rw [h]; rfl
    have e2 : ∀ (b : Bool) (a d : Sem (Option (List PySem.Str))), b = true → (if b = true then a else d) = a := fun b a d h => by rw [h]; rfl
    have top : swappedStores [.Tuple (is.map fun x => .Name (nm x.1) (toP x.2)) k (toP tp)] (.Tuple (toEs es) k' (toP p')) X.env = (if (toEs es).all (foldedForSure 8) = true then pure none else (if (toEs es).all (constantsAlone 8) = true then (do unsupported "assign.tuple-of-constant-expressions:order-of-the-stores"; pure (some (is.map fun x => nm x.1))) else pure (some (is.map fun x => nm x.1)))) := by
      unfold swappedStores
      refine (e1 _ _ _ c1).trans ((e1 _ _ _ (no_star (fun e => by cases e <;> rfl) es)).trans ?_)
      dsimp only
      rw [hl1]
      generalize hN : List.filterMap _ (List.map (fun x => PySem.Expr.Name (nm x.1) (toP x.2)) is) = N
      have hN' : N = is.map fun x => nm x.1 := hN.symm.trans (names_of (fun u_ u_ => rfl) hl hl2)
      subst hN'
      exact (e1 _ _ _ c2)
    rw [top]
    cases hf : (toEs es).all (foldedForSure 8) with
    | true => exact .inl (e2 _ _ _ rfl)
    | false =>
      rcases hfold with h | h
      · rw [hf] at h; cases h
      · right
        refine (e1 _ _ _ rfl).trans (e1 _ _ _ ?_)
        simpa using h
  | none =>
    left
    cases e <;> first | (cases he; done) | rfl
theorem each_tuple (elts : List PySem.Expr) (k : Nat) (tpos : Pos) (env : Env) : (assignEach [.Tuple elts k tpos] env).map (·.2) = [assign (.Tuple elts k tpos) env] := rfl
theorem stores_none (env : Env) (v : Value) (l : List (Value → Sem Unit)) : assignStores env v none l = (do assignAll v l; pure .next) := rfl
theorem stores_some (env : Env) (v : Value) (names : List PySem.Str) (l : List (Value → Sem Unit)) : assignStores env v (some names) l = (do
      rule "assign.swapped-stores"
      let items ← unpackItems v names.length none
      assignInOrder (names.reverse.map fun n => bindName env n) items.reverse
      pure .next) := rfl
theorem one_tuple (elts : List PySem.Expr) (k : Nat) (tpos : Pos) (env : Env) (v : Value) : assignAll v [assign (.Tuple elts k tpos) env] = (do standAt tpos; unpack v (assignEach elts env)) := rfl
theorem each_name (x : PySem.Str) (p : Pos) (r : List PySem.Expr) (env : Env) : assignEach (.Name x p :: r) env = (false, assign (.Name x p) env) :: assignEach r env := rfl
theorem assignEach_names {env : Env} : ∀ is : List (Nm × P), (assignEach (is.map fun x => .Name (nm x.1) (toP x.2)) env) = is.map fun x => (false, assign (.Name (nm x.1) (toP x.2)) env)
  | [] => rfl
  | x :: is => by
    rw [List.map_cons, List.map_cons, each_name, assignEach_names is]
theorem assignTup_ok (w : WOK W) (c : CxOK X) (R : Rep W X st s) {is : List (Nm × P)} {k : Nat} {e : E} {tp : P} {v : V} {rv : Value} {vs : List V} {m : Fs} (hv : VRep st.mh s.heap v rv) (hp : partsV st.mh v = some vs) (hm : setTup st.loc is vs = some m)
    (hl : (is.all fun x => okLoc X.env.scope x.1) = true) (hd : (is.map (·.1)).Nodup) (hs : swOK is e = true) {Qr : Flow → Shared → Prop} {Er} (hQ : ∀ s', Nxt W X st s { st with loc := m } s' → Qr .next s') :
    wpAny (M W) X.A (do assignStores X.env rv (← swappedStores [.Tuple (is.map fun x => .Name (nm x.1) (toP x.2)) k (toP tp)] (toE e) X.env) ((assignEach [.Tuple (is.map fun x => .Name (nm x.1) (toP x.2)) k (toP tp)] X.env).map (·.2))) Qr Er s := by
  obtain ⟨hlen, rfl⟩ := setTup_all hm
  rcases swapped_ok (k := k) (tp := tp) c hl hd hs with h | h
  · rw [h]
    refine wpAny_bind (wpAny_pure ?_)
    rw [each_tuple, stores_none]
    refine wpAny_bind ?_
    rw [one_tuple]
    refine wpAny_bind (wpAny_standAt ?_)
    rw [assignEach_names]
    unfold unpack
    have hst : (is.map fun x => (false, assign (.Name (nm x.1) (toP x.2)) X.env)).findIdx? (·.1) = none := by
      rw [List.findIdx?_eq_none_iff]
      intro x hx
      obtain ⟨y, _, rfl⟩ := List.mem_map.mp hx
      rfl
    rw [hst, List.length_map]
    refine wpAny_bind (wpAny_holding (unpack_ok c R hv hp hlen fun rs s₁ N₁ r₁ => ?_))
    rw [List.map_map]
    exact stores_ok c (T := fun x => assign (.Name (nm x.1) (toP x.2)) X.env) (fun x v s Q E h => PyProof.Rows.assign_Name h) is vs rs st s₁ _ hl hlen N₁.rep r₁ fun s' N' => wpAny_pure (hQ _ (N₁.trans N'))
  · rw [h]
    refine wpAny_bind (wpAny_pure ?_)
    rw [stores_some, List.length_map]
    refine wpAny_bind (wpAny_rule (wpAny_bind (unpack_ok c R hv hp hlen fun rs s₁ N₁ r₁ => wpAny_bind ?_)))
    have e1 : ((is.map fun x => nm x.1).reverse.map fun n => bindName X.env n) = is.reverse.map fun x => bindName X.env (nm x.1) := by
      rw [← List.map_reverse, List.map_map]; rfl
    rw [e1]
    refine stores_ok c (T := fun x => bindName X.env (nm x.1)) (fun x v s Q E h => wpAny_bindName h) is.reverse vs.reverse rs.reverse st s₁ _ (by rw [List.all_reverse]; exact hl) (by simp [hlen]) N₁.rep (vreps_rev r₁) fun s' N' => wpAny_pure (hQ _ ?_)
    have e2 : ((is.reverse.map (·.1)).zip vs.reverse) = ((is.map (·.1)).zip vs).reverse := by
      rw [List.map_reverse, List.zip_eq_zipWith, List.zip_eq_zipWith, ← List.reverse_zipWith (by simp [hlen])]
    rw [e2, setAll_rev] at N'
    · exact N₁.trans N'
    · rw [List.map_fst_zip (by simp [hlen])]
      exact hd
end
end Lx
namespace Lx
open PySem PySem.W PySem.Calls PyProof.Rows PySem.Spec
section
variable {W : Wd} {X : Cx} {st : St} {s : Shared} {n : Nat}
theorem arm_raise (exc : PySem.Expr) (pos : Pos) (env : Env) : exec (.Raise (some exc) none pos) env = (do
    standAt pos
    let xv ← (do let v ← eval exc env; standAt pos; pure v)
    let cv ← (pure none : Sem (Option Value))
    let e ← holding cv.toList (excFromValue xv "exceptions must derive from BaseException")
    if let some cv := cv then
      let c ← if cv == .none then pure .none else holding [e] (excFromValue cv "exception causes must derive from BaseException")
      setField e 3 c
      setField e 4 (.bool true)
    let e ← if ← isType xv then holding [e] (raisedFor xv e) else raisedInstance e
    setFlight e none
    raiseNew e) := rfl
theorem raise_rest (w : WOK W) (c : CxOK X) (R : Rep W X st s) {a C : Ad} {d : Option Ad} (ha : st.mh a = some (.exc C d)) {Qr : Flow → Shared → Prop} {Er : Value → Shared → Prop} (hE : Er (.ref a) s) :
    wpAny (M W) X.A (do
    let cv ← (pure none : Sem (Option Value))
    let e ← holding cv.toList (excFromValue (.ref a) "exceptions must derive from BaseException")
    if let some cv := cv then
      let c ← if cv == .none then pure .none else holding [e] (excFromValue cv "exception causes must derive from BaseException")
      setField e 3 c
      setField e 4 (.bool true)
    let e ← if ← isType (.ref a) then holding [e] (raisedFor (.ref a) e) else raisedInstance e
    setFlight e none
    raiseNew e) Qr Er s := by
  obtain ⟨⟨rfl, ox, vs, a0, ho, hc, hd, hdat, h0, h1⟩, _⟩ := R.objs a _ ha
  obtain ⟨cd, hcd, hmro, _⟩ := w.kf.exc
  have X' := w.kin.keeps R.stays
  have sub : Looks (M W) s.heap (isSubtype (.ref 87) (.type "BaseException")) true := looks_mroIn X' (by unfold mroIn; rw [hcd, Option.bind_some, hmro]; rfl)
  have isT : ∀ {β : Type} {f : Bool → Sem β} {Q : β → Shared → Prop} {E}, wpAny (M W) X.A (f false) Q E s → wpAny (M W) X.A (isType (.ref a) >>= f) Q E s := fun {β f Q E} h => by
    refine wpAny_bind ?_
    show wpAny _ _ (loadPart a (some headPart) >>= _) _ _ _
    refine wpAny_bind (wpAny_loadPart ho ?_)
    rw [hdat]
    exact wpAny_pure h
  refine wpAny_bind (wpAny_pure (wpAny_bind (wpAny_holding ?_)))
  unfold excFromValue isExcClass
  refine wpAny_bind (isT (wpAny_pure ?_))
  simp only [Bool.false_eq_true, if_false]
  have ty : ∀ {Q : Value → Shared → Prop} {E}, Q (.ref 87) s → wpAny (M W) X.A (typeOf (.ref a)) Q E s := fun {Q E} h => by
    show wpAny _ _ (loadPart a (some headPart) >>= _) _ _ _
    refine wpAny_bind (wpAny_loadPart ho (wpAny_pure ?_))
    rw [hc]; exact h
  refine wpAny_bind ?_
  unfold isInstance
  refine wpAny_bind (ty (sub.here ?_))
  simp only [if_true]
  refine wpAny_pure ?_
  refine isT ?_
  simp only [Bool.false_eq_true, if_false]
  refine wpAny_bind ?_
  unfold raisedInstance
  refine wpAny_bind (ty (wpAny_bind ((looks_typeIn X' w.kf.exctype).here ?_)))
  rw [if_pos (by decide)]
  refine wpAny_pure ?_
  refine wpAny_bind ?_
  unfold setFlight
  refine wpAny_bind (wpAny_field ho hdat h1 ?_)
  rw [if_neg (by simp)]
  refine wpAny_pure ?_
  unfold raiseNew
  refine wpAny_bind (wpAny_handled ?_)
  rw [c.handled]
  exact wpAny_bind (wpAny_pure (wpAny_throw hE))
theorem del_nxt (c : CxOK X) (R : Rep W X st s) {a C : Ad} {d : Option Ad} (ha : st.mh a = some (.exc C d)) : Nxt W X st s { st with mh := st.mh.del a } s := by
  have sub : ∀ b o, (st.mh.del a) b = some o → st.mh b = some o ∧ b ≠ a := fun b o h => by
    unfold MH.del at h
    split at h
    · cases h
    · exact ⟨h, by assumption⟩
  have non : ∀ b, st.mh b = none → (st.mh.del a) b = none := by
    intro b h
    unfold MH.del
    by_cases q : b = a
    · rw [if_pos q]
    · rw [if_neg q, h]
  have up : ∀ b o xs n, s.heap.get? b = some o → st.mh b = none → o.data = .seq xs n → (st.mh.del a) b = none ∧ ∃ sl, s.heap.get? b = some { o with slots := sl } := fun b o u_ u_ e m u_ => ⟨non b m, o.slots, e⟩
  refine ⟨⟨R.stays, ?_, fun b o h => ?_, R.ff, fun b hb => non b (R.fr b hb), fun p hp => ?_, R.gens, R.os⟩, ⟨fun b o e u_ u_ u_ => e, fun b o e u_ u_ => ⟨o.slots, e⟩, fun b h h' => absurd (non b h) h', fun b o e => ⟨o, e⟩⟩⟩
  · obtain ⟨m, hm, q⟩ := R.ns
    refine ⟨m, hm, fun i v hi hv => ?_⟩
    obtain ⟨rv, l, r⟩ := q i v hi hv
    exact ⟨rv, l, vrep_mono up r⟩
  · obtain ⟨h1, h2⟩ := sub b o h
    exact ⟨orep_mono up (fun u_ e => e) (R.objs b o h1).1, (R.objs b o h1).2⟩
  · obtain ⟨h1, h2⟩ := R.cel p hp
    exact ⟨non _ h1, h2⟩
end
end Lx
namespace Lx
open PySem PySem.W PySem.Calls PyProof.Rows PySem.Spec
noncomputable def relF (mh : MH) (h : Heap) : Fl → Flow → Prop
  | .next, .next => True
  | .brk, .brk => True
  | .ret v, .ret rv => VRep mh h v rv
  | _, _ => False
section
variable {W : Wd} {X : Cx} {st : St} {s : Shared} {n : Nat}
theorem sub_type_tuple : isSubtype (.type "type") (.type "tuple") = pure false := by rw [isSubtype_type]; kernel_rfl
theorem clsIn_inv {K : Frag} {C : Addr} {cd : ClassData} (e : clsIn K C = some cd) : ∃ oc od sl, K.lookup C = some ⟨oc, od, .cls cd, sl⟩ := by
  unfold clsIn at e
  cases h : K.lookup C with
  | none => rw [h] at e; cases e
  | some o =>
    rw [h] at e
    obtain ⟨oc, od, dt, sl⟩ := o
    cases dt <;> first | (cases e; done) | (cases e; exact ⟨_, _, _, rfl⟩)
theorem excMatches_ok (w : WOK W) (R : Rep W X st s) {e : Addr} {oe : Obj} {vs : Array Value} {A : Around} (he : s.heap.get? e = some oe) (hc : oe.cls = .ref 87) {Q : Bool → Shared → Prop} {E} (hQ : Q true s) :
    wpAny (M W) A (excMatches (.ref e) (.ref 87)) Q E s := by
  obtain ⟨cd, hcd, hmro, _⟩ := w.kf.exc
  have X' := w.kin.keeps R.stays
  obtain ⟨oc, od, sl, hl⟩ := clsIn_inv hcd
  have h87 := X' _ _ hl
  have sub : Looks (M W) s.heap (isSubtype (.ref 87) (.type "BaseException")) true := looks_mroIn X' (by unfold mroIn; rw [hcd, Option.bind_some, hmro]; rfl)
  have sub2 : Looks (M W) s.heap (isSubtype (.ref 87) (.ref 87)) true := looks_mroIn X' (by unfold mroIn; rw [hcd, Option.bind_some, hmro]; rfl)
  have ty : ∀ {Q : Value → Shared → Prop} {E}, Q (.ref 87) s → wpAny (M W) A (typeOf (.ref e)) Q E s := fun {Q E} h => by
    show wpAny _ _ (loadPart e (some headPart) >>= _) _ _ _
    refine wpAny_bind (wpAny_loadPart he (wpAny_pure ?_))
    rw [hc]; exact h
  unfold excMatches
  refine wpAny_bind ?_
  unfold isInstance
  refine wpAny_bind ((looks_typeIn X' w.kf.exctype).here (wpAny_of_eq sub_type_tuple ?_))
  simp only [Bool.false_eq_true, if_false]
  refine wpAny_bind (wpAny_pure ?_)
  rw [List.forIn_cons]
  refine wpAny_bind (wpAny_bind (wpAny_bind ?_))
  unfold isExcClass
  refine wpAny_bind ?_
  show wpAny _ _ (loadPart 87 (some headPart) >>= _) _ _ _
  refine wpAny_bind (wpAny_loadPart h87 (wpAny_pure ?_))
  simp only [if_true]
  refine sub.here ?_
  rw [if_neg (show ¬ ((!true) = true) by decide)]
  refine wpAny_pure ?_
  dsimp only
  rw [List.forIn_nil]
  refine wpAny_pure ?_
  refine wpAny_bind (ty ?_)
  rw [List.forIn_cons]
  refine wpAny_bind (wpAny_bind (wpAny_bind (sub2.here ?_)))
  simp only [if_true]
  exact wpAny_pure (wpAny_pure (wpAny_pure hQ))
theorem catch_ok (w : WOK W) (c : CxOK X) {st₀ : St} {s₀ : Shared} (R₀ : Rep W X st₀ s₀) {e : Addr} (N : Nxt W X st₀ s₀ st s) (x : Exc X e s₀.heap st.mh s.heap) {g : Nm} {gp hp : P} {i : Nm} {p1 : P} {b : Bool} {p2 : P} {k : Nat} {p3 p4 : P}
    (okl : okE X.env.scope (.loc i p1) = true) (okc : okE X.env.scope (.glob g (.stat 87) gp) = true)
    {Q : Fl → St → Prop} (q : match st.loc i with | some v => [v, V.bool b].length ≤ LIM ∧ Q (.ret (.tup [v, .bool b])) st | none => False)
    {Qr : Flow → Shared → Prop} {Er : Value → Shared → Prop} (hQ : ∀ f st' g s', Q f st' → Nxt W X st₀ s₀ st' s' → relF st'.mh s'.heap f g → Qr g s') :
    wpAny (M W) X.A (noteFrame (.ref e) X.env) (fun u_ s₂ => wpAny (M W) X.A (setFlight (.ref e) none) (fun u_ s₃ => wpAny (M W) X.A (handleBy (.ref e) X.env [.ExceptHandler (some (.Name (nm g) (toP gp))) none [.Return (some (.Tuple [.Name (nm i) (toP p1), .Constant (.bool b) 0 (toP p2)] k (toP p3))) (toP p4)] (toP hp)]) Qr Er s₃) Er s₂) Er s := by
  simp only [oke_loc, Bool.and_eq_true, decide_eq_true_eq, Bool.not_eq_true', beq_iff_eq] at okl
  (refine absG fun G_ hG_ => ?_; (rcases okl with ⟨⟨hi, hd⟩, hl⟩) <;> (refine hG_ ?_; clear hG_ G_))
  refine noteFrame_ok c R₀ N x fun s₁ N₁ x₁ => setFlight_ok c R₀ N₁ x₁ fun s₂ N₂ x₂ => ?_
  have x₂' := x₂
  (refine absG fun G_ hG_ => ?_; (rcases x₂' with ⟨T, oe, vs, oT, ts, a0, n0, nT, m0, mT, he, hcls, hdat, _⟩) <;> (refine hG_ ?_; clear hG_ G_))
  refine wpAny_handleBy_cons (codeAny_handlers_test ?_) (by intro q; cases q)
  simp only [oke_glob, Bool.and_eq_true, decide_eq_true_eq, Bool.not_eq_true', beq_iff_eq, List.any_eq_true] at okc
  (refine absG fun G_ hG_ => ?_; (rcases okc with ⟨⟨hdc, hlc⟩, p', hp', e1, e2⟩) <;> (refine hG_ ?_; clear hG_ G_))
  (refine absG fun G_ hG_ => ?_; (rcases w.top with ⟨pp, loose, mg, mb, TT⟩) <;> (refine hG_ ?_; clear hG_ G_))
  (refine absG fun G_ hG_ => ?_; (rcases w.kf.glob p' hp' with ⟨rv, g1, g2⟩) <;> (refine hG_ ?_; clear hG_ G_))
  rw [beqV_eq e2] at g2
  rw [e1] at g1
  have hrv : rv = .ref 87 := by have := g2 (fun u_ => none) {}; cases this; rfl
  subst hrv
  show wpAny _ _ (eval (.Name (nm g) (toP gp)) X.env) _ _ _
  refine Name_function_global c.kind hlc (loadGlobal_global (by rw [c.globals]; exact TT.g.keeps N₂.rep.stays) (mg_of w.kin TT.g g1) ?_) hdc
  refine excMatches_ok (vs := vs) w N₂.rep he hcls ?_
  simp only [if_true]
  refine codeAny_handlers_suite (setFlight_ok c R₀ N₂ x₂ fun s₃ N₃ x₃ => ?_)
  cases hv : st.loc i with
  | some v =>
    rw [hv] at q
    (refine absG fun G_ hG_ => ?_; (rcases q with ⟨q1, q2⟩) <;> (refine hG_ ?_; clear hG_ G_))
    (refine absG fun G_ hG_ => ?_; (rcases N₃.rep.ns with ⟨m, hm, qn⟩) <;> (refine hG_ ?_; clear hG_ G_))
    (refine absG fun G_ hG_ => ?_; (rcases qn i v hi hv with ⟨rv, ⟨l1, _⟩, vr⟩) <;> (refine hG_ ?_; clear hG_ G_))
    refine wpAny_execs_cons (wpAny_Return_some (PyProof.Rows.Tuple_ (PyProof.Rows.args_cons (wpAny_Name (wpAny_loadName_local c.kind hl (by rw [c.locals]; exact hm) (l1 hl) ?_) hd) rfl)))
    refine PyProof.Rows.args_cons (Constant_bool ?_) rfl
    refine PyProof.Rows.args_nil ?_
    exact newTuple_ok c N₃.rep (vreps_cons vr (vreps_cons (.bool b) vreps_nil)) q1 fun rv s' N' r' => hQ (.ret _) _ (.ret rv) _ q2 (N₃.trans N') r'
  | none => rw [hv] at q; exact q.elim
end
end Lx
namespace Lx
open PySem PySem.W PySem.Calls PyProof.Rows PySem.Spec
section
variable {W : Wd} {X : Cx} {st st₀ : St} {s s₀ : Shared} {n : Nat}
theorem bump_nxt (c : CxOK X) (R₀ : Rep W X st₀ s₀) (N : Nxt W X st₀ s₀ st s) {S : List Addr} {h' : Heap} {tk : Nat} (k : ∀ b o, s.heap.get? b = some o → b ∉ S → h'.get? b = some o)
    (hS : ∀ a ∈ S, s₀.heap.get? a = none ∧ st.mh a = none ∧ ∃ o vs, s.heap.get? a = some o ∧ o.data = .fields vs) : Nxt W X st₀ s₀ st { s with heap := h', toks := tk } :=
  quake_nxt (tk := tk) (dr := s.drawn) c N (S := S) ⟨fun a o e n => k a o e n, fun b o e nf => ⟨o.slots, k b o e fun hb => by obtain ⟨_, _, o', vs, e', d⟩ := hS b hb; rw [e] at e'; cases e'; exact nf vs d⟩⟩ (fun a ha => .inl (hS a ha)) R₀.stays
theorem rec_none (R : Rep W X st s) {a : Addr} {o : Obj} {T : String} {vs : Array Value} (e : s.heap.get? a = some o) (hc : o.cls = .type T) (hd : o.data = .fields vs) : st.mh a = none := by
  cases q : st.mh a with
  | none => rfl
  | some mo =>
    exfalso
    have := (R.objs a mo q).1
    cases mo with
    | inst C d => obtain ⟨_, ox, e', _, _, d'⟩ := this; rw [e] at e'; cases e'; rw [hd] at d'; cases d'
    | exc C d => obtain ⟨_, ox, _, _, e', c', _⟩ := this; rw [e] at e'; cases e'; rw [hc] at c'; cases c'
    | flds fs => obtain ⟨_, ox, _, _, e', d', _⟩ := this; rw [e] at e'; cases e'; rw [hd] at d'; cases d'
    | list vs => obtain ⟨ox, _, _, e', _, _, _, d', _⟩ := this; rw [e] at e'; cases e'; rw [hd] at d'; cases d'
    | barr bs => obtain ⟨ox, e', _, _, _, d', _⟩ := this; rw [e] at e'; cases e'; rw [hd] at d'; cases d'
    | bdict kvs => obtain ⟨_, ⟨ox, _, _, e', _, d', _⟩, _⟩ := this; rw [e] at e'; cases e'; rw [hd] at d'; cases d'
theorem rec_keeps (c : CxOK X) (R : Rep W X st s) {st' : St} {s' : Shared} (N : Nxt W X st s st' s') {a : Addr} {o : Obj} {T : String} {vs : Array Value} (e : s.heap.get? a = some o) (hc : o.cls = .type T) (hd : o.data = .fields vs) : s'.heap.get? a = some o := by
  refine N.stp.keep a o e (rec_none R e hc hd) ?_ ?_
  · intro q
    obtain ⟨m, ⟨oL, es, ep, eL, dL, _⟩, _⟩ := R.ns
    rw [q, eL] at e; cases e; rw [hd] at dL; cases dL
  · intro q
    have : a ∈ (X.env :: X.outer).filterMap (·.frame) := by rw [List.filterMap_cons, c.frame]; exact .tail _ q
    obtain ⟨_, o', e', nf⟩ := R.ff.mem this
    rw [e] at e'; cases e'; exact nf _ hd
theorem assignT_ok (c : CxOK X) (R : Rep W X st s) {is : List (Nm × P)} {k : Nat} {tp : P} {v : V} {rv : Value} {vs : List V} {m : Fs} (hv : VRep st.mh s.heap v rv) (hp : partsV st.mh v = some vs) (hm : setTup st.loc is vs = some m)
    (hl : (is.all fun x => okLoc X.env.scope x.1) = true) {Qr : Unit → Shared → Prop} {Er} (hQ : ∀ s', Nxt W X st s { st with loc := m } s' → Qr () s') :
    wpAny (M W) X.A (assign (.Tuple (is.map fun x => .Name (nm x.1) (toP x.2)) k (toP tp)) X.env rv) Qr Er s := by
  obtain ⟨hlen, rfl⟩ := setTup_all hm
  rw [PyProof.Rows.assign_Tuple]
  refine wpAny_bind (wpAny_standAt ?_)
  rw [assignEach_names]
  unfold unpack
  have hst : (is.map fun x => (false, assign (.Name (nm x.1) (toP x.2)) X.env)).findIdx? (·.1) = none := by
    rw [List.findIdx?_eq_none_iff]
    intro x hx
    obtain ⟨y, _, rfl⟩ := List.mem_map.mp hx
    rfl
  rw [hst, List.length_map]
  refine wpAny_bind (wpAny_holding (unpack_ok c R hv hp hlen fun rs s₁ N₁ r₁ => ?_))
  rw [List.map_map]
  exact stores_ok c (T := fun x => assign (.Name (nm x.1) (toP x.2)) X.env) (fun x v s Q E h => PyProof.Rows.assign_Name h) is vs rs st s₁ _ hl hlen N₁.rep r₁ fun s' N' => hQ _ (N₁.trans N')
end
end Lx
namespace Lx
open PySem PySem.W PySem.Calls PyProof.Rows PySem.Spec
section
variable {prog : Program} {w : World} {A : Around} {E : Value → Shared → Prop} {s : Shared} {env : Env}
theorem fForE {target iter : PySem.Expr} {body pos} {Q : Flow → Shared → Prop}
    (h : wpF (model prog w) A (do let x ← foldedSetIterable iter env (← eval iter env); standAt iter.pos; holding [x] (pyIter x)) (fun it s₁ => ∃ (I : Nat → Shared → Prop) (n : Nat), I n s₁ ∧
      ∀ n s, I n s → wpAny (model prog w) A (pyNext it) (fun r s₁ => match r with
      | none => Q .next s₁
      | some v => wpAny (model prog w) A (letOwnedTupleGo target it v) (fun u_ s₁ => wpAny (model prog w) A (assign target env v) (fun u_ s₂ => wpF (model prog w) A (execs body env) (fun f s₃ => match f with
          | .next | .cont => ∃ m, m < n ∧ I m s₃
          | .brk => Q .next s₃
          | .ret v => Q (.ret v) s₃) (notedBy (model prog w) A env (cameBackBy (model prog w) A env E)) s₂) (notedBy (model prog w) A env (cameBackBy (model prog w) A env E)) s₁) (notedBy (model prog w) A env (cameBackBy (model prog w) A env E)) s₁) (notedBy (model prog w) A env (cameBackBy (model prog w) A env E)) s) E s) :
    wpF (model prog w) A (exec (.For target iter body [] pos) env) Q E s := by
  have e : exec (.For target iter body [] pos) env = (do standAt pos; runOwn (.forLoop target (← (do let x ← foldedSetIterable iter env (← eval iter env); standAt iter.pos; holding [x] (pyIter x))) body [] env) env) := by
    rw [exec_For]; simp only [bind_assoc]
  rw [e]
  refine wpF_standAt (wpF_then h fun v s₁ hv => ?_)
  obtain ⟨I, n, hI, turn⟩ := hv
  refine fRunOwn (h := none) (codeF_loop' rfl rfl I (fun n s hI => ?_) n s₁ hI) (by intro x; cases x)
  show wpF _ _ ((forTurn target v body [] env).onRaise (fun x => do noteFrame x env; theTreesLotGoes x)) _ _ s
  refine fNoted ?_
  unfold forTurn
  refine wpF_standAt (wpF_then (wpF_onRaise (wpF_mono (wpF_any (turn n s hI)) (fun u_ u_ q => q) fun u_ u_ x => wpF_any (wpAny_standAt x))) fun r s₁ h₁ => ?_)
  cases r with
  | none => exact wpF_pure (.inr ⟨rfl, codeF_any (codeAny_block (wpAny_execs_nil h₁))⟩)
  | some v' =>
    refine wpF_then (m := letOwnedTupleGo target v v') (wpF_any h₁) fun u_ s₂ h₂ => wpF_then (wpF_any h₂) fun u_ s₂ h₂ => wpF_then h₂ fun f s₃ h₃ => ?_
    cases f with
    | next => exact wpF_pure (.inl ⟨rfl, h₃⟩)
    | cont => exact wpF_pure (.inl ⟨rfl, h₃⟩)
    | brk => exact wpF_pure h₃
    | ret v => exact wpF_pure h₃
end
section
variable {W : Wd} {X : Cx} {st : St} {s : Shared} {n : Nat}
theorem fold_toE (it : E) (p p' : P) (env : Env) (x : Value) : foldedSetIterable (.Call (.Name (PySem.Str.ofString "enumerate") (toP p)) [toE it] [] (toP p')) env x = pure x := rfl
set_option tactic.hygienic true in
theorem forEnum_ok (w : WOK W) (c : CxOK X) (hn : n ≤ X.n) (opq : Nat → PySem.Stmt) {i j : Nm} {ip jp : P} {k : Nat} {it : E} {b : Ss} {tp cp ep p : P} {st : St} {Q : Fl → St → Prop} {Xc : St → Prop}
    (hi : okLoc X.env.scope i = true) (hj : okLoc X.env.scope j = true) (hij : i ≠ j) (okit : okE X.env.scope it = true) (hen : X.env.scope.names.lookup (PySem.Str.ofString "enumerate") = some .globalImplicit)
    (h : wpS (Ot W n) (.forEnum i j ip jp k it b tp cp ep p) st Q Xc)
    (ih : ∀ st Q Xc, wpSs (Ot W n) b st Q Xc → Sat relF W X (execs (toSs opq b) X.env) st Q Xc) : Sat relF W X (exec (toS opq (.forEnum i j ip jp k it b tp cp ep p)) X.env) st Q Xc := fun s R Qr Er hQ hE => by
  simp only [ws_assign, ws_assignAttr, ws_assignIdx, ws_assignTup, ws_augName, ws_augAttr, ws_iff, ws_whil, ws_ret, ws_expr, ws_pass, ws_brk, ws_raise, ws_tryRet, ws_forEnum, ws_opaq] at h
  simp only [ts_assign, ts_assignAttr, ts_assignIdx, ts_assignTup, ts_augName, ts_augAttr, ts_iff, ts_whil, ts_ret, ts_expr, ts_pass, ts_brk, ts_raise, ts_tryRet, ts_forEnum, ts_opaq]
  (refine absG fun G_ hG_ => ?_; (rcases w.top with ⟨pp, loose, mg, mb, T⟩) <;> (refine hG_ ?_; clear hG_ G_))
  refine fForE ?_
  refine wpF_then (P := fun xv s₁ => ∃ (e itr l : Addr) (items : List Value) (vs : List V) (st₁ : St), xv = .ref e ∧ e ≠ itr ∧ s.heap.get? e = none ∧ s.heap.get? itr = none ∧ IsEnum s₁.heap e itr 0 .none ∧ s₁.heap.IsListIter itr l 0 ∧
      (∀ s' : Shared, W.H.StaysIn s'.heap → s'.heap.IsList l items.toArray) ∧ (∀ mh h, VReps mh h vs items) ∧ Nxt W X st s st₁ s₁ ∧ ∃ I : Nat → St → Prop, I 0 st₁ ∧ (∀ k st v, vs[k]? = some v → I k st → wpSs (Ot W n) b { st with loc := (st.loc.set i (.int k)).set j v } (fun f st => match f with
            | .next => I (k + 1) st
            | _ => False) Xc) ∧ ∀ st, I vs.length st → Q .next st) ?_ fun xv s₁ hx => ?_
  · refine fCall (wpF_any (Name_function_global c.kind hen (loadGlobal_builtin (mb := mb) (by rw [c.globals]; exact T.g.keeps R.stays) (mg_none_of w.kin T.g (w.kf.blt .enumerate)) (by rw [c.builtins]; exact T.b.keeps R.stays) ((T.builtins _ (by decide)).trans (by decide +kernel : _ = some (Value.type "enumerate"))) ?_) (by decide))) rfl
    refine callWith_any (es := .cons it .nil) (p := toP cp) (rf := .type "enumerate") (first := []) w (.inr fun a q => by cases q) ?_
    rw [tes_cons, star_toE]
    refine fArgsCons (sndE w c hn it st _ _ okit h s R _ _ (fun v st₁ rv s₁ h₁ N₁ r₁ => wpF_any (args_nil ?_)) hE)
    refine ⟨w.kin.keeps N₁.rep.stays, ?_⟩
    cases r₁ <;> first | exact h₁.elim | skip
    rename_i a
    dsimp only at h₁
    cases hs : (Ot W n).SL a with
    | none => rw [hs] at h₁; exact h₁.elim
    | some vs =>
      rw [hs] at h₁
      (refine absG fun G_ hG_ => ?_; (rcases w.kf.slist a vs hs with ⟨o, items, nn, ho, hc, hd, hv, hdd, hsl⟩) <;> (refine hG_ ?_; clear hG_ G_))
      have ho₁ := N₁.rep.stays a o ho
      (refine absG fun G_ hG_ => ?_; (rcases o with ⟨oc, od, odt, osl⟩) <;> (refine hG_ ?_; clear hG_ G_))
      dsimp only at hc hd hdd hsl
      subst hc; subst hd; subst hdd; subst hsl
      refine wpF_any (call_enumerate_1 (items := items.toArray) (n := nn) ho₁ fun h' g1 g2 g3 g4 => ?_)
      have N₂ : Nxt W X st₁ s₁ st₁ { s₁ with heap := h' } := N₁.rep.grow (fun b o e => g4 b o e) rfl rfl
      have dead : ∀ a, s₁.heap.objs.size ≤ a → s.heap.get? a = none := fun a ha => dead_back N₁.stp (by
        cases q : s₁.heap.get? a with
        | none => rfl
        | some o => exact absurd (Heap.lt_size q) (Nat.not_lt.mpr ha))
      refine ⟨_, _, a, items, vs, st₁, rfl, Nat.succ_ne_self _, dead _ (Nat.le_succ _), dead _ (Nat.le_refl _), g1, g2, fun s' hs' => ⟨_, hs' _ _ ho, rfl, nn, rfl⟩, hv, N₁.trans N₂, h₁⟩
  · (refine absG fun G_ hG_ => ?_; (rcases hx with ⟨e, itr, l, items, vs, st₁, rfl, hne, d1, d2, hen₁, hit₁, hl, hv, N₁, I, hI, turn, hend⟩) <;> (refine hG_ ?_; clear hG_ G_))
    refine wpF_standAt (wpF_holding (wpF_any (wpAny_pyIter_enum hen₁ ?_)))
    have hlen : items.length = vs.length := (hv (fun u_ => none) {}).1
    refine ⟨fun kk s' => ∃ idx old st', I idx st' ∧ Nxt W X st s st' s' ∧ IsEnum s'.heap e itr ((idx : Nat) : Int) old ∧ s'.heap.IsListIter itr l idx ∧ idx ≤ vs.length ∧ kk = vs.length + 1 - idx, vs.length + 1, ⟨0, .none, st₁, hI, N₁, hen₁, hit₁, Nat.zero_le _, rfl⟩, ?_⟩
    intro kk s' z1_; (refine absG fun G_ hG_ => ?_; (rcases z1_ with ⟨idx, old, st', hI', N, hen', hit', hle, rfl⟩) <;> (refine hG_ ?_; clear hG_ G_))
    have hl' := hl s' N.rep.stays
    have sz : (items.toArray).size = vs.length := by simp [hlen]
    have mE : st'.mh e = none := rec_none N.rep hen' rfl rfl
    (refine absG fun G_ hG_ => ?_; (rcases id hit' with ⟨oi, hoi, hci, hdi⟩) <;> (refine hG_ ?_; clear hG_ G_))
    have mI : st'.mh itr = none := rec_none N.rep hoi hci hdi
    have hS : ∀ a ∈ [e, itr], s.heap.get? a = none ∧ st'.mh a = none ∧ ∃ o vs, s'.heap.get? a = some o ∧ o.data = .fields vs := fun a ha => by
      (refine absG fun G_ hG_ => ?_; (rcases List.mem_cons.mp ha with rfl | ha) <;> (refine hG_ ?_; clear hG_ G_))
      · exact ⟨d1, mE, _, _, hen', rfl⟩
      · refine absG fun G_ hG_ => ?_
        cases ha with
        | head => refine hG_ ?_; clear hG_ G_; exact ⟨d2, mI, _, _, hoi, hdi⟩
        | tail _ h => refine hG_ ?_; clear hG_ G_; cases h
    have exc : ∀ st₂ e' s₂, Xc st₂ → Nxt W X st s st₂ s₂ → Exc X e' s.heap st₂.mh s₂.heap → notedBy (M W) X.A X.env (cameBackBy (M W) X.A X.env Er) (.ref e') s₂ := fun st₂ e' s₂ x N x' =>
      loop_exc c R N x' fun s'' N'' x'' => hE st₂ e' s'' x N'' x''
    by_cases hx : idx < vs.length
    · obtain ⟨v, hvi⟩ : ∃ v, vs[idx]? = some v := ⟨_, List.getElem?_eq_getElem hx⟩
      obtain ⟨x, hxi⟩ : ∃ x, items[idx]? = some x := ⟨_, List.getElem?_eq_getElem (hlen ▸ hx)⟩
      have heH := Heap.lt_size hen'
      have hiH := Heap.lt_size hoi
      refine wpAny_pyNext_enum_item hen' hit' hl' (by simpa using hxi) hne fun h₁ heo hit₂ ht₁ hz₁ hk₁ => ?_
      refine wpAny_letOwnedTupleGo_enum heo fun h₂ he₂ hs₂ => ?_
      replace hs₂ : Heap.SameBut e h₁ h₂ := hs₂
      have kk : ∀ b o, s'.heap.get? b = some o → b ∉ [e, itr] → h₂.get? b = some o := fun b o hb hn => by
        simp only [List.mem_cons, List.not_mem_nil, or_false, not_or] at hn
        exact hs₂.extBut b o hn.1 (hk₁ b o hn.1 hn.2 hb)
      have N₂ := bump_nxt (tk := s'.toks + 1) c R N kk hS
      have ht₂ : h₂.get? s'.heap.objs.size = some { cls := .type "tuple", data := .seq #[.int idx s'.toks, x] } := (hs₂.2 _ (Nat.ne_of_gt heH)).trans ht₁
      have rt : VRep st'.mh h₂ (.tup [.int idx, v]) (.ref s'.heap.objs.size) := by
        refine .tup _ [.int idx, v] [.int idx s'.toks, x] _ 0 (mh_none N.rep (dead_size s')) ht₂ rfl rfl rfl (by show 2 ≤ LIM; unfold LIM; decide) ?_
        have : VReps st'.mh h₂ [.int idx, v] [.int idx s'.toks, x] := vreps_cons (.int _ _) (vreps_cons ((hv st'.mh h₂).2 idx v x hvi hxi) vreps_nil)
        exact this.2
      refine assignT_ok (is := [(i, ip), (j, jp)]) (m := (st'.loc.set i (.int idx)).set j v) c N₂.rep rt rfl rfl (by simp [hi, hj]) fun s₃ N₃ => ?_
      refine ih _ _ _ (turn idx st' v hvi hI') _ N₃.rep _ _ (fun f st₄ g s₄ h₄ N₄ r₄ => ?_) fun st₄ e' s₄ x N₄ x' => exc st₄ e' s₄ x ((N₂.trans N₃).trans N₄) (x'.back (N₂.trans N₃).stp)
      cases f <;> cases g <;> first | exact r₄.elim | exact h₄.elim | skip
      have eI : (((idx + 1 : Nat) : Int)) = (idx : Int) + 1 := by push_cast; rfl
      (refine absG fun G_ hG_ => ?_; (rcases id (hit₂.extBut hs₂.extBut (Ne.symm hne) : h₂.IsListIter itr l (idx + 1)) with ⟨oj, hoj, hcj, hdj⟩) <;> (refine hG_ ?_; clear hG_ G_))
      refine ⟨vs.length + 1 - (idx + 1), sl1 (by lia), idx + 1, x, st₄, h₄, (N₂.trans N₃).trans N₄, ?_, ?_, hx, rfl⟩
      · rw [eI]; exact rec_keeps c N₂.rep (N₃.trans N₄) he₂ rfl rfl
      · exact ⟨oj, rec_keeps c N₂.rep (N₃.trans N₄) hoj hcj hdj, hcj, hdj⟩
    · have hz : idx = vs.length := by lia
      refine wpAny_pyNext_enum_end c.handled hen' hit' hl' (by rw [Array.getElem?_eq_none_iff, sz]; lia) fun h₁ he₁ => ?_
      have kk : ∀ b o, s'.heap.get? b = some o → b ∉ [e, itr] → h₁.get? b = some o := fun b o hb hn => by
        simp only [List.mem_cons, List.not_mem_nil, or_false, not_or] at hn
        exact he₁ b o hn.2 hb
      have N₂ := bump_nxt (tk := s'.toks) c R N kk hS
      exact hQ _ _ _ _ (hend st' (hz ▸ hI')) N₂ trivial
end
end Lx
namespace Lx
open PySem PySem.W PySem.Calls PyProof.Rows PySem.Spec
mutual
noncomputable def okS (sc : Scope) : S → Bool
  | .assign i e _ _ => okLoc sc i && okE sc e
  | .assignAttr o f e _ _ => okE sc o && okE sc e && fieldNames.contains f && decide (f < NN)
  | .assignIdx o i e _ _ => okE sc o && okE sc i && okE sc e
  | .assignTup is _ e _ _ => okE sc e && (is.all fun x => okLoc sc x.1) && decide (is.map (·.1)).Nodup && swOK is e
  | .augName i op e _ _ => okLoc sc i && okE sc e && decide (op = .add)
  | .augAttr o f op e _ _ => okE sc o && okE sc e && fieldNames.contains f && decide (f < NN) && decide (op = .add)
  | .iff t a b _ => okE sc t && okSs sc a && okSs sc b
  | .whil t b _ => okE sc t && okSs sc b
  | .ret e _ => isNo e || okE sc e
  | .expr e _ => okE sc e
  | .pass _ => true
  | .brk _ => true
  | .raise e _ => okE sc e
  | .tryRet b g gp i p1 _ _ _ _ _ _ _ => okSs sc b && okE sc (.loc i p1) && okE sc (.glob g (.stat 87) gp)
  | .forEnum i j _ _ _ it b _ _ _ _ => okLoc sc i && okLoc sc j && decide (i ≠ j) && okE sc it && okSs sc b && (sc.names.lookup (PySem.Str.ofString "enumerate") == some .globalImplicit)
  | .opaq _ => false
noncomputable def okSs (sc : Scope) : Ss → Bool
  | .nil => true
  | .cons s ss => okS sc s && okSs sc ss
end
theorem oks_assign {sc : Scope} {i e x0 x1} : okS sc (.assign i e x0 x1) = (okLoc sc i && okE sc e) := rfl
theorem oks_assignAttr {sc : Scope} {o f e x0 x1} : okS sc (.assignAttr o f e x0 x1) = (okE sc o && okE sc e && fieldNames.contains f && decide (f < NN)) := rfl
theorem oks_assignIdx {sc : Scope} {o i e x0 x1} : okS sc (.assignIdx o i e x0 x1) = (okE sc o && okE sc i && okE sc e) := rfl
theorem oks_assignTup {sc : Scope} {is x0 e x1 x2} : okS sc (.assignTup is x0 e x1 x2) = (okE sc e && (is.all fun x => okLoc sc x.1) && decide (is.map (·.1)).Nodup && swOK is e) := rfl
theorem oks_augName {sc : Scope} {i op e x0 x1} : okS sc (.augName i op e x0 x1) = (okLoc sc i && okE sc e && decide (op = .add)) := rfl
theorem oks_augAttr {sc : Scope} {o f op e x0 x1} : okS sc (.augAttr o f op e x0 x1) = (okE sc o && okE sc e && fieldNames.contains f && decide (f < NN) && decide (op = .add)) := rfl
theorem oks_iff {sc : Scope} {t a b x0} : okS sc (.iff t a b x0) = (okE sc t && okSs sc a && okSs sc b) := rfl
theorem oks_whil {sc : Scope} {t b x0} : okS sc (.whil t b x0) = (okE sc t && okSs sc b) := rfl
theorem oks_ret {sc : Scope} {e x0} : okS sc (.ret e x0) = (isNo e || okE sc e) := rfl
theorem oks_expr {sc : Scope} {e x0} : okS sc (.expr e x0) = (okE sc e) := rfl
theorem oks_pass {sc : Scope} {x0} : okS sc (.pass x0) = (true) := rfl
theorem oks_brk {sc : Scope} {x0} : okS sc (.brk x0) = (true) := rfl
theorem oks_raise {sc : Scope} {e x0} : okS sc (.raise e x0) = (okE sc e) := rfl
theorem oks_tryRet {sc : Scope} {b g gp i p1 t p2 k p3 p4 hp p} : okS sc (.tryRet b g gp i p1 t p2 k p3 p4 hp p) = (okSs sc b && okE sc (.loc i p1) && okE sc (.glob g (.stat 87) gp)) := rfl
theorem oks_forEnum {sc : Scope} {i j x0 x1 x2 it b x3 x4 x5 x6} : okS sc (.forEnum i j x0 x1 x2 it b x3 x4 x5 x6) = (okLoc sc i && okLoc sc j && decide (i ≠ j) && okE sc it && okSs sc b && (sc.names.lookup (PySem.Str.ofString "enumerate") == some .globalImplicit)) := rfl
theorem oks_opaq {sc : Scope} {x0} : okS sc (.opaq x0) = (false) := rfl
theorem okss_nil {sc : Scope} : okSs sc .nil = (true) := rfl
theorem okss_cons {sc : Scope} {s ss} : okSs sc (.cons s ss) = (okS sc s && okSs sc ss) := rfl
section
variable {W : Wd} {X : Cx} {st : St} {s : Shared} {n : Nat}
theorem sole_assign (t : PySem.Expr) (e : E) (l : Nat) (env : Env) : swapsWithSole [t] (toE e) l env = pure false := by cases e <;> rfl
theorem swaps_toE (t : Option PySem.Expr) (e : E) (l : Nat) (env : Env) : swapsWith (toE e) t l env = pure false := by cases e <;> rfl
variable (w : WOK W) (c : CxOK X) (hn : n ≤ X.n) (opq : Nat → PySem.Stmt)
include w c hn
set_option tactic.hygienic true in
theorem raiseS_ok {e : E} {p : P} {st : St} {Q : Fl → St → Prop} {Xc : St → Prop} (ok : okE X.env.scope e = true) (h : wpS (Ot W n) (.raise e p) st Q Xc) : Sat relF W X (exec (toS opq (.raise e p)) X.env) st Q Xc := fun s R Qr Er hQ hE => by
  simp only [ws_assign, ws_assignAttr, ws_assignIdx, ws_assignTup, ws_augName, ws_augAttr, ws_iff, ws_whil, ws_ret, ws_expr, ws_pass, ws_brk, ws_raise, ws_tryRet, ws_forEnum, ws_opaq] at h
  simp only [ts_assign, ts_assignAttr, ts_assignIdx, ts_assignTup, ts_augName, ts_augAttr, ts_iff, ts_whil, ts_ret, ts_expr, ts_pass, ts_brk, ts_raise, ts_tryRet, ts_forEnum, ts_opaq]
  rw [arm_raise]
  refine wpF_standAt (wpF_then (wpF_then (sndE w c hn e st _ _ ok h s R (fun v s' => wpF (M W) X.A _ Qr Er s') _ (fun v st₁ rv s₁ h₁ N₁ r₁ => ?_) hE) fun v s' hv => wpF_standAt (wpF_pure hv)) fun v s' hv => hv)
  cases r₁ <;> first | exact h₁.elim | skip
  rename_i a
  obtain ⟨hfree, h₁⟩ := h₁
  cases ha : st₁.mh a with
  | none => rw [ha] at h₁; exact h₁.elim
  | some mo =>
    rw [ha] at h₁
    cases mo <;> first | exact h₁.elim | skip
    rename_i C d
    have N₂ := N₁.trans (del_nxt c N₁.rep ha)
    obtain ⟨⟨_, ox, vs, a0, ho, hc, hd, hdat, h0, hv1⟩, _⟩ := N₁.rep.objs a _ ha
    have hC : C = 87 := h₁.1
    subst hC
    exact wpF_any (raise_rest w c N₁.rep ha (hE _ a _ h₁.2 N₂ (.inl ⟨ox, vs, a0, N₁.stp.fresh a hfree (by rw [ha]; simp), by show (if a = a then none else _) = none; simp, ho, hc, hdat, h0, hv1⟩)))
noncomputable def TS (W : Wd) (X : Cx) (n : Nat) (opq : Nat → PySem.Stmt) (a : S) : Prop := ∀ (st : St) (Q : Fl → St → Prop) (Xc : St → Prop), okS X.env.scope a = true → wpS (Ot W n) a st Q Xc → Sat relF W X (exec (toS opq a) X.env) st Q Xc
noncomputable def TSs (W : Wd) (X : Cx) (n : Nat) (opq : Nat → PySem.Stmt) (a : Ss) : Prop := ∀ (st : St) (Q : Fl → St → Prop) (Xc : St → Prop), okSs X.env.scope a = true → wpSs (Ot W n) a st Q Xc → Sat relF W X (execs (toSs opq a) X.env) st Q Xc
theorem s_assign {i} {e} {ip} {p} : TS W X n opq (.assign i e ip p) := fun st Q Xc ok h => fun s R Qr Er hQ hE => by
    simp only [oks_assign, Bool.and_eq_true] at ok
    simp only [ws_assign] at h
    simp only [ts_assign]
    refine fAssignName (sndE w c hn e st _ _ ok.2 h s R _ _ (fun v st₁ rv s₁ h₁ N₁ r₁ => ?_) hE) (swaps_toE _ _ _ _)
    exact wpF_any (store_ok c N₁.rep ok.1 r₁ fun s' N' => hQ _ _ _ _ h₁ (N₁.trans N') trivial)
theorem s_assignAttr {o} {f} {e} {ap} {p} : TS W X n opq (.assignAttr o f e ap p) := fun st Q Xc ok h => fun s R Qr Er hQ hE => by
    simp only [oks_assignAttr, Bool.and_eq_true, List.contains_iff_mem, decide_eq_true_eq] at ok
    obtain ⟨⟨⟨ok1, ok2⟩, hf⟩, hfn⟩ := ok
    simp only [ws_assignAttr] at h
    simp only [ts_assignAttr]
    refine fAssignAttr (sndE w c hn e st _ _ ok2 h s R _ _ (fun v st₁ rv s₁ h₁ N₁ r₁ => ?_) hE) (swaps_toE _ _ _ _)
    refine sndE w c hn o st₁ _ _ ok1 h₁ s₁ N₁.rep _ _ (fun ov st₂ ro s₂ h₂ N₂ r₂ => ?_) fun st' e s' x N x' => hE st' e s' x (N₁.trans N) (x'.back N₁.stp)
    exact wpF_any (setAttr_ok w c N₂.rep r₂ (N₂.v N₁.rep r₁) h₂ hf hfn fun mh s' q N' => hQ _ _ _ _ q ((N₁.trans N₂).trans N') trivial)
set_option tactic.hygienic true in
theorem s_assignIdx {o} {i} {e} {ap} {p} : TS W X n opq (.assignIdx o i e ap p) := fun st Q Xc ok h => fun s R Qr Er hQ hE => by
    simp only [oks_assignIdx, Bool.and_eq_true] at ok
    obtain ⟨⟨ok1, ok2⟩, ok3⟩ := ok
    simp only [ws_assignIdx] at h
    simp only [ts_assignIdx]
    refine fAssignSub (sndE w c hn e st _ _ ok3 h s R _ _ (fun v st₁ rv s₁ h₁ N₁ r₁ => ?_) hE) (swaps_toE _ _ _ _)
    refine sndE w c hn o st₁ _ _ ok1 h₁ s₁ N₁.rep _ _ (fun ov st₂ ro s₂ h₂ N₂ r₂ => ?_) fun st' e s' x N x' => hE st' e s' x (N₁.trans N) (x'.back N₁.stp)
    refine sndE w c hn i st₂ _ _ ok2 h₂ s₂ N₂.rep _ _ (fun iv st₃ ri s₃ h₃ N₃ r₃ => ?_) fun st' e s' x N x' => hE st' e s' x ((N₁.trans N₂).trans N) (x'.back (N₁.trans N₂).stp)
    have rv₃ := (N₂.trans N₃).v N₁.rep r₁
    cases r₂ <;> first | exact h₃.elim | skip
    cases r₃ <;> first | exact h₃.elim | skip
    · dsimp only at h₃
      split at h₃
      · rename_i vs ha
        exact wpF_any (setItemList_ok w c N₃.rep ha h₃.1 h₃.2.1 rv₃ fun s' N' => hQ _ _ _ _ h₃.2.2 (((N₁.trans N₂).trans N₃).trans N') trivial)
      · exact h₃.elim
    · dsimp only at h₃
      split at h₃
      · rename_i kvs ha
        exact wpF_any (setItemDict_ok w c N₃.rep ha h₃.1 h₃.2.1 rv₃ fun s' N' => hQ _ _ _ _ h₃.2.2 (((N₁.trans N₂).trans N₃).trans N') trivial)
      · exact h₃.elim
set_option tactic.hygienic true in
theorem s_assignTup {is} {k} {e} {tp} {p} : TS W X n opq (.assignTup is k e tp p) := fun st Q Xc ok h => fun s R Qr Er hQ hE => by
    simp only [oks_assignTup, Bool.and_eq_true, decide_eq_true_eq] at ok
    obtain ⟨⟨⟨ok1, ok2⟩, hd⟩, hs⟩ := ok
    simp only [ws_assignTup] at h
    simp only [ts_assignTup]
    rw [exec_Assign]
    refine wpF_standAt ?_
    rw [sole_assign]
    refine wpF_bind (wpF_pure ?_)
    rw [if_neg (by decide)]
    refine wpF_bind (sndE w c hn e st _ _ ok1 h s R _ _ (fun v st₁ rv s₁ h₁ N₁ r₁ => ?_) hE)
    split at h₁
    · rename_i vs hp
      split at h₁
      · rename_i m hm
        exact wpF_any (assignTup_ok w c N₁.rep r₁ hp hm ok2 hd hs fun s' N' => hQ _ _ _ _ h₁ (N₁.trans N') trivial)
      · exact h₁.elim
    · exact h₁.elim
set_option tactic.hygienic true in
theorem s_augName {i} {op} {e} {ip} {p} : TS W X n opq (.augName i op e ip p) := fun st Q Xc ok h => fun s R Qr Er hQ hE => by
    simp only [oks_augName, Bool.and_eq_true, decide_eq_true_eq] at ok
    obtain ⟨ok, rfl⟩ := ok
    have okl := ok.1
    simp only [okLoc, Bool.and_eq_true, decide_eq_true_eq, beq_iff_eq] at okl
    simp only [ws_augName] at h
    simp only [ts_augName]
    split at h
    · rename_i a ha
      obtain ⟨m, hm, q⟩ := R.ns
      obtain ⟨ra, ⟨l1, _⟩, vr⟩ := q i a okl.1 ha
      refine fAugName (wpF_any (wpAny_loadName_local c.kind okl.2 (by rw [c.locals]; exact hm) (l1 okl.2) ?_))
      refine sndE w c hn e st _ _ ok.2 h s R _ _ (fun b st₁ rb s₁ h₁ N₁ r₁ => ?_) hE
      split at h₁
      · rename_i v hv
        exact wpF_any (inplace_ok N₁.rep (N₁.v R vr) r₁ hv fun rv s₂ N₂ r₂ => wpF_any (store_ok c N₂.rep ok.1 r₂ fun s' N' => hQ _ _ _ _ h₁ ((N₁.trans N₂).trans N') trivial))
      · exact h₁.elim
    · exact h.elim
set_option tactic.hygienic true in
theorem s_augAttr {o} {f} {op} {e} {ap} {p} : TS W X n opq (.augAttr o f op e ap p) := fun st Q Xc ok h => fun s R Qr Er hQ hE => by
    simp only [oks_augAttr, Bool.and_eq_true, List.contains_iff_mem, decide_eq_true_eq] at ok
    obtain ⟨⟨⟨⟨ok1, ok2⟩, hf⟩, hfn⟩, rfl⟩ := ok
    simp only [ws_augAttr] at h
    simp only [ts_augAttr]
    refine fAugAttr (sndE w c hn o st _ _ ok1 h s R _ _ (fun ov st₁ ro s₁ h₁ N₁ r₁ => ?_) hE)
    split at h₁
    · rename_i a ha
      refine wpF_any (attr_ok w c N₁.rep r₁ ha hf hfn fun ra s₂ N₂ r₂ => ?_)
      refine sndE w c hn e st₁ _ _ ok2 h₁ s₂ N₂.rep _ _ (fun b st₃ rb s₃ h₃ N₃ r₃ => ?_) fun st' e s' x N x' => hE st' e s' x ((N₁.trans N₂).trans N) (x'.back (N₁.trans N₂).stp)
      split at h₃
      · rename_i v hv
        refine wpF_any (inplace_ok N₃.rep (N₃.v N₂.rep r₂) r₃ hv fun rv s₄ N₄ r₄ => ?_)
        exact wpF_any (setAttr_ok w c N₄.rep ((N₂.trans (N₃.trans N₄)).v N₁.rep r₁) r₄ h₃ hf hfn fun mh s' q N' => hQ _ _ _ _ q ((((N₁.trans N₂).trans N₃).trans N₄).trans N') trivial)
      · exact h₃.elim
    · exact h₁.elim
theorem s_iff {t} {a} {b} {p} (j_a : TSs W X n opq a) (j_b : TSs W X n opq b) : TS W X n opq (.iff t a b p) := fun st Q Xc ok h => fun s R Qr Er hQ hE => by
    simp only [oks_iff, Bool.and_eq_true] at ok
    obtain ⟨⟨ok1, ok2⟩, ok3⟩ := ok
    simp only [ws_iff] at h
    simp only [ts_iff]
    refine fIf (sndT w c hn t st _ _ ok1 h s R _ _ (fun v st₁ x s₁ h₁ N₁ r₁ => ?_) hE)
    cases r₁
    cases v with
    | true => exact j_a st₁ _ _ ok2 h₁ s₁ N₁.rep _ _ (fun v st₂ rv s₂ h₂ N₂ r₂ => hQ _ _ _ _ h₂ (N₁.trans N₂) r₂) fun st' e s' x N x' => hE st' e s' x (N₁.trans N) (x'.back N₁.stp)
    | false => exact j_b st₁ _ _ ok3 h₁ s₁ N₁.rep _ _ (fun v st₂ rv s₂ h₂ N₂ r₂ => hQ _ _ _ _ h₂ (N₁.trans N₂) r₂) fun st' e s' x N x' => hE st' e s' x (N₁.trans N) (x'.back N₁.stp)
theorem s_whil {t} {b} {p} (j_b : TSs W X n opq b) : TS W X n opq (.whil t b p) := fun st Q Xc ok h => fun s R Qr Er hQ hE => by
    simp only [oks_whil, Bool.and_eq_true] at ok
    simp only [ws_whil] at h
    obtain ⟨I, ⟨m, hI⟩, turn⟩ := h
    simp only [ts_whil]
    refine fWhile (fun k s' => ∃ st', I k st' ∧ Nxt W X st s st' s') (fun k s₁ hI₁ => ?_) m ⟨st, hI, .refl R⟩
    obtain ⟨st₁, i₁, N₁⟩ := hI₁
    have exc : ∀ st' e s', Xc st' → Nxt W X st₁ s₁ st' s' → Exc X e s₁.heap st'.mh s'.heap → notedBy (M W) X.A X.env (cameBackBy (M W) X.A X.env Er) (.ref e) s' := fun st' e s' x N x' =>
      loop_exc c R (N₁.trans N) (x'.back N₁.stp) fun s'' N'' x'' => hE st' e s'' x N'' x''
    refine sndT w c hn t st₁ _ _ ok.1 (turn k st₁ i₁) s₁ N₁.rep _ _ (fun v st₂ x s₂ h₂ N₂ r₂ => ?_) exc
    cases r₂
    cases v with
    | false => exact hQ _ _ _ _ h₂ (N₁.trans N₂) trivial
    | true =>
      refine j_b st₂ _ _ ok.2 h₂ s₂ N₂.rep _ _ (fun f st₃ g s₃ h₃ N₃ r₃ => ?_) fun st' e s' x N x' => exc st' e s' x (N₂.trans N) (x'.back N₂.stp)
      cases f <;> cases g <;> first | exact r₃.elim | skip
      · obtain ⟨m', hm', hI'⟩ := h₃; exact ⟨m', hm', st₃, hI', (N₁.trans N₂).trans N₃⟩
      · exact hQ _ _ _ _ h₃ ((N₁.trans N₂).trans N₃) trivial
      · exact hQ _ _ _ _ h₃ ((N₁.trans N₂).trans N₃) r₃
theorem s_ret {e} {p} : TS W X n opq (.ret e p) := fun st Q Xc ok h => fun s R Qr Er hQ hE => by
    simp only [oks_ret] at ok
    simp only [ws_ret] at h
    simp only [ts_ret]
    rw [toOptS]
    cases hno : isNo e with
    | true =>
      cases e <;> first | cases hno | skip
      exact wpF_any (wpAny_Return_none (hQ _ _ _ _ h (.refl R) .none))
    | false =>
      rw [hno] at ok
      exact fReturn (sndE w c hn e st _ _ ok h s R _ _ (fun v st₁ rv s₁ h₁ N₁ r₁ => hQ _ _ _ _ h₁ N₁ r₁) hE)
theorem s_expr {e} {p} : TS W X n opq (.expr e p) := fun st Q Xc ok h => fun s R Qr Er hQ hE => by
    simp only [oks_expr] at ok
    simp only [ws_expr] at h
    have hi : interactive X.env = false := by unfold interactive; rw [c.kind]; rfl
    simp only [ts_expr]
    rw [exec_Expr X.env _ _ hi (swaps_toE _ _ _ _)]
    refine wpF_standAt (wpF_bind (sndE w c hn e st _ _ ok h s R _ _ (fun v st₁ rv s₁ h₁ N₁ r₁ => ?_) hE))
    exact wpF_any (drop_ok fun tk => hQ _ _ _ _ h₁ (N₁.trans (N₁.rep.tk tk)) trivial)
theorem s_pass {p} : TS W X n opq (.pass p) := fun st Q Xc ok h => fun s R Qr Er hQ hE => wpF_any (wpAny_Pass (hQ _ _ _ _ h (.refl R) trivial))
theorem s_brk {p} : TS W X n opq (.brk p) := fun st Q Xc ok h => fun s R Qr Er hQ hE => wpF_any (wpAny_bind (wpAny_standAt (wpAny_pure (hQ _ _ _ _ h (.refl R) trivial))))
theorem s_raise {e} {p} : TS W X n opq (.raise e p) := fun st Q Xc ok h => raiseS_ok w c hn opq ok h
theorem s_tryRet {b g gp i p1 t p2 k p3 p4 hp p} (j_b : TSs W X n opq b) : TS W X n opq (.tryRet b g gp i p1 t p2 k p3 p4 hp p) := fun st Q Xc ok h => fun s R Qr Er hQ hE => by
    simp only [oks_tryRet, Bool.and_eq_true] at ok
    obtain ⟨⟨ok1, ok2⟩, ok3⟩ := ok
    simp only [ws_tryRet] at h
    simp only [ts_tryRet]
    exact fTry (j_b st _ _ ok1 h s R _ _ (fun f st₁ g s₁ h₁ N₁ r₁ => hQ _ _ _ _ h₁ N₁ r₁) fun st₁ e s₁ x N x' => catch_ok w c R N x' ok2 ok3 x fun f st' g s' q N' r' => hQ _ _ _ _ q N' r')
theorem s_forEnum {i} {j} {ip} {jp} {k} {it} {b} {tp} {cp} {ep} {p} (j_b : TSs W X n opq b) : TS W X n opq (.forEnum i j ip jp k it b tp cp ep p) := fun st Q Xc ok h => by
    simp only [oks_forEnum, Bool.and_eq_true, decide_eq_true_eq, beq_iff_eq] at ok
    obtain ⟨⟨⟨⟨⟨hi, hj⟩, hij⟩, okit⟩, okb⟩, hen⟩ := ok
    exact forEnum_ok w c hn opq hi hj hij okit hen h fun st Q Xc h => j_b st Q Xc okb h
theorem s_opaq {k} : TS W X n opq (.opaq k) := fun u_ u_ u_ ok u_ => by cases ok
theorem s_cons {a r} (j_a : TS W X n opq a) (j_r : TSs W X n opq r) : TSs W X n opq (.cons a r) := fun st Q Xc ok h => fun s R Qr Er hQ hE => by
    simp only [okss_cons, Bool.and_eq_true] at ok
    simp only [wss_cons] at h
    simp only [tss_cons]
    refine fExecsCons (j_a st _ _ ok.1 h s R _ _ (fun f st₁ g s₁ h₁ N₁ r₁ => ?_) hE)
    cases f <;> cases g <;> first | exact r₁.elim | skip
    · exact j_r st₁ _ _ ok.2 h₁ s₁ N₁.rep _ _ (fun f st₂ g s₂ h₂ N₂ r₂ => hQ _ _ _ _ h₂ (N₁.trans N₂) r₂) fun st' e s' x N x' => hE st' e s' x (N₁.trans N) (x'.back N₁.stp)
    · exact hQ _ _ _ _ h₁ N₁ r₁
    · exact hQ _ _ _ _ h₁ N₁ r₁
theorem s_nil : TSs W X n opq .nil := fun st Q Xc ok h => fun s R Qr Er hQ hE => wpF_any (wpAny_execs_nil (hQ _ _ _ _ h (.refl R) trivial))
mutual
theorem sndS : ∀ a : S, TS W X n opq a
  | .assign _ _ _ _ => s_assign w c hn opq
  | .assignAttr _ _ _ _ _ => s_assignAttr w c hn opq
  | .assignIdx _ _ _ _ _ => s_assignIdx w c hn opq
  | .assignTup _ _ _ _ _ => s_assignTup w c hn opq
  | .augName _ _ _ _ _ => s_augName w c hn opq
  | .augAttr _ _ _ _ _ _ => s_augAttr w c hn opq
  | .iff _ a b _ => s_iff w c hn opq (sndSs a) (sndSs b)
  | .whil _ b _ => s_whil w c hn opq (sndSs b)
  | .ret _ _ => s_ret w c hn opq
  | .expr _ _ => s_expr w c hn opq
  | .pass _ => s_pass w c hn opq
  | .brk _ => s_brk w c hn opq
  | .raise _ _ => s_raise w c hn opq
  | .tryRet b _ _ _ _ _ _ _ _ _ _ _ => s_tryRet w c hn opq (sndSs b)
  | .forEnum _ _ _ _ _ _ b _ _ _ _ => s_forEnum w c hn opq (sndSs b)
  | .opaq _ => s_opaq w c hn opq
theorem sndSs : ∀ a : Ss, TSs W X n opq a
  | .nil => s_nil w c hn opq
  | .cons a r => s_cons w c hn opq (sndS a) (sndSs r)
end
end
end Lx
namespace Lx
open PySem PySem.W PySem.Calls PyProof.Rows PySem.Spec
structure FnAt (K : Frag) (opq : Nat → PySem.Stmt) (f : Ad) (ps : List Nm) (b : Ss) (fd : FuncData) : Prop where
  look : ∃ oc od osl, K.lookup f = some ⟨oc, od, .func fd, osl⟩
  body : fd.body = .stmts (toSs opq b)
  code : codeIn K fd.code fd.qualname = true
  globals : fd.globals = mainGlobals
  builtins : fd.builtins = builtinsNs
  closure : fd.closure = []
  kind : fd.scope.kind = .function
  co : fd.scope.isCoroutine = false
  gen : fd.scope.isGenerator = false
  cell : ∀ x ∈ fd.scope.names, x.2 ≠ .cell
  ok : okSs fd.scope b = true
  params : (ps.all fun i => okLoc fd.scope i) = true
  nodup : ps.Nodup
section
variable {W : Wd} {X : Cx} {st : St} {s : Shared} {n : Nat}
theorem ret_back (c : CxOK X) {loc : Fs} {mh : MH} (R : Rep W X ⟨loc, mh⟩ s) {X' : Cx} (c' : CxOK X') (hL : X'.L = s.heap.objs.size) (ho : X'.outer = X.env :: X.outer) {h₁ : Heap} (hk : ∀ b o, s.heap.get? b = some o → h₁.get? b = some o)
    {st' : St} {s' : Shared} (R' : Rep W X' st' s') (x : Stp X'.L X'.F mh h₁ st'.mh s'.heap) : Nxt W X ⟨loc, mh⟩ s ⟨loc, st'.mh⟩ s' := by
  have lt : ∀ a o, s.heap.get? a = some o → a ≠ X'.L := fun a o e q => by rw [q, hL] at e; exact absurd (Heap.lt_size e) (Nat.lt_irrefl _)
  have F' : X'.F = X.L :: X.F := by unfold Cx.F; rw [ho, List.filterMap_cons, c.frame]
  have sl : ∀ a o, s.heap.get? a = some o → mh a = none → ∃ sl, s'.heap.get? a = some { o with slots := sl } := fun a o e m => x.slots a o (hk a o e) m (lt a o e)
  have st1 : ∀ a o, s.heap.get? a = some o → mh a = none → st'.mh a = none := fun a o e m => x.stays (hk a o e) m
  have up : ∀ b o xs n, s.heap.get? b = some o → mh b = none → o.data = .seq xs n → st'.mh b = none ∧ ∃ sl, s'.heap.get? b = some { o with slots := sl } := fun b o u_ u_ e m u_ => ⟨st1 b o e m, sl b o e m⟩
  refine ⟨⟨R'.stays, ?_, R'.objs, ?_, fun b hb => R'.fr b ?_, fun p hp => ?_, R'.gens, R'.os⟩, ⟨fun a o e m l f => ?_, fun a o e m u_ => sl a o e m, fun a m m' => ?_, fun a o e => x.alive a o (hk a o e)⟩⟩
  · obtain ⟨m, ⟨oL, es, ep, eL, dL, rL⟩, q⟩ := R.ns
    obtain ⟨sl', e'⟩ := sl _ oL eL (R.L_none c)
    refine ⟨m, ⟨_, es, ep, e', dL, rL⟩, fun i v hi hv => ?_⟩
    obtain ⟨rv, ⟨l1, l2⟩, vr⟩ := q i v hi hv
    refine ⟨rv, ⟨l1, fun hc => ?_⟩, vrep_mono up vr⟩
    obtain ⟨cc, o, e1, e2, e3⟩ := l2 hc
    obtain ⟨p, hp, rfl⟩ := mem_lookup e1
    obtain ⟨sl', e'⟩ := sl _ o e2 (R.cel p hp).1
    exact ⟨_, _, e1, e', e3⟩
  · have ff := R'.ff
    rw [ho] at ff
    exact ff.2.2
  · rw [ho, List.filterMap_cons, c'.frame]; exact .tail _ hb
  · obtain ⟨m, o, v, e, d⟩ := R.cel p hp
    obtain ⟨sl', e'⟩ := sl _ o e m
    exact ⟨st1 _ o e m, _, v, e', d⟩
  · refine x.keep a o (hk a o e) m (lt a o e) ?_
    rw [F']
    exact fun h => (List.mem_cons.mp h).elim l f
  · have := x.fresh a m m'
    cases q : s.heap.get? a with
    | none => rfl
    | some o => rw [hk a o q] at this; cases this
noncomputable def Back (W : Wd) (X : Cx) (loc : Fs) (mh : MH) (s : Shared) (Q : V → MH → Prop) (Xc : MH → Prop) (r : Result) (s' : Shared) : Prop := match r with
  | .ok (.ret rv) => ∃ v mh', Q v mh' ∧ Nxt W X ⟨loc, mh⟩ s ⟨loc, mh'⟩ s' ∧ VRep mh' s'.heap v rv
  | .ok _ => False
  | .error e => ∃ a mh', e = .ref a ∧ Xc mh' ∧ Nxt W X ⟨loc, mh⟩ s ⟨loc, mh'⟩ s' ∧ Fly a s.heap mh' s'.heap .none
theorem depth_lt {d n r : Nat} (hn : 1 ≤ n) (h : d + 2 * n < r) : d + 1 + 2 * (n - 1) < r := by
  obtain ⟨m, rfl⟩ := Nat.exists_eq_add_of_le' hn
  show d + 1 + 2 * m < r
  lia
set_option tactic.hygienic true in
theorem body_ok (w : WOK W) (c : CxOK X) (hn : n + 1 ≤ X.n) {loc : Fs} {mh : MH} (R : Rep W X ⟨loc, mh⟩ s) {opq : Nat → PySem.Stmt} {f : Ad} {ps : List Nm} {b : Ss} {fd : FuncData} (fn : FnAt W.K opq f ps b fd)
    {A : Args} {vals : List Value} {args : List V} (hb : BindsTo s fd A ((ps.map nm).zip vals)) (hv : VReps mh s.heap args vals) {Q : V → MH → Prop} {Xc : MH → Prop} (h : wpBody (Ot W n) ps b args mh Q Xc) :
    codeF (M W) X.A (.call (.ref f) A) (Back W X loc mh s Q Xc) s := by
  obtain ⟨pp, loose, mg, mb, T⟩ := w.top
  obtain ⟨oc, od, osl, hlook⟩ := fn.look
  have ho := w.kin.keeps R.stays f _ hlook
  have pin : ∀ i ∈ ps, i < NN ∧ fd.scope.names.lookup (nm i) = some .local := fun i hi => by
    have := List.all_eq_true.mp fn.params i hi
    simpa [okLoc] using this
  unfold wpBody at h
  split at h
  · rename_i loc' hloc
    refine codeF_call_def (fd := fd) (by have := c.depth; lia) ho rfl (T.nolimit.keeps R.stays) (codeRec_of (w.kin.keeps R.stays) fn.code) fn.body hb fn.cell (fun x hx => ?_) (fun h₁ hns hk => ?_) fn.co fn.gen fn.kind
    · have : x.1 ∈ ps.map nm := (List.of_mem_zip hx).1
      obtain ⟨i, hi, e⟩ := List.mem_map.mp this
      rw [← e]; exact (pin i hi).2
    · let X' : Cx := ⟨X.A.deeper (callEnv fd s.heap.objs.size f), callEnv fd s.heap.objs.size f, s.heap.objs.size, X.env :: X.outer, X.n - 1⟩
      have dead : s.heap.get? s.heap.objs.size = none := by
        cases q : s.heap.get? s.heap.objs.size with
        | none => rfl
        | some o => exact absurd (Heap.lt_size q) (Nat.lt_irrefl _)
      have c' : CxOK X' := by
        refine ⟨?_, c.handled, rfl, rfl, fn.globals, fn.builtins, fn.kind, ?_, ?_⟩
        · exact Around.frames_deeper c.frames
        · have := c.depth
          exact depth_lt (by lia) this
        · have := c.units
          show X.A.units + 3 + 20 * (X.n - 1) + 20 < cLine
          lia
      have up : ∀ b o xs n, s.heap.get? b = some o → mh b = none → o.data = .seq xs n → mh b = none ∧ ∃ sl, h₁.get? b = some { o with slots := sl } := fun b o u_ u_ e m u_ => ⟨m, o.slots, hk b o e⟩
      have Lnone : mh s.heap.objs.size = none := mh_none R dead
      have R' : Rep W X' ⟨loc', mh⟩ ⟨h₁, s.gens, s.drawn, s.toks + ((ps.map nm).zip vals).length, s.os⟩ := by
        refine ⟨fun b o e => hk b o (R.stays b o e), ⟨_, hns, fun i v hi hv' => ?_⟩, fun a o e => ⟨orep_mono up (fun o h => hk a o h) (R.objs a o e).1, (R.objs a o e).2⟩, ?_, fun b hb => ?_, fun p hp => ?_, R.gens, R.os⟩
        · obtain ⟨rv, e1, e2⟩ := bind_ok (fun i hi => (pin i hi).1) fn.nodup hloc (vreps_mono up hv) i v hi hv'
          refine ⟨rv, ⟨fun u_ => e1, fun hc => ?_⟩, e2⟩
          exfalso
          have hc' : fd.scope.names.lookup (nm i) = some .cell := hc
          have hm : ∃ x ∈ fd.scope.names, x.2 = .cell := by
            clear hc
            generalize fd.scope.names = l at hc'
            induction l with
            | nil => cases hc'
            | cons p r ih =>
              rw [List.lookup_cons] at hc'
              split at hc'
              · exact ⟨p, .head _, (Option.some.inj hc')⟩
              · obtain ⟨q, h1, h2⟩ := ih hc'; exact ⟨q, .tail _ h1, h2⟩
          obtain ⟨x, hx, hx2⟩ := hm
          exact fn.cell x hx hx2
        · obtain ⟨o, es, ep, e, d, r⟩ := hns
          refine ⟨by show fd.scope.kind ≠ .module; rw [fn.kind]; decide, ⟨_, o, rfl, ?_, e, fun vs q => by rw [d] at q; cases q⟩, ?_⟩
          · cases q : W.H.get? s.heap.objs.size with
            | none => rfl
            | some o => have := R.stays _ _ q; rw [dead] at this; cases this
          · exact funFrames_on R.ff fun b hb o ho => ⟨o, hk b o ho, rfl⟩
        · have hb' : b ∈ s.heap.objs.size :: (X.env :: X.outer).filterMap (·.frame) := hb
          rcases List.mem_cons.mp hb' with rfl | hb'
          · exact Lnone
          · exact R.fr b hb'
        · have : X'.env.cells = [] := fn.closure
          rw [this] at hp; cases hp
      refine sndSs w c' (by show n ≤ X.n - 1; lia) opq b ⟨loc', mh⟩ _ _ fn.ok h _ R' _ _ (fun fl st' g s' q N' r => ?_) fun st' e s' x N' x' => ?_
      · have back := ret_back c R c' rfl rfl hk N'.rep N'.stp
        cases fl <;> cases g <;> first | exact r.elim | skip
        · exact ⟨.none, st'.mh, q, back, .none⟩
        · exact q.elim
        · exact ⟨_, st'.mh, q, back, r⟩
      · refine leave_ok c' R' N' x' fun s'' N'' x'' => ?_
        have back := ret_back c R c' rfl rfl hk N''.rep N''.stp
        refine ⟨e, st'.mh, rfl, x, back, ?_⟩
        obtain ⟨T', oe, vs, oT, ts, a0, n0, nT, r1, r2, r3, r4, r5, r6, r7, r8, r9, r10, r11⟩ := x''
        have d : ∀ a, h₁.get? a = none → s.heap.get? a = none := fun a ha => by
          cases q : s.heap.get? a with
          | none => rfl
          | some o => rw [hk a o q] at ha; cases ha
        exact ⟨T', oe, vs, oT, ts, a0, d _ n0, d _ nT, r1, r2, r3, r4, r5, r6, r7, r8, r9, r10, r11⟩
  · exact h.elim
theorem calls_of_code (w : WOK W) {f : Ad} {args : List V} {mh : MH} {Q : V → MH → Prop} {Xc : MH → Prop}
    (h : ∀ X loc s rargs, CxOK X → n ≤ X.n → Rep W X ⟨loc, mh⟩ s → VReps mh s.heap args rargs → codeF (M W) X.A (.call (.ref f) ⟨rargs, []⟩) (Back W X loc mh s Q Xc) s) : Calls W n f args mh Q Xc := by
  intro X loc s rargs c hn R hv Qr Er hQ hE
  refine wpF_call (codeF_mono (h X loc s rargs c hn R hv) fun r s' b => ?_)
  rcases r with e | (_ | _ | _ | rv)
  · obtain ⟨a, mh', rfl, x, N, fl⟩ := b; exact hE mh' a s' x N fl
  · exact b.elim
  · exact b.elim
  · exact b.elim
  · obtain ⟨v, mh', q, N, r⟩ := b; exact hQ v mh' rv s' q N r
theorem calls_body (w : WOK W) {opq : Nat → PySem.Stmt} {f : Ad} {ps : List Nm} {b : Ss} {fd : FuncData} (fn : FnAt W.K opq f ps b fd) (hbind : ∀ args : List Value, args.length = ps.length → bindArgs fd ⟨args, []⟩ = pure ((ps.map nm).zip args))
    {args : List V} (hlen : args.length = ps.length) {mh : MH} {Q : V → MH → Prop} {Xc : MH → Prop} (h : wpBody (Ot W n) ps b args mh Q Xc) : Calls W (n + 1) f args mh Q Xc :=
  calls_of_code w fun X loc s rargs c hn R hv => body_ok w c hn R fn (BindsTo.of_eq (hbind rargs (hv.1.trans hlen))) hv h
theorem Rep.same {X' : Cx} (R : Rep W X st s) (hL : X'.L = X.L) (he : X'.env = X.env) (ho : X'.outer = X.outer) : Rep W X' st s := by
  obtain ⟨A, env, L, outer, n⟩ := X
  obtain ⟨A', env', L', outer', n'⟩ := X'
  cases hL; cases he; cases ho
  exact ⟨R.stays, R.ns, R.objs, R.ff, R.fr, R.cel, R.gens, R.os⟩
theorem Nxt.same {X' : Cx} {st' : St} {s' : Shared} (N : Nxt W X st s st' s') (hL : X'.L = X.L) (he : X'.env = X.env) (ho : X'.outer = X.outer) : Nxt W X' st s st' s' := by
  refine ⟨N.rep.same hL he ho, ?_⟩
  have : X'.F = X.F := by unfold Cx.F; rw [ho]
  rw [hL, this]; exact N.stp
theorem vreps_append {mh : MH} {h : Heap} : ∀ {as bs : List V} {xs ys : List Value}, VReps mh h as xs → VReps mh h bs ys → VReps mh h (as ++ bs) (xs ++ ys)
  | [], bs, xs, ys, a, b => by
    have : xs = [] := List.eq_nil_of_length_eq_zero a.1
    subst this; exact b
  | u :: as, bs, [], ys, a, b => by cases a.1
  | u :: as, bs, x :: xs, ys, a, b => vreps_cons (a.2 0 u x rfl rfl) (vreps_append ⟨Nat.succ.inj a.1, fun i v y e1 e2 => a.2 (i + 1) v y e1 e2⟩ b)
theorem calls_new (w : WOK W) {opq : Nat → PySem.Stmt} {C fI : Ad} {ps : List Nm} {b : Ss} {fd : FuncData} (hC : C ∈ classes) (hm : makesIn W.K C = true) (hi : findIn W.K (.ref C) "__init__" = some (some (.ref fI))) (hfn : typeIn W.K (.ref fI) = some (.type "function"))
    (fn : FnAt W.K opq fI ps b fd) {args dflt : List V} {dvals : List Value} (hd : ∀ mh h, VReps mh h dflt dvals)
    (hb : ∀ s self rargs, W.H.StaysIn s.heap → rargs.length = args.length → BindsTo s fd ⟨self :: rargs, []⟩ ((ps.map nm).zip (self :: rargs ++ dvals)))
    {mh : MH} {Q : V → MH → Prop} {Xc : MH → Prop} (h : ∀ x d, mh x = none → mh d = none → x ≠ d → wpBody (Ot W n) ps b (.ref x :: args ++ dflt) ((mh.set d (.flds fun u_ => none)).set x (.inst C d)) (fun v mh' => v = .none ∧ Q (.ref x) mh') Xc) : Calls W (n + 2) C args mh Q Xc := by
  refine calls_of_code w fun X loc s rargs c hn R hv => ?_
  obtain ⟨hh, g, d, t, os⟩ := s
  refine make_coreF (makes_of (w.kin.keeps R.stays) hm) (looks_findIn (w.kin.keeps R.stays) hi) (fun self => bind_fn (w.kin.keeps R.stays) self hfn) rfl ?_
  let X' : Cx := ⟨X.A.under (.builtin "type.__call__" ⟨.ref C :: rargs, []⟩), X.env, X.L, X.outer, X.n - 1⟩
  have c' : CxOK X' := by
    refine ⟨?_, c.handled, c.frame, c.locals, c.globals, c.builtins, c.kind, ?_, ?_⟩
    · exact (show (X.A.under (.builtin "type.__call__" ⟨.ref C :: rargs, []⟩)).frames = X.A.frames from rfl).trans c.frames
    · have := c.depth
      exact depth_lt (by lia) this
    · have := c.units
      show X.A.units + 1 + 20 * (X.n - 1) + 20 < cLine
      lia
  have N1 := R.new (tk := t) (o := emptyDict) (mo := .flds fun u_ => none) c rfl ⟨fun u_ => none, emptyDict, #[], 0, Heap.get?_push_size _ rfl, rfl, fun e he => by simp at he, fun u_ => rfl, Nat.zero_le _, fun i u_ => ⟨fun u_ => rfl, fun v hv => by cases hv⟩⟩
  have N2 := N1.rep.new (tk := t) (o := instObj C hh.objs.size) (mo := .inst C hh.objs.size) c rfl ⟨hC, _, Heap.get?_push_size _ rfl, rfl, rfl, rfl⟩
  have N := N1.trans N2
  have e1 : (Shared.heap ⟨hh.push emptyDict, g, d, t, os⟩).objs.size = hh.objs.size + 1 := Heap.size_push _ _
  dsimp only at N N2 e1
  rw [e1] at N
  have n1 : mh hh.objs.size = none := mh_none R (dead_size ⟨hh, g, d, t, os⟩)
  have n2 : mh (hh.objs.size + 1) = none := by
    refine mh_none R (s := ⟨hh, g, d, t, os⟩) ?_
    cases q : hh.get? (hh.objs.size + 1) with
    | none => rfl
    | some o => exact absurd (Heap.lt_size q) (Nat.not_lt.mpr (Nat.le_succ _))
  have bd := body_ok (n := n) w c' (by show n + 1 ≤ X.n - 1; lia) (loc := loc) (N.rep.same rfl rfl rfl) fn (hb _ (.ref (hh.objs.size + 1)) rargs (fun b o e => N.rep.stays b o e) hv.1)
    (args := .ref (hh.objs.size + 1) :: args ++ dflt) (vreps_append (vreps_cons (.ref _) (N.vs R hv)) (hd _ _)) (h _ _ n2 n1 (Nat.succ_ne_self _))
  refine codeF_mono bd fun r s' bk => ?_
  rcases r with e | (_ | _ | _ | rv)
  · obtain ⟨a, mh', rfl, x, N', fl⟩ := bk
    obtain ⟨T', oe, vs, oT, ts, a0, n0, nT, r1, r2, r3, r4, r5, r6, r7, r8, r9, r10, r11⟩ := fl
    exact ⟨a, mh', rfl, x, N.trans (N'.same rfl rfl rfl), ⟨T', oe, vs, oT, ts, a0, dead_back N.stp n0, dead_back N.stp nT, r1, r2, r3, r4, r5, r6, r7, r8, r9, r10, r11⟩⟩
  · exact bk.elim
  · exact bk.elim
  · exact bk.elim
  · obtain ⟨v, mh', ⟨rfl, q⟩, N', r⟩ := bk
    cases r
    exact ⟨rfl, _, mh', q, N.trans (N'.same rfl rfl rfl), .ref _⟩
end
end Lx
namespace Lx
open PySem PySem.Spec
section
variable {prog : Program} {w : World} {A : Around} {R : Result → Shared → Prop} {h : Heap} {g : Array GenState} {d : Drawn} {t : Nat} {os : OsState}
variable {nm q : PySem.Str} {C N : Addr} {bs bm : List Value} {hdct : Bool} {sn : List PySem.Str} {sub : List Value} {ab : Bool} {col : Option Bool} {dd : Option Addr} {k0 k1 k2 k3 k5 : Option Value}
noncomputable def excObj (h : Heap) (C : Addr) : Obj := { cls := .ref C, data := .fields #[.ref h.objs.size, .none, .none, .none, .bool false, .none] }
noncomputable def excHeap (h : Heap) (C : Addr) (rest : List Value) : Heap := (h.push { cls := .type "tuple", data := .seq rest.toArray }).push (excObj h C)
theorem exc_new (hC : h.get? C = some (excClassObj nm q C N bs bm hdct sn sub ab col dd k0 k1 k2 k3 k5 "Exception.__new__"))
    (hcB : (Value.ref C :: bm).contains (.type "Exception") = true) (hcA : (Value.ref C :: bm).contains (.type "AttributeError") = false) (hcN : (Value.ref C :: bm).contains (.type "NameError") = false)
    {rest : List Value} (hq : R (.ok (.ret (.ref (h.objs.size + 1)))) ⟨excHeap h C rest, g, d, t, os⟩) (hrest : rest.length ≤ sizeLine) :
    codeAny (model prog w) A (.builtin "Exception.__new__" ⟨.ref C :: rest, []⟩) R ⟨h, g, d, t, os⟩ := by
  have Fn := F.excBase_Exception
  have hends := Fn.ends
  refine codeAny_builtinAt Fn.entry ?_
  unfold Builtin.«BaseException.__new__»
  refine wpAt_bind ?_
  show wpAt _ _ _ (stack >>= _) _ _ _
  refine wpAt_bind (wpAt_stack fun p below => wpAt_of_wpAny ?_)
  wp_walk
  refine wpAt_of_wpAny ?_
  rw [Fn.owner]
  repeat (first | with_reducible refine wpAny_madeHere_exc Fn.canon hC ?_ | with_reducible refine wpAny_loadPart_at hC ?_ | (with_reducible refine wpAny_isSubtype_exc hC ?_; first | rw [hcB] | rw [hcA] | rw [hcN]) | wp_step)
  show R _ _
  rw [Heap.size_push]
  exact hq
end
end Lx
namespace Lx
open PySem PySem.W PySem.Calls PyProof.Rows PySem.Spec
section
variable {prog : Program} {w : World} {A : Around} {R : Result → Shared → Prop} {h : Heap} {g : Array GenState} {d : Drawn} {t : Nat} {os : OsState}
variable {nm q : PySem.Str} {C N : Addr} {bs bm : List Value} {hdct : Bool} {sn : List PySem.Str} {sub : List Value} {ab : Bool} {col : Option Bool} {dd : Option Addr} {k0 k1 k2 k3 k5 : Option Value}
theorem exc_coreF {rest : List Value} {init : Value} (hC : h.get? C = some (excClassObj nm q C N bs bm hdct sn sub ab col dd k0 k1 k2 k3 k5 "Exception.__new__"))
    (hcB : (Value.ref C :: bm).contains (.type "Exception") = true) (hcA : (Value.ref C :: bm).contains (.type "AttributeError") = false) (hcN : (Value.ref C :: bm).contains (.type "NameError") = false)
    (call : Looks (model prog w) h (specialOf (.ref C) "__call__") (some (.builtin "type.__call__"))) (typ : Looks (model prog w) h (isInstance (.ref C) (.type "type")) true)
    (self : Looks (model prog w) h (isSubtype (.ref C) (.ref C)) true)
    (hi : Looks (model prog w) h (typeLookup (.ref C) "__init__") (some init)) (hb : ∀ self, Looks (model prog w) h (bindSpecial init self) (init, [self])) (hrest : rest.length ≤ sizeLine)
    (hq : codeF (model prog w) (A.under (.builtin "type.__call__" ⟨.ref C :: rest, []⟩)) (.call init ⟨.ref (h.objs.size + 1) :: rest, []⟩) (InitBack (h.objs.size + 1) R) ⟨excHeap h C rest, g, d, t, os⟩) :
    codeF (model prog w) A (.call (.ref C) ⟨rest, []⟩) R ⟨h, g, d, t, os⟩ := by
  have Fn := F.excBase_Exception
  refine codeF_tree rfl ?_
  have k1 : wpAny (model prog w) (A.under (.call (.ref C) ⟨rest, []⟩)) ((model prog w).den (.call (.ref C) ⟨rest, []⟩)) (fun fin s' => fin = .again (.call (.builtin "type.__call__") ⟨.ref C :: rest, []⟩) ∧ s' = ⟨h, g, d, t, os⟩) (fun u_ u_ => False) ⟨h, g, d, t, os⟩ := by
    show wpAny _ _ (callAny (.ref C) _) _ _ _
    refine nd_load hC ?_
    show wpAny _ _ (callAny.viaDunder (.ref C) _) _ _ _
    unfold callAny.viaDunder
    refine wpAny_bind (call.at ?_)
    dsimp only
    rw [tc_bind]
    exact wpAny_bind (wpAny_pure (wpAny_bind (wpAny_pure (wpAny_pure (a := Fin.again (.call (.builtin "type.__call__") ⟨.ref C :: rest, []⟩)) ⟨rfl, rfl⟩))))
  refine wpF_mono (wpF_any k1) (fun fin s' hp => ?_) fun u_ u_ x => x.elim
  obtain ⟨rfl, rfl⟩ := hp
  refine ⟨rfl, codeF_callBuiltin (Code.quiet_builtin _ (by decide +kernel)) (check_slot tc_kind tc_split typ (tc_args _ _ _) rfl) (codeF_builtin (typeCall_fine _) entry_typeCall ?_)⟩
  unfold Builtin.«type.__call__»
  refine wpF_bind (wpF_any (wpAny_mroOf_exc hC ?_))
  refine wpF_bind (wpF_any (wpAny_madeBy_exc hC ?_))
  refine wpF_bind (wpF_pure (wpF_bind (wpF_holding (wpF_any (wpAny_call (codeAny_call_builtin_code (Code.quiet_builtin _ Fn.quiet) (wpAny_check_new_subU (bmB := bm) (Bn := "Exception") Fn ?_ .base hC (exc_new hC hcB hcA hcN ?_ hrest))))))))
  · rw [List.contains_cons] at hcB; simpa using hcB
  have k : ∀ b o, h.get? b = some o → (excHeap h C rest).get? b = some o := fun b o e => Heap.get?_push_of_some _ (Heap.get?_push_of_some _ e)
  have hx : (excHeap h C rest).get? (h.objs.size + 1) = some (excObj h C) := by unfold excHeap excObj; heap_get
  have t1 : Looks (model prog w) (excHeap h C rest) (typeOf (.ref (h.objs.size + 1))) (.ref C) := (Looks.ld hx).andThen .now
  have s1 := self.keeps k
  have i1 := hi.keeps k
  have b1 := (hb (.ref (h.objs.size + 1))).keeps k
  refine wpF_look (t1.andThen s1) ?_
  have sp : Looks (model prog w) (excHeap h C rest) (specialOf (.ref (h.objs.size + 1)) "__init__") (some init) := t1.andThen i1
  refine wpF_then (P := fun v s' => ∃ r, v = some r ∧ InitBack (h.objs.size + 1) R (.ok (.ret r)) s') (wpF_holding ?_) fun v s' hv => ?_
  · unfold callSpecial?
    refine wpF_look sp (wpF_holding (wpF_look b1 (wpF_then (P := fun r s' => InitBack (h.objs.size + 1) R (.ok (.ret r)) s') (wpF_call (codeF_mono hq fun r s' z => ?_)) fun r s' z => wpF_pure ⟨r, rfl, z⟩)))
    rcases r with e | (v | _ | _ | _) <;> first | exact z | exact z.elim | skip
  · obtain ⟨r, rfl, rfl, hR⟩ := hv
    exact wpF_pure hR
end
section
variable {W : Wd} {X : Cx} {st : St} {s : Shared} {n : Nat}
structure ExcK (K : Frag) (fI : Ad) : Prop where
  obj : ∃ nm q N bs bm hdct sn sub ab col dd k0 k1 k2 k3 k5, K.lookup 87 = some (excClassObj nm q 87 N bs bm hdct sn sub ab col dd k0 k1 k2 k3 k5 "Exception.__new__") ∧
    (Value.ref 87 :: bm).contains (.type "Exception") = true ∧ (Value.ref 87 :: bm).contains (.type "AttributeError") = false ∧ (Value.ref 87 :: bm).contains (.type "NameError") = false
  call : specialIn K (.ref 87) "__call__" = some (some (.builtin "type.__call__"))
  typ : instIn K (.ref 87) (.type "type") = some true
  init : findIn K (.ref 87) "__init__" = some (some (.ref fI))
  fn : typeIn K (.ref fI) = some (.type "function")
theorem calls_exc (w : WOK W) {opq : Nat → PySem.Stmt} {fI : Ad} {ps : List Nm} {b : Ss} {fd : FuncData} (ek : ExcK W.K fI) (fn : FnAt W.K opq fI ps b fd)
    (hbind : ∀ args : List Value, args.length = ps.length → bindArgs fd ⟨args, []⟩ = pure ((ps.map nm).zip args)) {args : List V} (hlen : args.length + 1 = ps.length) (hl : args.length ≤ LIM)
    {mh : MH} {Q : V → MH → Prop} {Xc : MH → Prop} (h : ∀ x, mh x = none → wpBody (Ot W n) ps b (.ref x :: args) (mh.set x (.exc 87 none)) (fun v mh' => v = .none ∧ Q (.ref x) mh') Xc) : Calls W (n + 2) 87 args mh Q Xc := by
  refine calls_of_code w fun X loc s rargs c hn R hv => ?_
  obtain ⟨hh, g, d, t, os⟩ := s
  obtain ⟨nm', q, N, bs, bm, hdct, sn, sub, ab, col, dd, k0, k1, k2, k3, k5, hK, hB, hA, hN⟩ := ek.obj
  have hC := w.kin.keeps R.stays 87 _ hK
  have kin := w.kin.keeps R.stays
  obtain ⟨cd, hcd, hmro, _⟩ := w.kf.exc
  have self : Looks (M W) hh (isSubtype (.ref 87) (.ref 87)) true := looks_mroIn kin (by unfold mroIn; rw [hcd, Option.bind_some, hmro]; rfl)
  refine exc_coreF hC hB hA hN (looks_specialIn kin ek.call) (looks_instIn kin ek.typ) self (looks_findIn kin ek.init) (fun self => bind_fn kin self ek.fn) (by rw [hv.1, sizeLine_eq]; unfold LIM at hl; lia) ?_
  let X' : Cx := ⟨X.A.under (.builtin "type.__call__" ⟨.ref 87 :: rargs, []⟩), X.env, X.L, X.outer, X.n - 1⟩
  have c' : CxOK X' := by
    refine ⟨?_, c.handled, c.frame, c.locals, c.globals, c.builtins, c.kind, ?_, ?_⟩
    · exact (show (X.A.under (.builtin "type.__call__" ⟨.ref 87 :: rargs, []⟩)).frames = X.A.frames from rfl).trans c.frames
    · have := c.depth
      show X.A.depth + 1 + 2 * (X.n - 1) < recursionLimit
      lia
    · have := c.units
      show X.A.units + 1 + 20 * (X.n - 1) + 20 < cLine
      lia
  have N1 := R.push { cls := .type "tuple", data := .seq rargs.toArray } t
  have e1 : (Shared.heap ⟨hh.push { cls := .type "tuple", data := .seq rargs.toArray }, g, d, t, os⟩).objs.size = hh.objs.size + 1 := Heap.size_push _ _
  have N2 := N1.rep.new (tk := t) (o := excObj hh 87) (mo := .exc 87 none) c rfl ⟨rfl, _, _, _, Heap.get?_push_size _ rfl, rfl, rfl, rfl, rfl, rfl⟩
  have N := N1.trans N2
  dsimp only at N N2 e1
  rw [e1] at N
  have n2 : mh (hh.objs.size + 1) = none := by
    refine mh_none R (s := ⟨hh, g, d, t, os⟩) ?_
    cases q : hh.get? (hh.objs.size + 1) with
    | none => rfl
    | some o => exact absurd (Heap.lt_size q) (Nat.not_lt.mpr (Nat.le_succ _))
  have bd := body_ok (n := n) w c' (by show n + 1 ≤ X.n - 1; lia) (loc := loc) (N.rep.same rfl rfl rfl) fn (BindsTo.of_eq (hbind (.ref (hh.objs.size + 1) :: rargs) (by rw [List.length_cons, hv.1, hlen])))
    (args := .ref (hh.objs.size + 1) :: args) (vreps_cons (.ref _) (N.vs R hv)) (h _ n2)
  refine codeF_mono bd fun r s' bk => ?_
  rcases r with e | (_ | _ | _ | rv)
  · obtain ⟨a, mh', rfl, x, N', fl⟩ := bk
    obtain ⟨T', oe, vs, oT, ts, a0, n0, nT, q1, q2, q3, q4, q5, q6, q7, q8, q9, q10, q11⟩ := fl
    exact ⟨a, mh', rfl, x, N.trans (N'.same rfl rfl rfl), ⟨T', oe, vs, oT, ts, a0, dead_back N.stp n0, dead_back N.stp nT, q1, q2, q3, q4, q5, q6, q7, q8, q9, q10, q11⟩⟩
  · exact bk.elim
  · exact bk.elim
  · exact bk.elim
  · obtain ⟨v, mh', ⟨rfl, q⟩, N', r⟩ := bk
    cases r
    exact ⟨rfl, _, mh', q, N.trans (N'.same rfl rfl rfl), .ref _⟩
end
end Lx
namespace Lx
open PySem PySem.W PySem.Calls PyProof.Rows PySem.Spec
section
variable {prog : Program} {w : World} {A : Around} {E : Value → Shared → Prop} {s : Shared}
theorem codeF_call_cells {R : Result → Shared → Prop} {a : Addr} {o : Obj} {fd : FuncData} {body : List PySem.Stmt} {args : Args} {binds : List (PySem.Str × Value)}
    (hroom : A.depth < recursionLimit) (ho : s.heap.get? a = some o) (hdata : o.data = .func fd) (hlim : s.heap.NoLimit) (hcd : s.heap.CodeRec fd.code fd.qualname)
    (hbody : fd.body = .stmts body) (hbind : BindsTo s fd args binds) (hclo : fd.closure = [])
    (hkind : ∀ x ∈ binds, fd.scope.names.lookup x.1 = some .local ∨ (fd.scope.names.lookup x.1 = some .cell ∧ ((cellsFrom (s.heap.objs.size + 1) fd.scope.names []).lookup x.1).isSome = true))
    (h : ∀ s₁, InCallC s (callEnvC fd s.heap.objs.size a).locals (bindL (callEnvC fd s.heap.objs.size a).kindOf binds fun u_ => none) (callEnvC fd s.heap.objs.size a).cells
        (bindC (callEnvC fd s.heap.objs.size a).kindOf binds fun u_ => none) s₁ →
      wpF (model prog w) (A.deeper (callEnvC fd s.heap.objs.size a)) (execs body (callEnvC fd s.heap.objs.size a)) (fun f s' => R (.ok (.ret (match f with | .ret v => v | _ => .none))) s')
        (fun e s' => wpAny (model prog w) (A.deeper (callEnvC fd s.heap.objs.size a)) (leaving (callEnvC fd s.heap.objs.size a) e) (fun u_ s'' => R (.error e) s'') (fun e' s'' => R (.error e') s'') s') s₁)
    (hco : fd.scope.isCoroutine = false) (hgen : fd.scope.isGenerator = false) (hk : fd.scope.kind = .function) : codeF (model prog w) A (.call (.ref a) args) R s := by
  refine codeF_tree rfl ?_
  show wpF _ A.in1 (callAny (.ref a) args) _ _ s
  obtain ⟨c, oc, vs, tq, hc, hoc, hdc, hq⟩ := hcd
  have key : wpAny (model prog w) A.in1 (callAny (.ref a) args) (fun fin s' => fin = .again (.func body (callEnvC fd s.heap.objs.size a)) ∧ InCallC s (callEnvC fd s.heap.objs.size a).locals (bindL (callEnvC fd s.heap.objs.size a).kindOf binds fun u_ => none) (callEnvC fd s.heap.objs.size a).cells
        (bindC (callEnvC fd s.heap.objs.size a).kindOf binds fun u_ => none) s') (fun u_ u_ => False) s := by
    simp only [callAny]
    refine wpAny_bind (wpAny_load ho ?_)
    simp only [hdata, callFunction, hco, hgen, hbody, hc, hclo]
    refine wpAny_bind (m := field (.ref c) 1) (wpAny_field hoc hdc hq (wpAny_bind (wpAny_pure ?_)))
    refine wpAny_bind (hbind _ _ _ _ (wpAny_bind ?_))
    refine wpAny_newFunctionEnv_cells hk hkind fun env he s' x => ?_
    subst he
    refine wpAny_bind (wpAny_enterFrame (hlim.keeps x.toInCall.keep) hroom (wpAny_pure ⟨?_, ?_⟩))
    · unfold callEnvC; rw [← hc]
    · unfold callEnvC; exact x
  refine wpF_mono (wpF_any key) (fun fin s' hp => ?_) fun u_ u_ x => x.elim
  obtain ⟨rfl, x⟩ := hp
  exact ⟨rfl, codeF_func (h s' x)⟩
end
section
variable {W : Wd} {X : Cx} {st : St} {s : Shared} {n : Nat}
theorem storeCell_ok (c : CxOK X) (R : Rep W X st s) {i : Nm} {v : V} {rv : Value} {cc : Addr} (hi : i < NN) (hk : X.env.kindOf (nm i) = some .cell) (hl : X.env.cells.lookup (nm i) = some cc) (hap : X.env.cells.Pairwise fun x y => x.2 ≠ y.2) (hv : VRep st.mh s.heap v rv)
    (hH : W.H.get? cc = none) (hout : X.outer = []) (hin : ∀ i j, nm i = nm j → i < NN → j < NN → i = j)
    {Qr : Unit → Shared → Prop} {Er} (hQ : ∀ s', Rep W X { st with loc := st.loc.set i v } s' → (∀ b o, b ≠ cc → s.heap.get? b = some o → s'.heap.get? b = some o) → Qr () s') : wpAny (M W) X.A (storeName X.env (nm i) rv) Qr Er s := by
  obtain ⟨p, hp, rfl⟩ := mem_lookup hl
  obtain ⟨mc, oc, vc, hoc, hdc⟩ := R.cel p hp
  refine wpAny_storeName_cell c.kind hk hl ⟨oc, hoc, hdc⟩ fun h' hc' hs' => ?_
  obtain ⟨oc', hoc', hdc'⟩ := hc'
  have keep : ∀ b o, b ≠ p.2 → s.heap.get? b = some o → h'.get? b = some o := fun b o n e => (hs'.2 b n).trans e
  have up : ∀ b o xs n, s.heap.get? b = some o → st.mh b = none → o.data = .seq xs n → st.mh b = none ∧ ∃ sl, h'.get? b = some { o with slots := sl } := fun b o xs n e m d =>
    ⟨m, o.slots, keep b o (by rintro rfl; rw [hoc] at e; cases e; rw [hdc] at d; cases d) e⟩
  refine hQ { s with heap := h' } ⟨fun b o e => keep b o (by rintro rfl; rw [hH] at e; cases e) (R.stays b o e), ?_, fun a o e => ⟨orep_mono up (fun o' h => keep a o' (by rintro rfl; rw [mc] at e; cases e) h) (R.objs a o e).1, (R.objs a o e).2⟩, ?_, R.fr, fun q hq => ?_, R.gens, R.os⟩ keep
  · obtain ⟨m, ⟨oL, es, ep, eL, dL, rL⟩, q⟩ := R.ns
    have nL : X.L ≠ p.2 := by rintro e; rw [← e, eL] at hoc; cases hoc; rw [dL] at hdc; cases hdc
    refine ⟨m, ⟨oL, es, ep, keep _ _ nL eL, dL, rL⟩, fun j u hj hu => ?_⟩
    by_cases e : j = i
    · subst e
      simp only [Fs.set, if_true] at hu
      cases hu
      refine ⟨rv, ⟨fun hkl => ?_, fun u_ => ⟨p.2, oc', hl, hoc', hdc'⟩⟩, vrep_mono up hv⟩
      rw [hk] at hkl; cases hkl
    · simp only [Fs.set, if_neg e] at hu
      obtain ⟨ru, ⟨l1, l2⟩, vr⟩ := q j u hj hu
      refine ⟨ru, ⟨l1, fun hc => ?_⟩, vrep_mono up vr⟩
      obtain ⟨c2, o2, e1, e2, e3⟩ := l2 hc
      refine ⟨c2, o2, e1, keep _ _ ?_ e2, e3⟩
      intro q
      have := name_of_addr hap (mem_of_lookup e1) (q ▸ mem_of_lookup hl)
      exact e (hin j i this hj hi)
  · refine funFrames_on R.ff fun b hb o ho => ⟨o, keep b o ?_ ho, rfl⟩
    intro hbp
    rw [hout, List.filterMap_cons, c.frame] at hb
    have hbL : b = X.L := by simpa using hb
    obtain ⟨m, ⟨oL, es, ep, eL, dL, rL⟩, q⟩ := R.ns
    rw [hbL] at hbp
    rw [← hbp, eL] at hoc; cases hoc; rw [dL] at hdc; cases hdc
  · by_cases e : q.2 = p.2
    · rw [e]; exact ⟨mc, oc', _, hoc', hdc'⟩
    · obtain ⟨m2, o2, v2, e2, d2⟩ := R.cel q hq
      exact ⟨m2, o2, v2, keep _ _ e e2, d2⟩
end
end Lx
namespace Lx
open PySem PySem.W PySem.Calls PyProof.Rows PySem.Spec
section
variable {prog : Program} {w : World} {A : Around} {E : Value → Shared → Prop} {s : Shared} {env : Env}
theorem fListComp {M : Model} {elt iter : PySem.Expr} {x : PySem.Str} {px : Pos} {scope : Scope} {cl : List (PySem.Str × Addr)} {pos : Pos} {Q : Value → Shared → Prop}
    (hclos : closureFor scope env = pure cl) (hkind : scope.kind = .function) (hnames : ∀ x ∈ scope.names, x.2 = .local → scope.names.lookup x.1 = some .local)
    (hs : ∀ x, foldedSetIterable iter env x = pure x)
    (h : wpF M A (eval iter env) (fun xv s₁ => wpF M A (pyIter xv) (fun it s₂ => wpF M A (newList []) (fun acc s₃ => wpF M A (newFunctionEnv scope env.globals cl [] env.qual none .none (some env)) (fun cenv s₄ =>
      codeF M A (.compStart (.ListComp elt [⟨.Name x px, iter, [], 0⟩] scope pos) 0 it acc { cenv with scope := relabel scope env }) (fun r s' => match r with
        | .ok _ => ∃ m, s'.heap.Ns cenv.locals m ∧ ∀ h', Heap.SameBut cenv.locals s'.heap h' → Q acc { s' with heap := h' }
        | .error _ => False) s₄) E s₃) E s₂) E s₁) E s) :
    wpF M A (eval (.ListComp elt [⟨.Name x px, iter, [], 0⟩] scope pos) env) Q E s := by
  rw [eval_ListComp]
  unfold comprehension
  rw [hclos]
  refine wpF_then (m := eval iter env) h fun xv s₁ h₁ => wpF_standAt ?_
  refine wpF_bind (wpF_eq (hs xv) (wpF_pure ?_))
  refine wpF_then (wpF_holding h₁) fun it s₂ h₂ => ?_
  refine wpF_then h₂ fun acc s₃ h₃ => wpF_bind (wpF_pure (wpF_then h₃ fun cenv s₄ h₄ => ?_))
  dsimp only
  have hv : ∀ x ∈ (scope.names.filter fun x => (x.2 == .local || x.2 == .cell) && x.1 != (".0" : PySem.Str)).reverse, x.2 = .local →
      Env.kindOf { cenv with scope := relabel scope env } x.1 = some .local := fun x hx hl => lookup_relabel_local (hnames x (List.mem_filter.mp (List.mem_reverse.mp hx)).1 hl)
  refine wpF_holding (wpF_then (P := fun r s' => match r with
      | .ok _ => ∃ m, s'.heap.Ns cenv.locals m ∧ ∀ h', Heap.SameBut cenv.locals s'.heap h' → Q acc { s' with heap := h' }
      | .error _ => False) (wpF_attempt (wpF_holding (wpF_run (h := none) (codeF_mono h₄ fun r s' hr => ?_)))) fun r s' hr => ?_)
  · cases r with
    | ok f => exact hr
    | error x => exact hr.elim
  · cases r with
    | error x => exact hr.elim
    | ok f =>
      obtain ⟨m, hn, hr⟩ := hr
      exact wpF_bind (wpF_holding (wpF_any (wpAny_comp_letGo (cenv := { cenv with scope := relabel scope env }) hkind _ s' m hv hn fun h' m' u_ hs' => wpF_pure (hr h' hs'))))
theorem codeF_compStart {elt iter : PySem.Expr} {target : PySem.Expr} {scope : Scope} {pos : Pos} {it acc : Value} {R : Result → Shared → Prop}
    (h0 : codeF (model prog w) A (.compLoop (.ListComp elt [⟨target, iter, [], 0⟩] scope pos) 0 it acc env) R s)
    (h : wpAny (model prog w) A (pyIter it) (fun it' s' => codeF (model prog w) A (.compLoop (.ListComp elt [⟨target, iter, [], 0⟩] scope pos) 0 it' acc env) R s') (fun u_ u_ => False) s) :
    codeF (model prog w) A (.compStart (.ListComp elt [⟨target, iter, [], 0⟩] scope pos) 0 it acc env) R s := by
  refine codeF_tree rfl ?_
  show wpF _ _ ((compStart (.ListComp elt [⟨target, iter, [], 0⟩] scope pos) 0 it acc env).onRaise (fun x => do noteFrame x env; standAt theWindowsPlace)) _ _ s
  refine wpF_onRaise (wpF_any ?_)
  unfold compStart
  show wpAny _ _ (ask >>= _) _ _ s
  refine wpAny_bind (wpAny_askSetting (wpAny_ite ?_))
  split
  · first
      | exact wpAny_bind (wpAny_pure (wpAny_pure (And.intro rfl h0)))
      | exact wpAny_pure (And.intro rfl h0)
  · first
      | exact wpAny_bind (wpAny_rule (wpAny_bind (wpAny_standAt (wpAny_bind (wpAny_mono h (fun it' s' h' => wpAny_pure (And.intro rfl h')) fun u_ u_ x => x.elim)))))
      | (refine wpAny_bind (wpAny_rule ?_); show wpAny _ _ (standAt iter.pos >>= _) _ _ s; exact wpAny_bind (wpAny_standAt (wpAny_bind (wpAny_mono h (fun it' s' h' => wpAny_pure (And.intro rfl h')) fun u_ u_ x => x.elim))))
theorem codeF_compLoop {elt target iter : PySem.Expr} {scope : Scope} {pos : Pos} {it acc : Value} {R : Result → Shared → Prop} (I : Nat → Shared → Prop)
    (turn : ∀ n s, I n s → wpAny (model prog w) A (pyNext it) (fun r s₁ => match r with
      | none => R (.ok .next) s₁
      | some v => wpAny (model prog w) A (assign target env v) (fun u_ s₂ => wpF (model prog w) A (eval elt env) (fun x s₃ =>
          wpAny (model prog w) A (call (.builtin "list.append") [acc, x]) (fun u_ s₄ => ∃ m, m < n ∧ I m s₄) (fun u_ u_ => False) s₃) (fun u_ u_ => False) s₂) (fun u_ u_ => False) s₁) (fun u_ u_ => False) s)
    (n : Nat) (h : I n s) (ht : ∀ v, letOwnedTupleGo target it v = pure ()) :
    codeF (model prog w) A (.compLoop (.ListComp elt [⟨target, iter, [], 0⟩] scope pos) 0 it acc env) R s := by
  refine codeF_loop rfl rfl I (fun n s hI => ?_) n s h
  show wpF _ _ ((compTurn (.ListComp elt [⟨target, iter, [], 0⟩] scope pos) 0 it acc env).onRaise (fun x => do noteFrame x env; theTreesLotGoes x)) _ _ s
  have dead : ∀ {α : Type} {m : Sem α} {Q : α → Shared → Prop} {k : Value → Sem Unit} {E : Value → Shared → Prop} {s : Shared}, wpF (model prog w) A m Q (fun u_ u_ => False) s → wpF (model prog w) A (m.onRaise k) Q E s := fun h => wpF_onRaise (wpF_mono h (fun u_ u_ q => q) fun u_ u_ x => x.elim)
  refine dead ?_
  rw [compTurn_list1]
  refine wpF_standAt (wpF_then (wpF_any (turn n s hI)) fun r s₁ h₁ => ?_)
  cases r with
  | none => exact wpF_pure h₁
  | some v =>
    refine wpF_bind (wpF_eq (ht v) (wpF_pure ?_))
    refine wpF_then (wpF_any h₁) fun u_ s₂ h₂ => wpF_bind ?_
    exact wpF_then h₂ fun x s₃ h₃ => wpF_then (wpF_any h₃) fun u_ s₄ h₄ => wpF_pure (wpF_pure ⟨rfl, h₄⟩)
end
end Lx
namespace Lx
open PySem PySem.W PySem.Calls PyProof.Rows PySem.Spec
theorem slot_bytes_join : PySem.Slot "bytes" "join" "bytes.join" :=
  .of (owner := "bytes") (n := "join") (by rw [typeLookup_type, builtinLookup_eq_fast]; kernel_rfl) (by decide +kernel) (by decide +kernel) (by decide +kernel)
    (by first | exact .inl (by decide +kernel) | exact .inr (by decide +kernel)) (by rw [isSubtype_type]; kernel_rfl)
theorem entry_bytes_join : entryFor table "bytes.join" = some Builtin.«bytes.join» := entryFor_of_tree (by kernel_rfl)
theorem args_bytes_join (a b : Value) : argsOk "bytes.join" ⟨[a, b], []⟩ := by
  unfold argsOk; rw [signature?_of (id := "bytes.join") (n := ['n', 'i', 'o', 'j']) (o := ['s', 'e', 't', 'y', 'b']) (by kernel_rfl) FB.owner_bytes]; kernel_rfl
theorem type_bytes_join : typeOf (.builtin "bytes.join") = pure (.type "method_descriptor") := by show builtinType _ = _; rw [builtinType_eq_fast]; kernel_rfl
theorem take_eq {id : String} {b : Array UInt8} {t : Tok} : Builtin.Bytes.takeBufferQuiet? id (.bytes b t) 0 = pure (some (b, none)) := by
  unfold Builtin.Bytes.takeBufferQuiet? Builtin.Bytes.takeBuffer?
  have h0 : ((0 : Int) == Builtin.Bytes.fullReadOnly) = false := by decide +kernel
  rw [KBy.special_eq KBy.look_buffer, KBy.own_buffer]
  simp only [h0, KBy.buffer_eq]
  kernel_rfl
section
variable {M : Model} {A : Around} {E : Value → Shared → Prop} {s : Shared}
theorem bj_loop {β : Type} {f : Nat → β → Sem (ForInStep β)} {P : β → Nat → Prop} {n : Nat} (hf : ∀ i r, i < n → P r i → wpAny M A (f i r) (fun z s' => s' = s ∧ ∃ r', z = .yield r' ∧ P r' (i + 1)) E s)
    (l : Nat) : ∀ (k : Nat) (r : β), k + l ≤ n → P r k → wpAny M A (forIn (List.range' k l 1) r f) (fun r' s' => s' = s ∧ P r' (k + l)) E s := by
  induction l with
  | zero =>
    intro k r _ h
    show wpAny M A (forIn [] r f) _ E s
    rw [List.forIn_nil]; exact wpAny_pure ⟨rfl, h⟩
  | succ l ih =>
    intro k r hl h
    rw [List.range'_succ, List.forIn_cons]
    refine wpAny_bind (wpAny_mono (hf k r (by lia) h) (fun z s' hz => ?_) fun u_ u_ x => x)
    obtain ⟨rfl, r', rfl, h'⟩ := hz
    refine wpAny_mono (ih (k + 1) r' (by lia) h') (fun u_ u_ q => ⟨q.1, ?_⟩) fun u_ u_ x => x
    have := q.2
    rw [show k + 1 + l = k + (l + 1) from by lia] at this
    exact this
abbrev JS := Array (Array UInt8) × List (Value × Option Value)
noncomputable def JP (r : JS) (k : Nat) : Prop := r.1.size = k ∧ (∀ b ∈ r.1, b.size ≤ 20) ∧ (∀ p ∈ r.2, p.2 = none ∧ ∃ b u, p.1 = Value.bytes b u)
theorem join_rest {α : Type} {n : Nat} {f : Nat → JS → Sem (ForInStep JS)} {k : JS → Sem α} {Q : α → Shared → Prop} (hf : ∀ i r, i < n → JP r i → wpAny M A (f i r) (fun z s' => s' = s ∧ ∃ r', z = .yield r' ∧ JP r' (i + 1)) E s)
    (hk : ∀ r, JP r n → wpAny M A (k r) Q E s) : wpAny M A (forIn [:n] ((#[], []) : JS) f >>= k) Q E s := by
  rw [Std.Legacy.Range.forIn_eq_forIn_range']
  have hsz : Std.Legacy.Range.size [:n] = n := by simp [Std.Legacy.Range.size]
  rw [hsz]
  refine wpAny_bind (wpAny_mono (bj_loop (n := n) (P := JP) hf n 0 (#[], []) (by lia) ⟨rfl, by simp, by simp⟩) (fun r s' hr => ?_) fun u_ u_ x => x)
  obtain ⟨rfl, h⟩ := hr
  exact hk r (by rw [Nat.zero_add] at h; exact h)
theorem joinLetGo_ok : ∀ (l : List (Value × Option Value)) (keep : List Value) (Q : Unit → Shared → Prop), (∀ p ∈ l, p.2 = none) → Q () s → wpAny M A (Builtin.Bytes.joinLetGo l keep) Q E s
  | [], keep, Q, _, h => wpAny_pure h
  | (x, w) :: r, keep, Q, hn, h => by
    have : w = none := hn (x, w) (.head _)
    subst this
    unfold Builtin.Bytes.joinLetGo
    exact wpAny_bind (wpAny_letGo (joinLetGo_ok r keep Q (fun p hp => hn p (.tail _ hp)) h))
theorem joined_small : ∀ (l : List (Array UInt8 × Nat)) (o : Array UInt8), (∀ p ∈ l, p.1.size ≤ 20) → (l.foldl (fun out (p : Array UInt8 × Nat) => (if p.2 > 0 then out ++ #[] else out) ++ p.1) o).size ≤ o.size + 20 * l.length
  | [], o, _ => Nat.le_refl _
  | p :: r, o, h => by
    rw [List.foldl_cons]
    have h1 := joined_small r ((if p.2 > 0 then o ++ #[] else o) ++ p.1) fun q hq => h q (.tail _ hq)
    have h2 := h p (.head _)
    have h3 : ((if p.2 > 0 then o ++ #[] else o) ++ p.1).size = o.size + p.1.size := by split <;> simp
    rw [h3] at h1
    rw [List.length_cons]
    exact Nat.le_trans h1 (by lia)
theorem sum_small : ∀ (l : List (Array UInt8)) (o : Nat), (∀ p ∈ l, p.size ≤ 20) → l.foldl (fun x1 x2 => x1 + x2.size) o ≤ o + 20 * l.length
  | [], o, _ => Nat.le_refl _
  | p :: r, o, h => by
    rw [List.foldl_cons]
    have h1 := sum_small r (o + p.size) fun q hq => h q (.tail _ hq)
    have h2 := h p (.head _)
    simp only [List.length_cons]
    lia
end
section
variable {prog : Program} {w : World} {A : Around} {E : Value → Shared → Prop} {s : Shared}
theorem join_call {a : Ad} {items : Array Value} {t : Tok} (hl : s.heap.IsList a items) (hi : ∀ (i : Nat) (x : Value), items[i]? = some x → ∃ b u, x = Value.bytes b u ∧ b.size ≤ 20) (hn : items.size ≤ 20) {Q : Value → Shared → Prop}
    (hQ : ∀ b u tk, b.size ≤ 1000 → Q (.bytes b u) { s with toks := tk }) : wpAny (model prog w) A (call (.builtin "bytes.join") [.bytes #[] t, .ref a]) Q E s := by
  obtain ⟨o, ho, hc, m, hd⟩ := hl
  refine wpAny_call_entry slot_bytes_join (typeIs_bytes _ _ _) entry_bytes_join ?_ (args_bytes_join _ _)
  show wpAny _ _ (Builtin.Bytes.joinM .bytes ⟨[.bytes #[] t, .ref a], []⟩) _ _ s
  unfold Builtin.Bytes.joinM
  refine wpAny_bind (wpAny_of_eq (a := (Value.bytes #[] t, Value.ref a)) rfl ?_)
  show wpAny _ _ (Builtin.Bytes.joinItems (.ref a) >>= _) _ _ s
  refine wpAny_bind ?_
  unfold Builtin.Bytes.joinItems
  refine wpAny_bind ?_
  show wpAny _ _ (loadPart a (some headPart) >>= _) _ _ _
  refine wpAny_bind (wpAny_loadPart ho (wpAny_pure ?_))
  rw [hc, if_pos (by decide)]
  refine wpAny_pure ?_
  refine wpAny_bind (wpAny_seqItems ho hd ?_)
  have turn : ∀ (i : Nat) (r : JS), i < items.size → JP r i → ∃ b u, items.getD i Value.none = Value.bytes b u ∧ JP (r.1.push b, r.2 ++ [(Value.bytes b u, none)]) (i + 1) ∧ (r.2.any fun x => x.1.onHeap) = false := fun i r hlt hP => by
    obtain ⟨b, u, hx, hb⟩ := hi i items[i] (by simp [hlt])
    refine ⟨b, u, by simp [hlt, hx], ⟨by rw [Array.size_push, hP.1], fun c hc => ?_, fun p hp => ?_⟩, ?_⟩
    · rcases Array.mem_push.mp hc with h | h
      · exact hP.2.1 c h
      · rw [h]; exact hb
    · rcases List.mem_append.mp hp with h | h
      · exact hP.2.2 p h
      · have : p = (Value.bytes b u, none) := by simpa using h
        rw [this]; exact ⟨rfl, b, u, rfl⟩
    · rw [List.any_eq_false]
      intro p hp
      obtain ⟨_, c, v, e⟩ := hP.2.2 p hp
      rw [e]; simp [Value.onHeap]
  have fin : ∀ r : JS, JP r items.size → wpAny (model prog w) A.in1 (do
      let result ← mkBytes (Builtin.Bytes.joined #[] r.1.toList)
      holding (result :: r.2.flatMap fun (y, u) => y :: u.toList) point
      Builtin.Bytes.joinLetGo r.2 [result]
      ret result) (fun fin s' => ∃ v, fin = PySem.Fin.done (.ret v) ∧ Q v s') E s := fun r hP => by
    have h1 := joined_small r.1.toList.zipIdx #[] fun p hp => hP.2.1 p.1 (by
      have := List.fst_mem_of_mem_zipIdx hp
      simpa using this)
    have h2 : r.1.toList.length = r.1.size := by simp
    have h3 : (Builtin.Bytes.joined #[] r.1.toList).size ≤ 20 * r.1.size := by
      unfold Builtin.Bytes.joined
      simpa using h1
    have h4 := hP.1
    refine wpAny_bind (wpAny_mkBytes (hb := by rw [sizeLine_eq]; lia) ?_)
    exact wpAny_bind (wpAny_holding (wpAny_point (wpAny_bind (joinLetGo_ok r.2 _ _ (fun p hp => (hP.2.2 p hp).1) (wpAny_pure ⟨_, rfl, hQ _ _ _ (by lia)⟩)))))
  have short : ∀ r : JS, JP r items.size → Builtin.Bytes.tooLong (r.1.foldl (fun x1 x2 => x1 + x2.size) ((#[] : Array UInt8).size * (r.1.size - 1))) = false := fun r hP => by
    have h1 := sum_small r.1.toList ((#[] : Array UInt8).size * (r.1.size - 1)) fun p hp => hP.2.1 p (by simpa using hp)
    rw [Array.foldl_toList] at h1
    have h2 : r.1.toList.length = r.1.size := by simp
    have := hP.1
    refine KBy.tooLong_not ?_
    have h3 : (#[] : Array UInt8).size * (r.1.size - 1) = 0 := by simp
    rw [h3] at h1 ⊢
    lia
  obtain ⟨l⟩ := items
  cases l with
  | nil =>
    show wpAny _ _ (forIn [:0] ((#[], []) : JS) _ >>= _) _ _ s
    refine join_rest (fun i r hlt hP => absurd hlt (Nat.not_lt_zero _)) (fun r hP => ?_)
    show wpAny _ _ (Builtin.Bytes.payload (.bytes #[] t) >>= _) _ _ s
    refine wpAny_bind (wpAny_of_eq (a := #[]) rfl ?_)
    show wpAny _ _ (if Builtin.Bytes.tooLong _ = true then _ else _) _ _ s
    rw [if_neg (by rw [show Builtin.Bytes.tooLong _ = false from short r hP]; simp)]
    exact fin r hP
  | cons x l =>
    cases l with
    | nil =>
      obtain ⟨b, u, rfl, hb⟩ := hi 0 x rfl
      show wpAny _ _ (typeOf (.bytes b u) >>= _) _ _ s
      refine wpAny_bind (wpAny_pure ?_)
      rw [if_pos (by decide)]
      exact wpAny_bind (wpAny_rule (wpAny_pure ⟨_, rfl, hQ b u s.toks (by lia)⟩))
    | cons y z =>
      show wpAny _ _ (forIn [:(⟨x :: y :: z⟩ : Array Value).size] ((#[], []) : JS) _ >>= _) _ _ s
      refine join_rest (fun i r hlt hP => ?_) (fun r hP => ?_)
      · obtain ⟨b, u, hx, hP', hany⟩ := turn i r hlt hP
        show wpAny _ _ (seqItems? (.ref a) >>= _) _ _ s
        refine wpAny_bind (wpAny_seqItems ho hd ?_)
        show wpAny _ _ (if (_ || List.any r.2 _) = true then _ else _) _ _ s
        rw [if_neg (by rw [hany]; decide)]
        show wpAny _ _ (holding _ (Builtin.Bytes.takeBufferQuiet? _ ((⟨x :: y :: z⟩ : Array Value).getD i Value.none) 0) >>= _) _ _ s
        rw [hx]
        refine wpAny_bind (wpAny_holding (wpAny_of_eq take_eq ?_))
        show wpAny _ _ (seqItems? (.ref a) >>= _) _ _ s
        refine wpAny_bind (wpAny_seqItems ho hd ?_)
        show wpAny _ _ (if (_ != _) = true then _ else _) _ _ s
        rw [if_neg (by simp)]
        exact wpAny_pure ⟨rfl, _, rfl, hP'⟩
      · show wpAny _ _ (Builtin.Bytes.payload (.bytes #[] t) >>= _) _ _ s
        refine wpAny_bind (wpAny_of_eq (a := #[]) rfl ?_)
        show wpAny _ _ (if Builtin.Bytes.tooLong _ = true then _ else _) _ _ s
        rw [if_neg (by rw [show Builtin.Bytes.tooLong _ = false from short r hP]; simp)]
        exact fin r hP
end
end Lx
namespace Lx
noncomputable def FN : List (Ad × List Nm × Ss) := [
  (96, p_is_number, b_is_number), (103, p_wrap, b_wrap), (110, p_is_blank_v, b_is_blank_v), (117, p_digit_of, b_digit_of), (124, p_read_digits_v, b_read_digits_v), (131, p_skip_blanks, b_skip_blanks),
  (138, p_str_to_number, b_str_to_number), (145, p_text_in_base, b_text_in_base), (152, p_number_text, b_number_text), (159, p_to_text, b_to_text), (166, p_c_text, b_c_text), (180, p_chunk_id, b_chunk_id),
  (189, p_is_digit, b_is_digit), (196, p_is_letter, b_is_letter), (203, p_is_name_sign, b_is_name_sign), (210, p_is_blank, b_is_blank), (217, p_is_control, b_is_control), (224, p_is_newline, b_is_newline),
  (231, p_escaped_sign, b_escaped_sign), (238, p_reserved_kinds, b_reserved_kinds), (245, p_token_text, b_token_text),
  (287, p_Lexer_next, b_Lexer_next), (294, p_Lexer_lookahead, b_Lexer_lookahead), (301, p_Lexer_error, b_Lexer_error), (315, p_Lexer_near_text, b_Lexer_near_text), (322, p_Lexer_move, b_Lexer_move), (329, p_Lexer_keep, b_Lexer_keep),
  (336, p_Lexer_keep_and_move, b_Lexer_keep_and_move), (343, p_Lexer_keep_if, b_Lexer_keep_if), (350, p_Lexer_clear, b_Lexer_clear), (357, p_Lexer_end_line, b_Lexer_end_line), (364, p_Lexer_read, b_Lexer_read), (371, p_Lexer_skip_blank, b_Lexer_skip_blank),
  (378, p_Lexer_sign_behind, b_Lexer_sign_behind), (385, p_Lexer_skip_comment, b_Lexer_skip_comment), (392, p_Lexer_read_compared, b_Lexer_read_compared), (399, p_Lexer_read_dots, b_Lexer_read_dots), (406, p_Lexer_read_word, b_Lexer_read_word),
  (413, p_Lexer_read_numeral, b_Lexer_read_numeral), (420, p_Lexer_read_bracket, b_Lexer_read_bracket), (427, p_Lexer_read_level, b_Lexer_read_level), (434, p_Lexer_read_long, b_Lexer_read_long), (441, p_Lexer_read_inner, b_Lexer_read_inner),
  (448, p_Lexer_read_string, b_Lexer_read_string), (455, p_Lexer_read_escape, b_Lexer_read_escape), (462, p_Lexer_read_digits, b_Lexer_read_digits),
  (476, p_all_tokens, b_all_tokens), (483, p_f_law_tossed, b_f_law_tossed), (490, p_f_law_told, b_f_law_told), (497, p_f_law_ends, b_f_law_ends)]
noncomputable def limDef : List V := [.int 64, .int 250, .int 60, .int 200, .int 40, .int 200, .int 2000, .int 50, .int 1000000000, .int 1000000]
structure Sys (C : Nat → Ad → List V → MH → (V → MH → Prop) → (MH → Prop) → Prop) (band : Int → Int → Int) : Prop where
  fn : ∀ f ps b, (f, ps, b) ∈ FN → ∀ n args mh Q X, args.length = ps.length → wpBody (Out.mk0 (C n) band) ps b args mh Q X → C (n + 1) f args mh Q X
  token : ∀ n a b mh Q X, (∀ x d, mh x = none → mh d = none → x ≠ d → wpBody (Out.mk0 (C n) band) p_Token___init__ b_Token___init__ [.ref x, a, b] ((mh.set d (.flds fun u_ => none)).set x (.inst 262 d)) (fun v mh' => v = .none ∧ Q (.ref x) mh') X) → C (n + 2) 262 [a, b] mh Q X
  lexer : ∀ n a b c mh Q X, (∀ x d, mh x = none → mh d = none → x ≠ d → wpBody (Out.mk0 (C n) band) p_Lexer___init__ b_Lexer___init__ [.ref x, a, b, c] ((mh.set d (.flds fun u_ => none)).set x (.inst 465 d)) (fun v mh' => v = .none ∧ Q (.ref x) mh') X) → C (n + 2) 465 [a, b, c] mh Q X
  limits : ∀ n mh Q X, (∀ x d, mh x = none → mh d = none → x ≠ d → wpBody (Out.mk0 (C n) band) p_Limits___init__ b_Limits___init__ (.ref x :: limDef) ((mh.set d (.flds fun u_ => none)).set x (.inst 53 d)) (fun v mh' => v = .none ∧ Q (.ref x) mh') X) → C (n + 2) 53 [] mh Q X
  exc : ∀ n a mh Q X, (∀ x, mh x = none → wpBody (Out.mk0 (C n) band) p_LuaError___init__ b_LuaError___init__ [.ref x, a] (mh.set x (.exc 87 none)) (fun v mh' => v = .none ∧ Q (.ref x) mh') X) → C (n + 2) 87 [a] mh Q X
end Lx
namespace Lx
open PySem PySem.W PySem.Calls PyProof.Rows PySem.Spec
noncomputable def rInt (v : Value) : Option Int := @Value.casesOn (fun u_ => Option Int) v none none none (fun u_ => none) (fun i u_ => some i) (fun u_ u_ => none) (fun u_ u_ => none) (fun u_ u_ => none) (fun u_ => none) (fun u_ => none) (fun u_ => none)
noncomputable def rByt (v : Value) : Option (Array UInt8) := @Value.casesOn (fun u_ => Option (Array UInt8)) v none none none (fun u_ => none) (fun u_ u_ => none) (fun u_ u_ => none) (fun u_ u_ => none) (fun i u_ => some i) (fun u_ => none) (fun u_ => none) (fun u_ => none)
noncomputable def rRef (v : Value) : Option Addr := @Value.casesOn (fun u_ => Option Addr) v none none none (fun u_ => none) (fun u_ u_ => none) (fun u_ u_ => none) (fun u_ u_ => none) (fun u_ u_ => none) (fun u_ => none) (fun u_ => none) some
noncomputable def dSeq (d : Data) : Option (Array Value) := @Data.casesOn (fun u_ => Option (Array Value)) d none (fun u_ => none) (fun xs u_ => some xs) (fun u_ u_ => none) (fun u_ u_ u_ => none) (fun u_ u_ => none) (fun u_ => none) (fun u_ => none) (fun u_ => none) (fun u_ => none) none
noncomputable def dFun (d : Data) : Option FuncData := @Data.casesOn (fun u_ => Option FuncData) d none (fun u_ => none) (fun u_ u_ => none) (fun u_ u_ => none) (fun u_ u_ u_ => none) (fun u_ u_ => none) (fun u_ => none) some (fun u_ => none) (fun u_ => none) none
theorem rInt_inv {v : Value} {i : Int} (e : rInt v = some i) : ∃ t, v = .int i t := by cases v <;> first | (cases e; done) | (cases e; exact ⟨_, rfl⟩)
theorem rByt_inv {v : Value} {b : Array UInt8} (e : rByt v = some b) : ∃ t, v = .bytes b t := by cases v <;> first | (cases e; done) | (cases e; exact ⟨_, rfl⟩)
theorem rRef_inv {v : Value} {a : Addr} (e : rRef v = some a) : v = .ref a := by cases v <;> first | (cases e; done) | (cases e; rfl)
theorem dSeq_inv {d : Data} {xs : Array Value} (e : dSeq d = some xs) : ∃ n, d = .seq xs n := by cases d <;> first | (cases e; done) | (cases e; exact ⟨_, rfl⟩)
theorem dFun_inv {d : Data} {f : FuncData} (e : dFun d = some f) : d = .func f := by cases d <;> first | (cases e; done) | (cases e; rfl)
noncomputable def okVR (v : V) (r : Value) : Bool := @V.casesOn (fun u_ => Bool) v false (fun u_ => false) (fun i => rInt r == some i) (fun b => (rByt r).any fun a => a.toList == b && decide (b.length ≤ LIM)) (fun u_ => false) (fun u_ => false) (fun a => rRef r == some a) (fun u_ => false)
theorem okVR_rep {v : V} {rv : Value} (h : okVR v rv = true) (mh : MH) (hh : Heap) : VRep mh hh v rv := by
  cases v with
  | int i => obtain ⟨t, rfl⟩ := rInt_inv (beq_iff_eq.mp h); exact .int _ _
  | bytes b =>
    obtain ⟨a, ha, h⟩ := any_some h
    obtain ⟨t, rfl⟩ := rByt_inv ha
    have h := Bool.and_eq_true_iff.mp h
    have : a = b.toArray := by rw [← (beq_iff_eq.mp h.1 : a.toList = b)]
    rw [this]; exact .bytes _ _ (of_decide_eq_true h.2)
  | stat a => obtain rfl := rRef_inv (beq_iff_eq.mp h); exact .stat _
  | _ => cases h
noncomputable def okVRs (vs : List V) : List Value → Bool := @List.rec V (fun u_ => List Value → Bool) (fun rs => @List.casesOn Value (fun u_ => Bool) rs true fun u_ u_ => false) (fun v u_ ih rs => @List.casesOn Value (fun u_ => Bool) rs false fun r rs => okVR v r && ih rs) vs
theorem okVRs_rep {vs : List V} : ∀ {rs : List Value}, okVRs vs rs = true → ∀ (mh : MH) (hh : Heap), VReps mh hh vs rs := by
  induction vs with
  | nil =>
    intro rs h mh hh
    cases rs with
    | nil => exact vreps_nil
    | cons => cases h
  | cons v vs ih =>
    intro rs h mh hh
    cases rs with
    | nil => cases h
    | cons r rs =>
      have h := Bool.and_eq_true_iff.mp h
      exact vreps_cons (okVR_rep h.1 mh hh) (ih h.2 mh hh)
noncomputable def globOK (K : Frag) : Bool := globTab.all fun q => (nsIn K mainGlobals (nm q.1)).any fun o => o.any (okVR q.2)
noncomputable def excOK (K : Frag) : Bool := (clsIn K 87).any fun cd => cd.mro == [.ref 87, .ref 74, .type "Exception", .type "BaseException", .type "object"] && cd.hasDict
noncomputable def efldOK (K : Frag) (C : Ad) : Bool := fieldNames.all fun i => findIn K (.ref C) (nm i) == some none
noncomputable def plainOK (K : Frag) (C : Ad) : Bool := hasDictIn K C && findIn K (.ref C) "__getattribute__" == some (some (.builtin "object.__getattribute__")) && findIn K (.ref C) "__getattr__" == some none && findIn K (.ref C) "__setattr__" == some (some (.builtin "object.__setattr__")) && plainOver K C && efldOK K C
noncomputable def methOK (K : Frag) : Bool := lexMT.all fun q => findIn K (.ref 465) (nm q.1) == some (some (.ref q.2)) && isFn K (.ref q.2) && keepIn K (.ref q.2)
noncomputable def slOK (K : Frag) (a : Ad) (vs : List V) : Bool := (K.lookup a).any fun o => o.cls == .type "list" && o.dict.isNone && (dSeq o.data).any (fun xs => okVRs vs xs.toList) && o.slots.size == 0
noncomputable def opq0 : Nat → PySem.Stmt := fun u_ => .Pass ⟨0, 0, 0, 0⟩
noncomputable def fdOp (K : Frag) (a : Ad) : Option FuncData := (K.lookup a).bind fun o => dFun o.data
noncomputable def fdOf (K : Frag) (a : Ad) : FuncData := (fdOp K a).getD default
noncomputable def isFunc (K : Frag) (a : Ad) : Bool := (fdOp K a).isSome
theorem look_of {K : Frag} {a : Ad} (h : isFunc K a = true) : ∃ oc od osl, K.lookup a = some ⟨oc, od, .func (fdOf K a), osl⟩ := by
  obtain ⟨fd, h⟩ := isSome_inv h
  have e : fdOf K a = fd := by unfold fdOf; rw [h]; rfl
  rw [e]
  obtain ⟨o, ho, h⟩ := Option.bind_eq_some_iff.mp h
  obtain ⟨oc, od, odt, osl⟩ := o
  obtain rfl := dFun_inv h
  exact ⟨oc, od, osl, ho⟩
noncomputable def chkFn (K : Frag) (a : Ad) (ps : List Nm) (b : Ss) : Bool :=
  isFunc K a && codeIn K (fdOf K a).code (fdOf K a).qualname && (fdOf K a).globals == mainGlobals && (fdOf K a).builtins == builtinsNs && (fdOf K a).closure.isEmpty && (fdOf K a).scope.kind == .function && !(fdOf K a).scope.isCoroutine && !(fdOf K a).scope.isGenerator &&
    (fdOf K a).scope.names.all (fun x => x.2 != .cell) && okSs (fdOf K a).scope b && (ps.all fun i => okLoc (fdOf K a).scope i) && decide ps.Nodup
theorem fnAt_of {K : Frag} {a : Ad} {ps : List Nm} {b : Ss} (h : chkFn K a ps b = true) (hb : (fdOf K a).body = .stmts (toSs opq0 b)) : FnAt K opq0 a ps b (fdOf K a) := by
  simp only [chkFn, Bool.and_eq_true, beq_iff_eq, Bool.not_eq_true', List.isEmpty_iff, decide_eq_true_eq] at h
  obtain ⟨⟨⟨⟨⟨⟨⟨⟨⟨⟨⟨h1, h2⟩, h3⟩, h4⟩, h5⟩, h6⟩, h7⟩, h8⟩, h9⟩, h10⟩, h11⟩, h12⟩ := h
  exact ⟨look_of h1, hb, h2, h3, h4, h5, h6, h7, h8, fun x hx => by have := List.all_eq_true.mp h9 x hx; simpa using this, h10, h11, h12⟩
noncomputable def newOK (K : Frag) (C fI : Ad) : Bool := makesIn K C && findIn K (.ref C) "__init__" == some (some (.ref fI)) && typeIn K (.ref fI) == some (.type "function")
noncomputable def limC : List Value := [.int 64 210, .int 250 211, .int 60 212, .int 200 213, .int 40 214, .int 200 215, .int 2000 216, .int 50 217, .int 1000000000 218, .int 1000000 219]
theorem limC_ok : okVRs limDef limC = true := by kernel_rfl
noncomputable def excChk (K : Frag) : Bool := (clsIn K 87).any (fun cd => cd.mro.head? == some (.ref 87) && !cd.hasDel && cd.mro.contains (.type "Exception") && !cd.mro.contains (.type "AttributeError") && !cd.mro.contains (.type "NameError")) &&
  (K.lookup 87).any (fun o => o.cls == .type "type" && o.slots.toList.length == 6 && o.slots.toList[4]? == some (some (.builtin "Exception.__new__")))
noncomputable def bltAll : List B := [.len, .bytes, .bytearray, .abs, .int, .bool, .isinstance, .range, .max, .enumerate]
noncomputable def FN4 : List (Ad × List Nm × Ss) := (259, p_Token___init__, b_Token___init__) :: (280, p_Lexer___init__, b_Lexer___init__) :: (71, p_LuaError___init__, b_LuaError___init__) :: FN
noncomputable def FN5 : List (Ad × List Nm × Ss) := (36, p_Limits___init__, b_Limits___init__) :: FN4
noncomputable def facts1 (K : Frag) : Bool := globOK K && (bltAll.all fun b => nsIn K mainGlobals (PySem.Str.ofString (bName b)) == some none) && excOK K && typeIn K (.ref 87) == some (.type "type") && findIn K (.ref 87) "__setattr__" == some (some (.builtin "object.__setattr__")) && efldOK K 87 &&
  classes.all (plainOK K) && methOK K && (staticDefs.all fun f => keepIn K (.ref f)) && slOK K 181 (reserved.map .bytes) && slOK K 182 (others.map .bytes)
noncomputable def facts2 (K : Frag) : Bool := (FN5.all fun f => chkFn K f.1 f.2.1 f.2.2) && newOK K 262 259 && newOK K 465 280 && newOK K 53 36 && excChk K && specialIn K (.ref 87) "__call__" == some (some (.builtin "type.__call__")) && instIn K (.ref 87) (.type "type") == some true &&
  findIn K (.ref 87) "__init__" == some (some (.ref 71)) && typeIn K (.ref 71) == some (.type "function")
structure KOK (K : Frag) : Prop where
  f1 : facts1 K = true
  f2 : facts2 K = true
  bodies : FN5.map (fun f => (fdOf K f.1).body) = FN5.map fun f => FuncBody.stmts (toSs opq0 f.2.2)
  binds : FN4.map (fun f => fun v : Nat → Value => bindArgs (fdOf K f.1) ⟨(List.range f.2.1.length).map v, []⟩) = FN4.map fun f => fun v : Nat → Value => pure ((f.2.1.map nm).zip ((List.range f.2.1.length).map v))
  lim : (fun (S : Setting) (self : Value) => peek K S (bindArgs (fdOf K 36) ⟨[self], []⟩)) = fun u_ self => some ((p_Limits___init__.map nm).zip (self :: limC))
theorem range_map {args : List Value} : (List.range args.length).map (fun i => args.getD i .none) = args := by
  apply List.ext_getElem
  · simp
  · intro i h1 h2
    simp [List.getD, h2]
theorem KOK.bind {K : Frag} (k : KOK K) {f ps b} (hf : (f, ps, b) ∈ FN4) {args : List Value} (h : args.length = ps.length) : bindArgs (fdOf K f) ⟨args, []⟩ = pure ((ps.map nm).zip args) := by
  have e := congrFun (List.map_inj_left.mp k.binds _ hf) (fun i => args.getD i .none)
  dsimp only at e
  rw [← h, range_map] at e
  exact e
theorem KOK.fn {K : Frag} (k : KOK K) {f ps b} (hf : (f, ps, b) ∈ FN5) : FnAt K opq0 f ps b (fdOf K f) := by
  have e := k.f2
  unfold facts2 at e
  have e1 : (FN5.all fun f => chkFn K f.1 f.2.1 f.2.2) = true := by
    simp only [Bool.and_eq_true] at e
    exact e.1.1.1.1.1.1.1.1
  have h1 : chkFn K f ps b = true := List.all_eq_true.mp e1 (f, ps, b) hf
  have h2 : (fdOf K f).body = .stmts (toSs opq0 b) := List.map_inj_left.mp k.bodies (f, ps, b) hf
  exact fnAt_of h1 h2
theorem six {α : Type} {l : List α} (h : l.length = 6) : ∃ a b c d e f, l = [a, b, c, d, e, f] := by
  obtain ⟨a, l, rfl⟩ := List.exists_cons_of_length_eq_add_one h
  obtain ⟨b, l, rfl⟩ := List.exists_cons_of_length_eq_add_one (Nat.succ.inj h)
  obtain ⟨c, l, rfl⟩ := List.exists_cons_of_length_eq_add_one (Nat.succ.inj (Nat.succ.inj h))
  obtain ⟨d, l, rfl⟩ := List.exists_cons_of_length_eq_add_one (Nat.succ.inj (Nat.succ.inj (Nat.succ.inj h)))
  obtain ⟨e, l, rfl⟩ := List.exists_cons_of_length_eq_add_one (Nat.succ.inj (Nat.succ.inj (Nat.succ.inj (Nat.succ.inj h))))
  obtain ⟨f, l, rfl⟩ := List.exists_cons_of_length_eq_add_one (Nat.succ.inj (Nat.succ.inj (Nat.succ.inj (Nat.succ.inj (Nat.succ.inj h)))))
  obtain rfl := List.eq_nil_of_length_eq_zero (Nat.succ.inj (Nat.succ.inj (Nat.succ.inj (Nat.succ.inj (Nat.succ.inj (Nat.succ.inj h))))))
  exact ⟨a, b, c, d, e, f, rfl⟩
theorem excK_of {K : Frag} (h : excChk K = true) : ∃ nm q N bs bm hdct sn sub ab col dd k0 k1 k2 k3 k5, K.lookup 87 = some (excClassObj nm q 87 N bs bm hdct sn sub ab col dd k0 k1 k2 k3 k5 "Exception.__new__") ∧
    (Value.ref 87 :: bm).contains (.type "Exception") = true ∧ (Value.ref 87 :: bm).contains (.type "AttributeError") = false ∧ (Value.ref 87 :: bm).contains (.type "NameError") = false := by
  obtain ⟨h1, h2⟩ := Bool.and_eq_true_iff.mp h
  obtain ⟨cd, e, h1⟩ := any_some h1
  obtain ⟨o, e2, h2⟩ := any_some h2
  simp only [Bool.and_eq_true, beq_iff_eq, Bool.not_eq_true'] at h1 h2
  obtain ⟨⟨⟨⟨h1, h3⟩, h4⟩, h5⟩, h6⟩ := h1
  obtain ⟨⟨h7, h8⟩, h9⟩ := h2
  obtain ⟨bm, hbm⟩ := List.head?_eq_some_iff.mp h1
  obtain ⟨a, b, c, d, e', f, hl⟩ := six h8
  rw [hl] at h9
  obtain rfl := Option.some.inj (show some e' = some (some (.builtin "Exception.__new__")) from h9)
  obtain ⟨oc, od, osl, he⟩ := clsIn_inv e
  rw [e2] at he
  cases he
  obtain ⟨nm, bs, mro, N, q, hdct, sn, sub, ab, col, hd⟩ := cd
  obtain ⟨sl⟩ := osl
  dsimp only at hbm h3 h7 hl h4 h5 h6
  subst hbm h3 h7 hl
  exact ⟨nm, q, N, bs, bm, hdct, sn, sub, ab, col, od, a, b, c, d, f, e2, h4, h5, h6⟩
theorem KOK.exc {K : Frag} (k : KOK K) : ExcK K 71 := by
  have e := k.f2
  simp only [facts2, Bool.and_eq_true, beq_iff_eq] at e
  exact ⟨excK_of e.1.1.1.1.2, e.1.1.1.2, e.1.1.2, e.1.2, e.2⟩
theorem KOK.new {K : Frag} (k : KOK K) {C fI : Ad} (h : (C, fI) = (262, 259) ∨ (C, fI) = (465, 280) ∨ (C, fI) = (53, 36)) : makesIn K C = true ∧ findIn K (.ref C) "__init__" = some (some (.ref fI)) ∧ typeIn K (.ref fI) = some (.type "function") := by
  have e := k.f2
  simp only [facts2, Bool.and_eq_true] at e
  have : newOK K C fI = true := by
    rcases h with h | h | h <;> cases h
    · exact e.1.1.1.1.1.1.1.2
    · exact e.1.1.1.1.1.1.2
    · exact e.1.1.1.1.1.2
  simp only [newOK, Bool.and_eq_true, beq_iff_eq] at this
  exact ⟨this.1.1, this.1.2, this.2⟩
theorem sys_of {W : Wd} (w : WOK W) (k : KOK W.K) : Sys (Calls W) PySem.Builtin.bitAnd where
  fn := fun f ps b hm n args mh Q X hl h => calls_body w (k.fn (.tail _ (.tail _ (.tail _ (.tail _ hm))))) (fun args h => k.bind (.tail _ (.tail _ (.tail _ hm))) h) hl h
  token := fun n a b mh Q X h => by
    have z := k.new (.inl rfl)
    exact calls_new w (args := [a, b]) (dflt := []) (dvals := []) (by decide) z.1 z.2.1 z.2.2 (k.fn (.tail _ (.head _))) (fun u_ u_ => vreps_nil) (fun s self rargs u_ hr => BindsTo.of_eq (by rw [List.append_nil]; exact k.bind (.head _) (by rw [List.length_cons, hr]; rfl))) h
  lexer := fun n a b c mh Q X h => by
    have z := k.new (.inr (.inl rfl))
    exact calls_new w (args := [a, b, c]) (dflt := []) (dvals := []) (by decide) z.1 z.2.1 z.2.2 (k.fn (.tail _ (.tail _ (.head _)))) (fun u_ u_ => vreps_nil) (fun s self rargs u_ hr => BindsTo.of_eq (by rw [List.append_nil]; exact k.bind (.tail _ (.head _)) (by rw [List.length_cons, hr]; rfl))) h
  limits := fun n mh Q X h => by
    have z := k.new (.inr (.inr rfl))
    refine calls_new w (args := []) (dflt := limDef) (dvals := limC) (by decide) z.1 z.2.1 z.2.2 (k.fn (.head _)) (okVRs_rep limC_ok) (fun s self rargs hs hr => ?_) h
    have : rargs = [] := List.eq_nil_of_length_eq_zero hr
    subst this
    exact kp_binds (w.kin.keeps hs) fun S => congrFun (congrFun k.lim S) self
  exc := fun n a mh Q X h =>
    calls_exc w (args := [a]) k.exc (k.fn (.tail _ (.tail _ (.tail _ (.head _))))) (fun args h => k.bind (.tail _ (.tail _ (.head _))) h) rfl (by show 1 ≤ LIM; unfold LIM; decide) h
theorem kf_of {W : Wd} (k : KOK W.K) (hin : W.K.In W.H) : KF W := by
  have e := k.f1
  simp only [facts1, Bool.and_eq_true, beq_iff_eq] at e
  obtain ⟨⟨⟨⟨⟨⟨⟨⟨⟨⟨kglob, kblt⟩, kexc⟩, kext⟩, kexset⟩, kefld⟩, kplain⟩, kmeth⟩, kkeep⟩, ksl1⟩, ksl2⟩ := e
  exact {
    glob := fun q hq => by
      have := List.all_eq_true.mp kglob q hq
      obtain ⟨o, ho, this⟩ := any_some this
      obtain ⟨rv, rfl, this⟩ := any_some this
      exact ⟨rv, ho, fun mh h => okVR_rep this mh h⟩
    blt := fun b => by
      have := List.all_eq_true.mp kblt b (by cases b <;> decide)
      exact beq_iff_eq.mp this
    exc := by
      obtain ⟨cd, e, kexc⟩ := any_some kexc
      simp only [Bool.and_eq_true, beq_iff_eq] at kexc
      exact ⟨cd, e, kexc.1, kexc.2⟩
    exctype := kext
    exset := kexset
    efld := fun i hi => by have := List.all_eq_true.mp kefld i hi; simpa using this
    plain := fun C hC => by
      have := List.all_eq_true.mp kplain C hC
      simp only [plainOK, Bool.and_eq_true, beq_iff_eq] at this
      exact ⟨this.1.1.1.1.1, this.1.1.1.1.2, this.1.1.1.2, this.1.1.2⟩
    fld := fun C hC i hi => by
      have := List.all_eq_true.mp kplain C hC
      simp only [plainOK, Bool.and_eq_true, beq_iff_eq] at this
      have := List.all_eq_true.mp this.2 i hi
      simpa using this
    over := fun C hC => by
      have := List.all_eq_true.mp kplain C hC
      simp only [plainOK, Bool.and_eq_true, beq_iff_eq] at this
      exact this.1.2
    meth := fun q hq => by
      have := List.all_eq_true.mp kmeth q hq
      simp only [Bool.and_eq_true, beq_iff_eq] at this
      exact ⟨this.1.1, this.1.2, this.2⟩
    keep := fun f hf => List.all_eq_true.mp kkeep f hf
    slist := fun a vs h => by
      have key : ∀ {a vs}, slOK W.K a vs = true → ∃ o items n, W.H.get? a = some o ∧ o.cls = .type "list" ∧ o.data = .seq (List.toArray items) n ∧ (∀ mh h, VReps mh h vs items) ∧ o.dict = none ∧ o.slots = #[] := fun {a vs} h => by
        obtain ⟨o, e, h⟩ := any_some h
        simp only [Bool.and_eq_true, beq_iff_eq] at h
        obtain ⟨⟨⟨h1, h2⟩, h3⟩, h4⟩ := h
        obtain ⟨xs, hx, h3⟩ := any_some h3
        obtain ⟨nn, hd⟩ := dSeq_inv hx
        exact ⟨o, xs.toList, nn, hin a _ e, h1, hd, okVRs_rep h3, Option.isNone_iff_eq_none.mp h2, Array.eq_empty_of_size_eq_zero h4⟩
      by_cases e : a = 181
      · have h := (if_pos e).symm.trans h
        cases h; subst e; exact key ksl1
      · by_cases e' : a = 182
        · have h := (if_pos e').symm.trans ((if_neg e).symm.trans h)
          cases h; subst e'; exact key ksl2
        · cases (if_neg e').symm.trans ((if_neg e).symm.trans h) }
end Lx
namespace Lx
theorem mk0_C {C : Ad → List V → MH → (V → MH → Prop) → (MH → Prop) → Prop} {band} : (Out.mk0 C band).C = C := rfl
theorem mk0_b {C : Ad → List V → MH → (V → MH → Prop) → (MH → Prop) → Prop} {band} : (Out.mk0 C band).band = band := rfl
theorem mk0_SL {C : Ad → List V → MH → (V → MH → Prop) → (MH → Prop) → Prop} {band} : (Out.mk0 C band).SL = SLt := rfl
theorem mk0_L {C : Ad → List V → MH → (V → MH → Prop) → (MH → Prop) → Prop} {band} : (Out.mk0 C band).LSE = 87 := rfl
noncomputable def Ext (mh mh' : MH) : Prop := ∀ a o, mh a = some o → mh' a = some o
theorem Ext.refl {mh : MH} : Ext mh mh := fun u_ u_ h => h
theorem Ext.trans {a b c : MH} (x : Ext a b) (y : Ext b c) : Ext a c := fun u_ u_ h => y _ _ (x _ _ h)
theorem Ext.new {mh : MH} {n : Ad} {o : MO} (h : mh n = none) : Ext mh (mh.set n o) := fun a o' e => by
  unfold MH.set
  rw [if_neg (fun q => by subst q; rw [h] at e; cases e)]; exact e
noncomputable def isDig (i : Int) : Bool := decide (48 ≤ i) && decide (i ≤ 57)
noncomputable def isLet (i : Int) : Bool := (decide (65 ≤ i) && decide (i ≤ 90)) || ((decide (97 ≤ i) && decide (i ≤ 122)) || i == 95)
noncomputable def isNam (i : Int) : Bool := isLet i || isDig i
noncomputable def isBlk (i : Int) : Bool := i == 32 || (decide (9 ≤ i) && decide (i ≤ 13))
noncomputable def isNL (i : Int) : Bool := i == 10 || i == 13
noncomputable def isCtl (i : Int) : Bool := (decide (0 ≤ i) && decide (i < 32)) || i == 127
noncomputable def isBlkV (i : Int) : Bool := [32, 9, 10, 11, 12, 13].contains i
noncomputable def seqQ (O : Out) (ss : Ss) (Q : Fl → St → Prop) (X : St → Prop) (f : Fl) (st : St) : Prop := match f with
  | .next => wpSs O ss st Q X
  | f => Q f st
theorem bd_n : bindF [] [] = some (fun u_ => none) := rfl
theorem bd_c {i is v vs} : bindF (i :: is) (v :: vs) = (bindF is vs).map fun m => m.set i v := rfl
theorem tp_n {m} : setTup m [] [] = some m := rfl
theorem tp_c {m i x is v vs} : setTup m ((i, x) :: is) (v :: vs) = setTup (m.set i v) is vs := rfl
theorem pv_t {mh vs} : partsV mh (.tup vs) = some vs := rfl
theorem pv_r {mh a} : partsV mh (.ref a) = (mh a).bind moList := rfl
theorem pv_l {vs} : moList (.list vs) = some vs := rfl
theorem ln_b {O mh b} : lenV O mh (.bytes b) = some b.length := rfl
theorem ln_r {O mh a} : lenV O mh (.ref a) = (mh a).bind moLen := rfl
theorem ln_l {vs} : moLen (.list vs) = some vs.length := rfl
theorem ln_a {vs} : moLen (.barr vs) = some vs.length := rfl
theorem ln_s {O mh a} : lenV O mh (.stat a) = (O.SL a).map (·.length) := rfl
theorem ad_i {x y} : addI (.int x) (.int y) = some (.int (x + y)) := rfl
theorem q0_i {x y} : eq0 (.int x) (.int y) = some (x == y) := rfl
theorem q0_b {x y} : eq0 (.bytes x) (.bytes y) = some (x == y) := rfl
theorem q0_n : eq0 .none .none = some true := rfl
theorem q0_o {x y} : eq0 (.bool x) (.bool y) = some (x == y) := rfl
theorem it_n {v} : inT v [] = some false := rfl
theorem it_c {v x xs} : inT v (x :: xs) = (eq0 v x).bind fun a => (inT v xs).map fun b => a || b := rfl
theorem ssC {O s ss st Q X} (h : ∀ K, K = seqQ O ss Q X → wpS O s st K X) : wpSs O (.cons s ss) st Q X := h _ rfl
theorem ssD {O s ss st Q X} {P : (Fl → St → Prop) → Prop} (h : ∀ K, P K → wpS O s st K X) (r : P (seqQ O ss Q X)) : wpSs O (.cons s ss) st Q X := h _ r
theorem wnil {O st X} {Q : Fl → St → Prop} (h : Q .next st) : wpSs O .nil st Q X := h
theorem b_ai {O x y} : binV O .add (.int x) (.int y) = some (.int (x + y)) := rfl
theorem b_ab {O x y} : binV O .add (.bytes x) (.bytes y) = if x.length + y.length ≤ LIM then some (.bytes (x ++ y)) else none := rfl
theorem b_su {O x y} : binV O .sub (.int x) (.int y) = some (.int (x - y)) := rfl
theorem b_mu {O x y} : binV O .mul (.int x) (.int y) = if x.natAbs < 2 ^ 62 ∨ y.natAbs < 2 ^ 62 then some (.int (x * y)) else none := rfl
theorem b_fd {O x y} : binV O .fdiv (.int x) (.int y) = if 0 < y ∧ y.natAbs < 2 ^ 62 ∧ x.natAbs < 2 ^ 62 then some (.int (x / y)) else none := rfl
theorem b_mo {O x y} : binV O .mod (.int x) (.int y) = if 0 < y then some (.int (x % y)) else none := rfl
theorem b_ba {O x y} : binV O .band (.int x) (.int y) = some (.int (O.band x y)) := rfl
theorem b_sh {O x y} : binV O .shl (.int x) (.int y) = if x.natAbs < 2 ^ 62 ∧ 0 ≤ y ∧ y < 1000 then some (.int (x * 2 ^ y.toNat)) else none := rfl
theorem k_lt {mh x y} : cmpV mh .lt (.int x) (.int y) = some (decide (x < y)) := rfl
theorem k_le {mh x y} : cmpV mh .le (.int x) (.int y) = some (decide (x ≤ y)) := rfl
theorem k_gt {mh x y} : cmpV mh .gt (.int x) (.int y) = some (decide (y < x)) := rfl
theorem k_ge {mh x y} : cmpV mh .ge (.int x) (.int y) = some (decide (y ≤ x)) := rfl
theorem k_ei {mh x y} : cmpV mh .eq (.int x) (.int y) = some (x == y) := rfl
theorem k_eb {mh x y} : cmpV mh .eq (.bytes x) (.bytes y) = some (x == y) := rfl
theorem k_et {mh x y} : cmpV mh .eq (.tup x) (.tup y) = eqL (eq2 mh) x y := rfl
theorem k_er {mh x y} : cmpV mh .eq (.ref x) (.ref y) = eq2 mh (.ref x) (.ref y) := rfl
theorem k_ni {mh x y} : cmpV mh .ne (.int x) (.int y) = some (!(x == y)) := rfl
theorem k_nb {mh x y} : cmpV mh .ne (.bytes x) (.bytes y) = some (!(x == y)) := rfl
theorem k_nt {mh x y} : cmpV mh .ne (.tup x) (.tup y) = (eqL (eq2 mh) x y).map (!·) := rfl
theorem k_nr {mh x y} : cmpV mh .ne (.ref x) (.ref y) = (eq2 mh (.ref x) (.ref y)).map (!·) := rfl
theorem k_is {mh a} : cmpV mh .iss a .none = some (isNone a) := rfl
theorem k_in {mh a} : cmpV mh .isNot a .none = some (!isNone a) := rfl
theorem k_mb {mh i b} : cmpV mh .inn (.int i) (.bytes b) = if 0 ≤ i ∧ i < 256 then some (b.contains (UInt8.ofNat i.toNat)) else none := rfl
theorem k_mt {mh i xs} : cmpV mh .inn (.int i) (.tup xs) = inT (.int i) xs := rfl
theorem k_mu {mh i xs} : cmpV mh .inn (.bytes i) (.tup xs) = inT (.bytes i) xs := rfl
theorem k_xb {mh i b} : cmpV mh .notIn (.int i) (.bytes b) = (if 0 ≤ i ∧ i < 256 then some (b.contains (UInt8.ofNat i.toNat)) else none).map (!·) := rfl
theorem k_xt {mh i xs} : cmpV mh .notIn (.int i) (.tup xs) = (inT (.int i) xs).map (!·) := rfl
theorem k_xu {mh i xs} : cmpV mh .notIn (.bytes i) (.tup xs) = (inT (.bytes i) xs).map (!·) := rfl
theorem n_i {i} : isNone (.int i) = false := rfl
theorem n_b {i} : isNone (.bytes i) = false := rfl
theorem n_t {i} : isNone (.tup i) = false := rfl
theorem n_r {i} : isNone (.ref i) = false := rfl
theorem n_o {i} : isNone (.bool i) = false := rfl
theorem n_n : isNone .none = true := rfl
theorem o_b {b f} : onB (.bool b) f = f b := rfl
theorem c_len {O v mh Q} : bcall O .len [v] mh Q = optP (lenV O mh v) fun n => Q (.int n) mh := rfl
theorem c_byt {O a mh Q} : bcall O .bytes [.ref a] mh Q = optP (mh a) (byF Q mh) := rfl
theorem op_s {α : Type} {x : α} {f : α → Prop} : optP (some x) f = f x := rfl
theorem by_b {Q mh bs} : byF Q mh (.barr bs) = Q (.bytes bs) mh := rfl
theorem by_l {Q mh vs} : byF Q mh (.list vs) = ∃ bs : List UInt8, vs = bs.map (fun b => V.int (b.toNat : Int)) ∧ Q (.bytes bs) mh := rfl
theorem mb_b {bs} : moBarr (.barr bs) = some bs := rfl
theorem md_d {bs} : moDict (.bdict bs) = some bs := rfl
theorem c_bar {O mh Q} : bcall O .bytearray [] mh Q = ∀ n, mh n = none → Q (.ref n) (mh.set n (.barr [])) := rfl
theorem c_abs {O i mh Q} : bcall O .abs [.int i] mh Q = Q (.int i.natAbs) mh := rfl
theorem c_int {O i mh Q} : bcall O .int [.int i] mh Q = Q (.int i) mh := rfl
theorem c_ii {O i mh Q} : bcall O .isinstance [.int i, .bt .int] mh Q = Q (.bool true) mh := rfl
theorem c_io {O i mh Q} : bcall O .isinstance [.int i, .bt .bool] mh Q = Q (.bool false) mh := rfl
theorem c_ib {O i mh Q} : bcall O .isinstance [.int i, .bt .bytes] mh Q = Q (.bool false) mh := rfl
theorem c_bb {O i mh Q} : bcall O .isinstance [.bytes i, .bt .bytes] mh Q = Q (.bool true) mh := rfl
theorem m_ow {O f v args mh Q X} : mrun O (.own f) v args mh Q X = O.C f (v :: args) mh Q X := rfl
theorem m_la {O a u mh Q X} : mrun O .lAppend (.ref a) [u] mh Q X = optP ((mh a).bind moList) fun vs => vs.length < LIM ∧ Q .none (mh.set a (.list (vs ++ [u]))) := rfl
theorem m_lr {O a mh Q X} : mrun O .lReverse (.ref a) [] mh Q X = optP ((mh a).bind moList) fun vs => Q .none (mh.set a (.list vs.reverse)) := rfl
theorem m_ba {O a i mh Q X} : mrun O .bAppend (.ref a) [.int i] mh Q X = optP ((mh a).bind moBarr) fun bs => 0 ≤ i ∧ i < 256 ∧ bs.length < LIM ∧ Q .none (mh.set a (.barr (bs ++ [UInt8.ofNat i.toNat]))) := rfl
theorem m_dg {O a k mh Q X} : mrun O .dGet (.ref a) [.bytes k] mh Q X = optP ((mh a).bind moDict) fun kvs => Q (lookB kvs k) mh := rfl
theorem m_bf {O b x mh Q X} : mrun O .bFind (.bytes b) [.bytes [x]] mh Q X = Q (.int (findB b x)) mh := rfl
section
variable {C : Nat → Ad → List V → MH → (V → MH → Prop) → (MH → Prop) → Prop} {band : Int → Int → Int} (S : Sys C band)
include S
theorem fn1 {f ps b} (hf : (f, ps, b) ∈ FN) {n : Nat} (hn : 1 ≤ n) {args mh Q X} (hl : args.length = ps.length) (h : ∀ m, n = m + 1 → wpBody (Out.mk0 (C m) band) ps b args mh Q X) : C n f args mh Q X := by
  obtain ⟨n, rfl⟩ : ∃ m, n = m + 1 := ⟨n - 1, by lia⟩
  exact S.fn f ps b hf n _ _ _ _ hl (h n rfl)
theorem c_is_digit {n : Nat} (hn : 1 ≤ n) {i : Int} {mh : MH} {Q X} (h : Q (.bool (isDig i)) mh) : C n 189 [.int i] mh Q X := by
  refine fn1 S (ps := p_is_digit) (b := b_is_digit) (by exact List.mem_of_getElem? (i := 12) rfl) hn rfl fun m e => ?_
  simp only [p_is_digit, b_is_digit]
  walk_at "e"; simp_arith only [wss_nil, wss_cons]
  unfold isDig at h
  generalize (decide (48 ≤ i)) = a0 at h ⊢
  cases a0 <;> exact h
theorem c_is_letter {n : Nat} (hn : 1 ≤ n) {i : Int} {mh : MH} {Q X} (h : Q (.bool (isLet i)) mh) : C n 196 [.int i] mh Q X := by
  refine fn1 S (ps := p_is_letter) (b := b_is_letter) (by exact List.mem_of_getElem? (i := 13) rfl) hn rfl fun m e => ?_
  simp only [p_is_letter, b_is_letter]
  walk_at "e"; simp_arith only [wss_nil, wss_cons]
  unfold isLet at h
  generalize (decide (65 ≤ i)) = a0 at h ⊢
  generalize (decide (i ≤ 90)) = a1 at h ⊢
  generalize (decide (97 ≤ i)) = a2 at h ⊢
  generalize (decide (i ≤ 122)) = a3 at h ⊢
  generalize (i == 95) = a4 at h ⊢
  cases a0 <;> cases a1 <;> cases a2 <;> cases a3 <;> cases a4 <;> exact h
theorem c_is_blank {n : Nat} (hn : 1 ≤ n) {i : Int} {mh : MH} {Q X} (h : Q (.bool (isBlk i)) mh) : C n 210 [.int i] mh Q X := by
  refine fn1 S (ps := p_is_blank) (b := b_is_blank) (by exact List.mem_of_getElem? (i := 15) rfl) hn rfl fun m e => ?_
  simp only [p_is_blank, b_is_blank]
  walk_at "e"; simp_arith only [wss_nil, wss_cons]
  unfold isBlk at h
  generalize (decide (9 ≤ i)) = a0 at h ⊢
  generalize (decide (i ≤ 13)) = a1 at h ⊢
  generalize (i == 32) = a2 at h ⊢
  cases a0 <;> cases a1 <;> cases a2 <;> exact h
theorem c_is_control {n : Nat} (hn : 1 ≤ n) {i : Int} {mh : MH} {Q X} (h : Q (.bool (isCtl i)) mh) : C n 217 [.int i] mh Q X := by
  refine fn1 S (ps := p_is_control) (b := b_is_control) (by exact List.mem_of_getElem? (i := 16) rfl) hn rfl fun m e => ?_
  simp only [p_is_control, b_is_control]
  walk_at "e"; simp_arith only [wss_nil, wss_cons]
  unfold isCtl at h
  generalize (decide (0 ≤ i)) = a0 at h ⊢
  generalize (decide (i < 32)) = a1 at h ⊢
  generalize (i == 127) = a2 at h ⊢
  cases a0 <;> cases a1 <;> cases a2 <;> exact h
theorem c_is_newline {n : Nat} (hn : 1 ≤ n) {i : Int} {mh : MH} {Q X} (h : Q (.bool (isNL i)) mh) : C n 224 [.int i] mh Q X := by
  refine fn1 S (ps := p_is_newline) (b := b_is_newline) (by exact List.mem_of_getElem? (i := 17) rfl) hn rfl fun m e => ?_
  simp only [p_is_newline, b_is_newline]
  walk_at "e"; simp_arith only [wss_nil, wss_cons]
  refine ⟨by show 2 ≤ LIM; unfold LIM; decide, ?_⟩
  unfold isNL at h
  simpa using h
theorem c_is_name {n : Nat} (hn : 2 ≤ n) {i : Int} {mh : MH} {Q X} (h : Q (.bool (isNam i)) mh) : C n 203 [.int i] mh Q X := by
  refine fn1 S (ps := p_is_name_sign) (b := b_is_name_sign) (by exact List.mem_of_getElem? (i := 14) rfl) (by lia) rfl fun m e => ?_
  simp only [p_is_name_sign, b_is_name_sign]
  walk_at "e"; simp_arith only [wss_nil, wss_cons]
  refine c_is_letter S (by lia) ?_
  walk_at "e"; simp_arith only [wss_nil, wss_cons]
  unfold isNam at h
  cases h1 : isLet i <;> simp only [h1, Bool.false_or, Bool.true_or] at h ⊢
  · refine c_is_digit S (by lia) ?_
    walk_at "e"; simp_arith only [wss_nil, wss_cons]
    cases h2 : isDig i <;> simp only [h2] at h ⊢ <;> exact h
  · exact h
theorem c_is_blankV {n : Nat} (hn : 1 ≤ n) {c : UInt8} {mh : MH} {Q X} (h : Q (.bool ([32, 9, 10, 11, 12, 13].contains c)) mh) : C n 110 [.int (c.toNat : Int)] mh Q X := by
  refine fn1 S (ps := p_is_blank_v) (b := b_is_blank_v) (by exact List.mem_of_getElem? (i := 2) rfl) hn rfl fun m e => ?_
  simp only [p_is_blank_v, b_is_blank_v]
  walk_at "e"; simp_arith only [wss_nil, wss_cons]
  rw [if_pos (by have := c.toNat_lt; lia)]
  simpa using h
theorem c_is_number_i {n : Nat} (hn : 1 ≤ n) {i : Int} {mh : MH} {Q X} (h : Q (.bool true) mh) : C n 96 [.int i] mh Q X := by
  refine fn1 S (ps := p_is_number) (b := b_is_number) (by exact List.mem_of_getElem? (i := 0) rfl) hn rfl fun m e => ?_
  simp only [p_is_number, b_is_number]
  walk_at "e"; simp_arith only [wss_nil, wss_cons]
  exact h
noncomputable def wrapF (band : Int → Int → Int) (n : Int) : Int := if band n (2 ^ 64 - 1) ≥ 2 ^ 63 then band n (2 ^ 64 - 1) - 2 ^ 64 else band n (2 ^ 64 - 1)
theorem c_wrap {n : Nat} (hn : 1 ≤ n) {i : Int} {mh : MH} {Q X} (h : Q (.int (wrapF band i)) mh) : C n 103 [.int i, .int 64] mh Q X := by
  refine fn1 S (ps := p_wrap) (b := b_wrap) (by exact List.mem_of_getElem? (i := 1) rfl) hn rfl fun m e => ?_
  simp only [p_wrap, b_wrap]
  walk_at "e"; simp_arith only [wss_nil, wss_cons]
  unfold wrapF at h
  simp [k_ge]
  by_cases q : (9223372036854775808 : Int) ≤ band i 18446744073709551615
  · simp [q] at h ⊢; exact h
  · simp [q] at h ⊢; exact h
noncomputable def digF (i : Int) : Int := if 48 ≤ i ∧ i ≤ 57 then i - 48 else if 97 ≤ i ∧ i ≤ 122 then i - 87 else if 65 ≤ i ∧ i ≤ 90 then i - 55 else -1
theorem c_digit_of {n : Nat} (hn : 1 ≤ n) {i : Int} {mh : MH} {Q X} (h : Q (.int (digF i)) mh) : C n 117 [.int i] mh Q X := by
  refine fn1 S (ps := p_digit_of) (b := b_digit_of) (by exact List.mem_of_getElem? (i := 3) rfl) hn rfl fun m e => ?_
  simp only [p_digit_of, b_digit_of]
  walk_at "e"; simp_arith only [wss_nil, wss_cons]
  unfold digF at h
  by_cases h1 : 48 ≤ i <;> by_cases h2 : i ≤ 57 <;> by_cases h3 : 97 ≤ i <;> by_cases h4 : i ≤ 122 <;> by_cases h5 : 65 ≤ i <;> by_cases h6 : i ≤ 90 <;> simp only [h1, h2, h3, h4, h5, h6, and_true, and_false, and_self, ↓reduceIte, decide_true, decide_false] at h ⊢ <;> first | exact h | lia
end
end Lx
namespace Lx
theorem Ext.set {mh m : MH} {a : Ad} {o : MO} (x : Ext mh m) (h : mh a = none) : Ext mh (m.set a o) := fun b o' e => by
  unfold MH.set
  rw [if_neg (fun q => by subst q; rw [h] at e; cases e)]; exact x _ _ e
theorem set_self {m : MH} {a : Ad} {o : MO} : (m.set a o) a = some o := by unfold MH.set; rw [if_pos rfl]
theorem set_ne {m : MH} {a b : Ad} {o : MO} (h : b ≠ a) : (m.set a o) b = m b := by unfold MH.set; rw [if_neg h]
theorem idx_b {O : Out} {mh : MH} {b : List UInt8} {k : Nat} {c : UInt8} (h : b[k]? = some c) : idxV O mh (.bytes b) (.int (k : Int)) = some (.int (c.toNat : Int)) := by
  unfold idxV; simp [h]
theorem idx_l {O : Out} {mh : MH} {a : Ad} {vs : List V} {i : Nat} {u : V} (h : mh a = some (.list vs)) (hu : vs[i]? = some u) : idxV O mh (.ref a) (.int (i : Int)) = some u := by
  show ite (0 ≤ (i : Int)) (((mh a).bind moList).bind fun vs => vs[(i : Int).toNat]?) none = some u
  rw [if_pos (Int.natCast_nonneg i), h]; exact hu
theorem bound_c {n : Nat} {i : Int} (h : (0 : Int) ≤ i ∧ i.toNat ≤ LIM) : bound n (.int i) = some i.toNat := by
  unfold bound
  simp only []
  rw [if_pos h]
theorem bound_n {k n : Nat} (h : k ≤ LIM) : bound n (.int (k : Int)) = some k := (bound_c ⟨Int.natCast_nonneg k, by rw [Int.toNat_natCast]; exact h⟩).trans (by rw [Int.toNat_natCast])
theorem bound_none {n : Nat} {v : V} (h : v = .none) : bound n v = some n := by subst h; rfl
theorem sliceV_b {mh : MH} {b : List UInt8} {lo hi : V} {l h : Nat} {Q} (hl : bound 0 lo = some l) (hh : bound b.length hi = some h) (q : Q (.bytes (cut b l h)) mh) : sliceV mh (.bytes b) lo hi Q :=
  optP_some hl (optP_some hh q)
theorem cut0 {α : Type} (b : List α) (k : Nat) : cut b 0 k = b.take k := rfl
theorem cutL {α : Type} (b : List α) (k : Nat) : cut b k b.length = b.drop k := by unfold cut; rw [List.take_length]
theorem slice_to {mh : MH} {b : List UInt8} {k : Nat} {Q : V → MH → Prop} (hk : k ≤ LIM) (h : Q (.bytes (b.take k)) mh) : sliceV mh (.bytes b) .none (.int (k : Int)) Q :=
  @sliceV_b mh b .none (.int (k : Int)) 0 k Q (bound_none rfl) (bound_n hk) (by rw [cut0]; exact h)
theorem slice_from {mh : MH} {b : List UInt8} {k : Nat} {Q : V → MH → Prop} (hk : k ≤ LIM) (h : Q (.bytes (b.drop k)) mh) : sliceV mh (.bytes b) (.int (k : Int)) .none Q :=
  @sliceV_b mh b (.int (k : Int)) .none k b.length Q (bound_n hk) (bound_none rfl) (by rw [cutL]; exact h)
theorem slice_ft {mh : MH} {b : List UInt8} {k l : Nat} {Q : V → MH → Prop} (hk : k ≤ LIM) (hl : l ≤ LIM) (h : Q (.bytes (cut b k l)) mh) : sliceV mh (.bytes b) (.int (k : Int)) (.int (l : Int)) Q :=
  @sliceV_b mh b (.int (k : Int)) (.int (l : Int)) k l Q (bound_n hk) (bound_n hl) h
theorem sliceV_l {mh : MH} {a : Ad} {vs : List V} {lo hi : V} {l h : Nat} {Q} (ha : mh a = some (.list vs)) (hl : bound 0 lo = some l) (hh : bound vs.length hi = some h) (q : ∀ n, mh n = none → Q (.ref n) (mh.set n (.list (cut vs l h)))) : sliceV mh (.ref a) lo hi Q :=
  optP_some hl (optP_some ha (optP_some hh q))
theorem sliceV_a {mh : MH} {a : Ad} {vs : List UInt8} {lo hi : V} {l h : Nat} {Q} (ha : mh a = some (.barr vs)) (hl : bound 0 lo = some l) (hh : bound vs.length hi = some h) (q : ∀ n, mh n = none → Q (.ref n) (mh.set n (.barr (cut vs l h)))) : sliceV mh (.ref a) lo hi Q :=
  optP_some hl (optP_some ha (optP_some hh q))
noncomputable def isBV (c : UInt8) : Bool := [32, 9, 10, 11, 12, 13].contains c
noncomputable def skI (b : List UInt8) (k : Nat) : Nat := b.length - ((b.drop k).dropWhile isBV).length
theorem skI_end {b : List UInt8} {k : Nat} (h : b.length ≤ k) : skI b k = b.length := by unfold skI; rw [List.drop_eq_nil_of_le h]; rfl
theorem skI_stop {b : List UInt8} {k : Nat} (h : k < b.length) (hc : isBV b[k] = false) : skI b k = k := by
  unfold skI; rw [List.drop_eq_getElem_cons h, List.dropWhile_cons_of_neg (by simp [hc])]; simp only [List.length_cons, List.length_drop]; rw [← sb1 h]; exact Nat.sub_sub_self (Nat.le_of_lt h)
theorem skI_step {b : List UInt8} {k : Nat} (h : k < b.length) (hc : isBV b[k] = true) : skI b k = skI b (k + 1) := by
  unfold skI; rw [List.drop_eq_getElem_cons h, List.dropWhile_cons_of_pos hc]
theorem skI_le {b : List UInt8} {k : Nat} : skI b k ≤ b.length := Nat.sub_le _ _
noncomputable def rdL (band : Int → Int → Int) (base : Int) : List UInt8 → Int → Int × Nat
  | [], f => (f, 0)
  | c :: r, f => if digF (c.toNat : Int) < 0 ∨ digF (c.toNat : Int) ≥ base then (f, 0) else ((rdL band base r (band (f * base + digF (c.toNat : Int)) 18446744073709551615)).1, (rdL band base r (band (f * base + digF (c.toNat : Int)) 18446744073709551615)).2 + 1)
theorem rdL_le (band : Int → Int → Int) (base : Int) : ∀ (l : List UInt8) (f : Int), (rdL band base l f).2 ≤ l.length
  | [], f => Nat.le_refl _
  | c :: r, f => by unfold rdL; split; · exact Nat.zero_le _
                    · simpa using rdL_le band base r _
inductive W_c_c_text (mh : MH) (b : List UInt8) (n : Nat) (st : St) : Prop
  | mk (i1 : st.mh = mh) (i2 : st.loc 10 = some (.bytes b)) (k : Nat) (i3 : k ≤ b.length) (i4 : st.loc 18 = some (.int (k : Int))) (i5 : b.take k ++ (b.drop k).takeWhile (· != 0) = b.takeWhile (· != 0)) (i6 : n = b.length - k)
inductive W_c_skip_blanks (mh : MH) (b : List UInt8) (k : Nat) (n : Nat) (st : St) : Prop
  | mk (i1 : st.mh = mh) (i2 : st.loc 10 = some (.bytes b)) (j : Nat) (i3 : j ≤ b.length) (i4 : st.loc 18 = some (.int (j : Int))) (i5 : skI b k = skI b j) (i6 : n = b.length - j)
inductive W_c_read_digits (mh : MH) (b : List UInt8) (base : Int) (band : Int → Int → Int) (k : Nat) (n : Nat) (st : St) : Prop
  | mk (i1 : st.mh = mh) (i2 : st.loc 10 = some (.bytes b)) (i3 : st.loc 19 = some (.int base)) (i4 : st.loc 21 = some (.int 18446744073709551615)) (j : Nat) (f : Int) (i5 : j ≤ b.length) (i6 : st.loc 18 = some (.int (j : Int))) (i7 : st.loc 20 = some (.int f)) (i8 : (rdL band base (b.drop k) 0).1 = (rdL band base (b.drop j) f).1) (i9 : k + (rdL band base (b.drop k) 0).2 = j + (rdL band base (b.drop j) f).2) (i10 : n = b.length - j)
section
variable {C : Nat → Ad → List V → MH → (V → MH → Prop) → (MH → Prop) → Prop} {band : Int → Int → Int} (S : Sys C band)
include S
theorem c_c_text {n : Nat} (hn : 1 ≤ n) {b : List UInt8} (hb : b.length ≤ LIM) {mh : MH} {Q X} (h : Q (.bytes (b.takeWhile (· != 0))) mh) : C n 166 [.bytes b] mh Q X := by
  refine fn1 S (ps := p_c_text) (b := b_c_text) (by exact List.mem_of_getElem? (i := 10) rfl) hn rfl fun m e => ?_
  dsimp only [p_c_text, b_c_text]; walk_at "d"; simp_arith only [wpBody]
  simp_all_arith only [wpBody]
  simp_all_arith only [wpBody]
  refine ⟨W_c_c_text mh b, ⟨b.length, rfl, by first | rfl | simp [Fs.set], 0, Nat.zero_le _, by first | rfl | simp [Fs.set], by simp, by simp⟩, ?_⟩
  rintro n ⟨loc, mh'⟩ ⟨rfl, h10, k, hk, h18, ht, rfl⟩
  dsimp only at h10 h18 h ⊢
  walk_at "d"; simp_arith only [h10, h18]
  by_cases q : k < b.length
  · have q' : (k : Int) < (b.length : Int) := by lia
    walk_at "d"; simp_arith only [q', h10, h18, idx_b (List.getElem?_eq_getElem q)]
    by_cases z : b[k] = 0
    · have z' : ((b[k].toNat : Int) == 0) = true := by rw [z]; rfl
      walk_at "d"; simp_arith only [z']
      simp_all_arith only [h10, h18]
      refine slice_to (by lia) ?_
      rw [List.drop_eq_getElem_cons q, List.takeWhile_cons_of_neg (by simp [z]), List.append_nil] at ht
      rw [ht]; exact h
    · have z' : ((b[k].toNat : Int) == 0) = false := by
        rw [beq_eq_false_iff_ne]; intro w; apply z; apply UInt8.toNat_inj.mp; simpa using w
      walk_at "d"; simp_arith only [z']
      simp_all_arith only [h18]
      walk_at "n"
      refine ⟨b.length - (k + 1), sl1 q, rfl, h10, k + 1, q, by first | rfl | simp [Fs.set], ?_, rfl⟩
      rw [← ht, List.drop_eq_getElem_cons q, List.takeWhile_cons_of_pos (by simpa using z), List.take_succ_eq_append_getElem q, List.append_assoc]; rfl
  · have q' : ¬ (k : Int) < (b.length : Int) := by lia
    walk_at "d"; simp_arith only [q']
    simp_all_arith only [h10, h18]
    refine slice_to (by lia) ?_
    have : k = b.length := by lia
    subst this
    rw [List.drop_length] at ht
    simp at ht
    rw [List.take_length, ht]; exact h
theorem c_skip_blanks {n : Nat} (hn : 2 ≤ n) {b : List UInt8} {k : Nat} (hk : k ≤ b.length) {mh : MH} {Q X} (h : Q (.int (skI b k : Int)) mh) : C n 131 [.bytes b, .int (k : Int)] mh Q X := by
  refine fn1 S (ps := p_skip_blanks) (b := b_skip_blanks) (by exact List.mem_of_getElem? (i := 5) rfl) (by lia) rfl fun m e => ?_
  dsimp only [p_skip_blanks, b_skip_blanks]; walk_at "d"; simp_arith only [wpBody]
  simp_all_arith only [wpBody]
  refine ⟨W_c_skip_blanks mh b k, ⟨_, rfl, by first | rfl | simp [Fs.set], k, hk, by first | rfl | simp [Fs.set], rfl, rfl⟩, ?_⟩
  rintro n ⟨loc, mh'⟩ ⟨rfl, h10, j, hj, h18, ht, rfl⟩
  dsimp only at h10 h18 h ⊢
  rw [ht] at h
  walk_at "d"; simp_arith only [h10, h18]
  by_cases q : j < b.length
  · have q' : (j : Int) < (b.length : Int) := by lia
    walk_at "d"; simp_arith only [q', h10, h18, idx_b (List.getElem?_eq_getElem q)]
    refine c_is_blankV S (by lia) ?_
    cases z : [32, 9, 10, 11, 12, 13].contains b[j]
    · rw [skI_stop q z] at h
      walk_at "d"; simp_arith only [wpBody]
      simp_all_arith only [h18]
      exact h
    · walk_at "d"; simp_arith only [wpBody]
      simp_all_arith only [h18]
      walk_at "n"
      exact ⟨b.length - (j + 1), sl1 q, rfl, h10, j + 1, q, by first | rfl | simp [Fs.set], by rw [ht, skI_step q z], rfl⟩
  · have q' : ¬ (j : Int) < (b.length : Int) := by lia
    have : skI b j = j := by rw [skI_end (by lia)]; lia
    rw [this] at h
    walk_at "d"; simp_arith only [q']
    simp_all_arith only [h18]
    exact h
theorem c_read_digits {n : Nat} (hn : 2 ≤ n) {b : List UInt8} {k : Nat} (hk : k ≤ b.length) {base : Int} (hbase : base = 10 ∨ base = 16) {mh : MH} {Q X} (h : Q (.tup [.int (rdL band base (b.drop k) 0).1, .int ((k + (rdL band base (b.drop k) 0).2 : Nat) : Int)]) mh) :
    C n 124 [.bytes b, .int (k : Int), .int base, .int 64] mh Q X := by
  refine fn1 S (ps := p_read_digits_v) (b := b_read_digits_v) (by exact List.mem_of_getElem? (i := 4) rfl) (by lia) rfl fun m e => ?_
  have l2 : 2 ≤ LIM := by unfold LIM; decide
  have s64 : (if (1 : Int).natAbs < 2 ^ 62 ∧ (0 : Int) ≤ 64 ∧ (64 : Int) < 1000 then some (V.int ((1 : Int) * 2 ^ (64 : Int).toNat)) else none) = some (.int 18446744073709551616) := rfl
  have m64 : (18446744073709551616 : Int) - 1 = 18446744073709551615 := rfl
  dsimp only [p_read_digits_v, b_read_digits_v]; walk_at "d"; simp_arith only [wpBody]
  simp_all_arith only [s64, m64, l2]
  simp_all_arith only [wpBody]
  refine ⟨W_c_read_digits mh b base band k,
    ⟨_, rfl, by first | rfl | simp [Fs.set], by first | rfl | simp [Fs.set], by first | rfl | simp [Fs.set], k, 0, hk, by first | rfl | simp [Fs.set], by first | rfl | simp [Fs.set], rfl, rfl, rfl⟩, ?_⟩
  rintro n ⟨loc, mh'⟩ ⟨rfl, h10, h19, h21, j, f, hj, h18, h20, t1, t2, rfl⟩
  dsimp only at h10 h18 h19 h20 h21 h ⊢
  rw [t1, t2] at h
  walk_at "d"; simp_arith only [h10, h18]
  by_cases q : j < b.length
  · have q' : (j : Int) < (b.length : Int) := by lia
    walk_at "d"; simp_arith only [q']
    simp_all_arith only [h10, h18, idx_b (List.getElem?_eq_getElem q)]
    refine c_digit_of S (by lia) ?_
    rw [List.drop_eq_getElem_cons q] at t1 t2 h
    unfold rdL at h
    rw [show ∀ f, rdL band base (b[j] :: b.drop (j + 1)) f = if digF (b[j].toNat : Int) < 0 ∨ digF (b[j].toNat : Int) ≥ base then (f, 0) else ((rdL band base (b.drop (j + 1)) (band (f * base + digF (b[j].toNat : Int)) 18446744073709551615)).1, (rdL band base (b.drop (j + 1)) (band (f * base + digF (b[j].toNat : Int)) 18446744073709551615)).2 + 1) from fun u_ => rfl] at t1 t2
    by_cases z1 : digF (b[j].toNat : Int) < 0
    · rw [if_pos (.inl z1)] at h
      simp_all_arith only [z1]
      simp_all_arith only [wpBody]
      simp_all_arith only [h20, h18, l2]
      exact h
    · by_cases z2 : base ≤ digF (b[j].toNat : Int)
      · rw [if_pos (.inr z2)] at h
        simp_all_arith only [z1, z2, h19]
        simp_all_arith only [wpBody]
        simp_all_arith only [h20, h18, l2]
        exact h
      · rw [if_neg (by lia)] at t1 t2
        have hb2 : base.natAbs < 2 ^ 62 := by rcases hbase with rfl | rfl <;> decide
        simp_all_arith only [z1, z2, h19]
        walk_at "n"
        simp_all_arith only [h19, h20, h21, hb2, or_true]
        simp_all_arith only [h18]
        walk_at "n"
        exact ⟨b.length - (j + 1), sl1 q, rfl, h10, h19, h21, j + 1, _, q, by first | rfl | simp [Fs.set], rfl, t1, by lia, rfl⟩
  · have q' : ¬ (j : Int) < (b.length : Int) := by lia
    walk_at "d"; simp_arith only [q']
    rw [List.drop_eq_nil_of_le (by lia)] at h
    simp_all_arith only [h20, h18, l2]
    exact h
end
end Lx
namespace Lx
noncomputable def tlS : Ss → Ss
  | .cons _ r => r
  | .nil => .nil
noncomputable def LimOK (mh : MH) (lim : Ad) : Prop := ∃ dl fs, mh lim = some (.inst 53 dl) ∧ mh dl = some (.flds fs) ∧ fs 1 = some (.int 64) ∧ fs 10 = some (.int 1000000)
theorem LimOK.width {mh : MH} {lim : Ad} (h : LimOK mh lim) : attrV mh (.ref lim) 1 = some (.int 64) := by
  obtain ⟨dl, fs, h1, h2, h3, h4⟩ := h; simp [attrV, h1, h2, h3]
theorem LimOK.text {mh : MH} {lim : Ad} (h : LimOK mh lim) : attrV mh (.ref lim) 10 = some (.int 1000000) := by
  obtain ⟨dl, fs, h1, h2, h3, h4⟩ := h; simp [attrV, h1, h2, h4]
theorem LimOK.ext {mh mh' : MH} {lim : Ad} (h : LimOK mh lim) (x : Ext mh mh') : LimOK mh' lim := by
  obtain ⟨dl, fs, h1, h2, h3, h4⟩ := h; exact ⟨dl, fs, x _ _ h1, x _ _ h2, h3, h4⟩
noncomputable def VN (v : V) : Prop := v = .none ∨ ∃ i, v = .int i
noncomputable def retQ (Q : V → MH → Prop) (f : Fl) (st : St) : Prop := match f with
  | .ret v => Q v st.mh
  | .next => Q .none st.mh
  | .brk => False
theorem u8 {c : UInt8} : (0 : Int) ≤ (c.toNat : Int) ∧ (c.toNat : Int) < 256 := by have := c.toNat_lt; lia
theorem u8n {c : UInt8} : UInt8.ofNat c.toNat = c := by simp
theorem l2 : 2 ≤ LIM := by unfold LIM; decide
abbrev CT := Nat → Ad → List V → MH → (V → MH → Prop) → (MH → Prop) → Prop
noncomputable def TB (C : CT) (band : Int → Int → Int) (b : List UInt8) (k : Nat) (base : Int) (neg : Bool) (body : Ss) (v : V) : Prop := ∀ {n : Nat} {mh : MH} {lim : Ad} {Q : V → MH → Prop} {X : St → Prop} {st : St}, 3 ≤ n → LimOK mh lim → st.mh = mh → st.loc 10 = some (.bytes b) → st.loc 18 = some (.int (k : Int)) → st.loc 19 = some (.int base) → st.loc 25 = some (.ref lim) → st.loc 27 = some (.bool neg) → Q v mh → wpSs (Out.mk0 (C n) band) body st (retQ Q) X
noncomputable def TX (C : CT) (band : Int → Int → Int) (b : List UInt8) (k : Nat) (neg : Bool) (body body2 : Ss) : Prop := ∀ {n : Nat} {mh : MH} {lim : Ad} {Q : V → MH → Prop} {X : St → Prop} {st : St}, 3 ≤ n → LimOK mh lim → st.mh = mh → st.loc 10 = some (.bytes b) → st.loc 18 = some (.int (k : Int)) → st.loc 19 = some (.int 0) → st.loc 25 = some (.ref lim) → st.loc 27 = some (.bool neg) → (∀ loc', (∀ i, i ≠ 29 → loc' i = st.loc i) → wpSs (Out.mk0 (C n) band) body2 ⟨loc', mh⟩ (retQ Q) X) → wpSs (Out.mk0 (C n) band) body st (retQ Q) X
section
variable {C : Nat → Ad → List V → MH → (V → MH → Prop) → (MH → Prop) → Prop} {band : Int → Int → Int} (S : Sys C band)
include S
theorem tib2 {b : List UInt8} (hb : b.length ≤ LIM) {k : Nat} (hk : k ≤ b.length) (neg : Bool) {base : Int} (hbase : base = 0 ∨ base = 16) : ∃ v, VN v ∧ TB C band b k base neg (tlS (tlS (tlS (tlS b_text_in_base)))) v := by
  have hbb : (if base = 0 then (10 : Int) else base) = 10 ∨ (if base = 0 then (10 : Int) else base) = 16 := by rcases hbase with rfl | rfl <;> simp
  generalize hB : (if base = 0 then (10 : Int) else base) = B at hbb
  generalize hP : rdL band B (b.drop k) 0 = p
  have hp : k + p.2 ≤ b.length := by have := rdL_le band B (b.drop k) 0; simp at this; rw [hP] at this; lia
  refine ⟨if p.2 = 0 ∨ skI b (k + p.2) ≠ b.length then .none else .int (wrapF band (if neg then -p.1 else p.1)), by split <;> first | exact .inl rfl | exact .inr ⟨_, rfl⟩, ?_⟩
  rintro n mh lim Q X ⟨loc, mh'⟩ hn hlim rfl h10 h18 h19 h25 h27 hq
  dsimp only at h10 h18 h19 h25 h27 hq hlim
  simp only [tlS, b_text_in_base]
  have call : ∀ {Q : V → MH → Prop} {X : MH → Prop}, Q (.tup [.int p.1, .int ((k + p.2 : Nat) : Int)]) mh' → C n 124 [.bytes b, .int (k : Int), .int B, .int 64] mh' Q X := fun h => c_read_digits S (by lia) hk hbb (by rw [hP]; exact h)
  have b0 : (base == 0) = decide (base = 0) := rfl
  have go : ∀ {Q : V → MH → Prop} {X : MH → Prop}, Q (.tup [.int p.1, .int ((k + p.2 : Nat) : Int)]) mh' → (match decide (base = 0) with | true => C n 124 [.bytes b, .int (k : Int), .int 10, .int 64] mh' Q X | false => C n 124 [.bytes b, .int (k : Int), .int base, .int 64] mh' Q X) := fun h => by
    by_cases z : base = 0
    · rw [if_pos z] at hB; subst hB; simp only [z, decide_true]; exact call h
    · rw [if_neg z] at hB; subst hB; simp only [z, decide_false]; exact call h
  simp_all_arith only [h10, h18, h19, h25, hlim.width, b0]
  refine go ?_
  walk_at "d"; simp_arith only [h10, h18]
  simp_all_arith only [h10, h18]
  by_cases z : p.2 = 0
  · have z' : (((k + p.2 : Nat) : Int) == (k : Int)) = true := by rw [z]; simp
    rw [if_pos (.inl z)] at hq
    walk_at "d"; simp_arith only [z']
    simp_all_arith only [wpBody]
    exact hq
  · have z' : (((k + p.2 : Nat) : Int) == (k : Int)) = false := by rw [beq_eq_false_iff_ne]; lia
    walk_at "d"; simp_arith only [z', h10]
    refine c_skip_blanks S (by lia) hp ?_
    walk_at "d"; simp_arith only [h10]
    by_cases y : skI b (k + p.2) = b.length
    · have y' : ((skI b (k + p.2) : Int) == (b.length : Int)) = true := by rw [y]; simp
      rw [if_neg (by lia)] at hq
      walk_at "d"; simp_arith only [y']
      walk_at "n"
      simp_all_arith only [h27, h25, hlim.width]
      cases neg
      · walk_at "d"; simp_arith only [h25, hlim.width]
        exact c_wrap S (by lia) hq
      · walk_at "d"; simp_arith only [h25, hlim.width]
        exact c_wrap S (by lia) hq
    · have y' : ((skI b (k + p.2) : Int) == (b.length : Int)) = false := by rw [beq_eq_false_iff_ne]; lia
      rw [if_pos (.inr y)] at hq
      walk_at "d"; simp_arith only [y']
      simp_all_arith only [wpBody]
      exact hq
theorem tib1 {b : List UInt8} (hb : b.length ≤ LIM) {k : Nat} (hk : k ≤ b.length) (neg : Bool) : ∃ v, VN v ∧ TB C band b k 0 neg (tlS (tlS b_text_in_base)) v := by
  obtain ⟨v0, hv0, g0⟩ := tib2 S hb hk neg (base := 0) (.inl rfl)
  simp only [tlS, b_text_in_base] at g0 ⊢
  have e1 : (k : Int) + 1 = ((k + 1 : Nat) : Int) := by push_cast; rfl
  have e2 : (k : Int) + 2 = ((k + 2 : Nat) : Int) := by push_cast; rfl
  have c48 : ∀ c : UInt8, (((c.toNat : Int)) == 48) = decide (c = 48) := fun c => by
    by_cases z : c = 48
    · simp [z]
    · simp only [z, decide_false, beq_eq_false_iff_ne]; intro w; apply z; apply UInt8.toNat_inj.mp; have : c.toNat = 48 := by lia
      simpa using this
  have plain : TX C band b k neg (tlS (tlS b_text_in_base)) (tlS (tlS (tlS (tlS b_text_in_base)))) →
    ∃ v, VN v ∧ TB C band b k 0 neg (tlS (tlS b_text_in_base)) v := fun h => ⟨v0, hv0, fun hn hl e h10 h18 h19 h25 h27 hq => h hn hl e h10 h18 h19 h25 h27 fun loc' hl' =>
      g0 hn hl rfl ((hl' 10 (by decide)).trans h10) ((hl' 18 (by decide)).trans h18) ((hl' 19 (by decide)).trans h19) ((hl' 25 (by decide)).trans h25) ((hl' 27 (by decide)).trans h27) hq⟩
  simp only [tlS, b_text_in_base] at plain
  by_cases q : k + 2 < b.length
  rotate_left
  · refine plain ?_
    rintro n mh lim Q X ⟨loc, mh'⟩ hn hlim rfl h10 h18 h19 h25 h27 hq
    dsimp only at h10 h18 h19 h25 h27 hq hlim
    have q' : ¬ (k : Int) + 2 < (b.length : Int) := by lia
    simp_all_arith only [h10, h18, q']
    simp_all_arith only [wpBody]
    walk_at "n"
    exact hq _ (fun i hi => by first | exact hi | simp [Fs.set, hi])
  have q' : (k : Int) + 2 < (b.length : Int) := by lia
  have i0 : ∀ O mh, idxV O mh (.bytes b) (.int (k : Int)) = some (.int (b[k].toNat : Int)) := fun O mh => idx_b (List.getElem?_eq_getElem _)
  have i1 : ∀ O mh, idxV O mh (.bytes b) (.int ((k : Int) + 1)) = some (.int (b[k + 1].toNat : Int)) := fun O mh => by rw [e1]; exact idx_b (List.getElem?_eq_getElem _)
  have i2 : ∀ O mh, idxV O mh (.bytes b) (.int ((k : Int) + 2)) = some (.int (b[k + 2].toNat : Int)) := fun O mh => by rw [e2]; exact idx_b (List.getElem?_eq_getElem _)
  by_cases z0 : b[k] = 48
  rotate_left
  · refine plain ?_
    rintro n mh lim Q X ⟨loc, mh'⟩ hn hlim rfl h10 h18 h19 h25 h27 hq
    dsimp only at h10 h18 h19 h25 h27 hq hlim
    simp_all_arith only [h10, h18, q', i0, c48, z0]
    simp_all_arith only [wpBody]
    walk_at "n"
    exact hq _ (fun i hi => by first | exact hi | simp [Fs.set, hi])
  have t16 : (((0 : Int) == 0) || (((0 : Int) == 16) || false)) = true := rfl
  by_cases z1 : [120, 88].contains b[k + 1] = true
  rotate_left
  · refine plain ?_
    rintro n mh lim Q X ⟨loc, mh'⟩ hn hlim rfl h10 h18 h19 h25 h27 hq
    dsimp only at h10 h18 h19 h25 h27 hq hlim
    simp_all_arith only [h10, h18, q', i0, c48, z0, i1, u8, and_self, u8n, z1]
    simp_all_arith only [wpBody]
    walk_at "n"
    exact hq _ (fun i hi => by first | exact hi | simp [Fs.set, hi])
  by_cases z2 : 0 ≤ digF (b[k + 2].toNat : Int) ∧ digF (b[k + 2].toNat : Int) < 16
  · obtain ⟨v, hv, g⟩ := tib2 S hb (k := k + 2) (by lia) neg (base := 16) (.inr rfl)
    refine ⟨v, hv, ?_⟩
    rintro n mh lim Q X ⟨loc, mh'⟩ hn hlim rfl h10 h18 h19 h25 h27 hq
    dsimp only at h10 h18 h19 h25 h27 hq hlim
    simp_all_arith only [h10, h18, h19, q', i0, c48, z0, i1, u8, and_self, u8n, z1, l2, true_and, t16]
    simp_all_arith only [h10, h18, i2]
    refine c_digit_of S (by lia) ?_
    walk_at "d"; simp_arith only [z2.1, z2.2]
    simp_all_arith only [h18, l2, true_and]
    walk_at "n"
    simp only [tlS, b_text_in_base] at g
    exact g hn hlim rfl (by first | exact h10 | simp [Fs.set, h10]) (by first | rfl | simp [Fs.set]) (by first | rfl | simp [Fs.set]) (by first | exact h25 | simp [Fs.set, h25]) (by first | exact h27 | simp [Fs.set, h27]) hq
  · refine plain ?_
    rintro n mh lim Q X ⟨loc, mh'⟩ hn hlim rfl h10 h18 h19 h25 h27 hq
    dsimp only at h10 h18 h19 h25 h27 hq hlim
    simp_all_arith only [h10, h18, h19, q', i0, c48, z0, i1, u8, and_self, u8n, z1, l2, true_and, t16]
    simp_all_arith only [h10, h18, i2]
    refine c_digit_of S (by lia) ?_
    by_cases w : 0 ≤ digF (b[k + 2].toNat : Int)
    · have w2 : ¬ digF (b[k + 2].toNat : Int) < 16 := fun x => z2 ⟨w, x⟩
      walk_at "d"; simp_arith only [w, w2]
      walk_at "n"
      exact hq _ (fun i hi => by first | exact hi | simp [Fs.set, hi])
    · walk_at "d"; simp_arith only [w]
      walk_at "n"
      exact hq _ (fun i hi => by first | exact hi | simp [Fs.set, hi])
theorem c_tib {b : List UInt8} (hb : b.length ≤ LIM) : ∃ v, VN v ∧ ∀ {n : Nat} {mh : MH} {lim : Ad} {Q : V → MH → Prop} {X : MH → Prop}, 4 ≤ n → LimOK mh lim → Q v mh → C n 145 [.bytes b, .int 0, .ref lim] mh Q X := by
  have hk : skI b 0 ≤ b.length := skI_le
  have c45 : ∀ c : UInt8, (((c.toNat : Int)) == 45) = decide (c = 45) := fun c => by
    by_cases z : c = 45
    · simp [z]
    · simp only [z, decide_false, beq_eq_false_iff_ne]; intro w; apply z; apply UInt8.toNat_inj.mp; have : c.toNat = 45 := by lia
      simpa using this
  have z0 : ((0 : Nat) : Int) = 0 := rfl
  have start : ∀ {n : Nat} {mh : MH} {Q : V → MH → Prop} {X : MH → Prop}, 2 ≤ n → Q (.int (skI b 0 : Int)) mh → C n 131 [.bytes b, .int 0] mh Q X := fun hn h => c_skip_blanks S (k := 0) hn (Nat.zero_le _) h
  by_cases q : skI b 0 < b.length ∧ [43, 45].contains (b[skI b 0]?.getD 0) = true
  · obtain ⟨q, y⟩ := q
    rw [List.getElem?_eq_getElem q, Option.getD_some] at y
    obtain ⟨v, hv, g⟩ := tib1 S hb (k := skI b 0 + 1) q (decide (b[skI b 0] = 45))
    refine ⟨v, hv, fun {n mh lim Q X} hn hlim hq => ?_⟩
    have q' : (skI b 0 : Int) < (b.length : Int) := by lia
    have i0 : ∀ O mh, idxV O mh (.bytes b) (.int (skI b 0 : Int)) = some (.int (b[skI b 0].toNat : Int)) := fun O mh => idx_b (List.getElem?_eq_getElem _)
    refine fn1 S (ps := p_text_in_base) (b := b_text_in_base) (by exact List.mem_of_getElem? (i := 7) rfl) (by lia) rfl fun m e => ?_
    simp only [tlS, b_text_in_base] at g
    dsimp only [p_text_in_base, b_text_in_base]; walk_at "d"; simp_arith only [wpBody]
    simp_all_arith only [wpBody]
    refine start (by lia) ?_
    walk_at "d"; simp_arith only [l2, true_and]
    simp_all_arith only [q', i0, u8, and_self, u8n, y]
    simp_all_arith only [i0, c45]
    simp_all_arith only [wpBody]
    walk_at "n"
    exact g (by lia) hlim rfl (by first | rfl | simp [Fs.set]) (by first | rfl | simp [Fs.set]) (by first | rfl | simp [Fs.set]) (by first | rfl | simp [Fs.set]) (by first | rfl | simp [Fs.set]) hq
  · obtain ⟨v, hv, g⟩ := tib1 S hb hk false
    refine ⟨v, hv, fun {n mh lim Q X} hn hlim hq => ?_⟩
    refine fn1 S (ps := p_text_in_base) (b := b_text_in_base) (by exact List.mem_of_getElem? (i := 7) rfl) (by lia) rfl fun m e => ?_
    simp only [tlS, b_text_in_base] at g
    dsimp only [p_text_in_base, b_text_in_base]; walk_at "d"; simp_arith only [wpBody]
    simp_all_arith only [wpBody]
    refine start (by lia) ?_
    walk_at "d"; simp_arith only [l2, true_and]
    by_cases q0 : skI b 0 < b.length
    · have q' : (skI b 0 : Int) < (b.length : Int) := by lia
      have i0 : ∀ O mh, idxV O mh (.bytes b) (.int (skI b 0 : Int)) = some (.int (b[skI b 0].toNat : Int)) := fun O mh => idx_b (List.getElem?_eq_getElem _)
      have y : ¬ [43, 45].contains b[skI b 0] = true := fun w => q ⟨q0, by rw [List.getElem?_eq_getElem q0, Option.getD_some]; exact w⟩
      simp_all_arith only [q', i0, u8, and_self, u8n, y]
      walk_at "n"
      exact g (by lia) hlim rfl (by first | rfl | simp [Fs.set]) (by first | rfl | simp [Fs.set]) (by first | rfl | simp [Fs.set]) (by first | rfl | simp [Fs.set]) (by first | rfl | simp [Fs.set]) hq
    · have q' : ¬ (skI b 0 : Int) < (b.length : Int) := by lia
      simp_all_arith only [q']
      walk_at "n"
      exact g (by lia) hlim rfl (by first | rfl | simp [Fs.set]) (by first | rfl | simp [Fs.set]) (by first | rfl | simp [Fs.set]) (by first | rfl | simp [Fs.set]) (by first | rfl | simp [Fs.set]) hq
theorem c_stn {b : List UInt8} (hb : b.length ≤ LIM) : ∃ v, VN v ∧ ∀ {n : Nat} {mh : MH} {lim : Ad} {Q : V → MH → Prop} {X : MH → Prop}, 5 ≤ n → LimOK mh lim → Q v mh → C n 138 [.bytes b, .ref lim] mh Q X := by
  obtain ⟨v, hv, g⟩ := c_tib S hb
  refine ⟨v, hv, fun {n mh lim Q X} hn hlim hq => ?_⟩
  refine fn1 S (ps := p_str_to_number) (b := b_str_to_number) (by exact List.mem_of_getElem? (i := 6) rfl) (by lia) rfl fun m e => ?_
  dsimp only [p_str_to_number, b_str_to_number]; walk_at "d"; simp_arith only [wpBody]
  simp_all_arith only [wpBody]
  exact g (by lia) hlim hq
end
end Lx
namespace Lx
noncomputable def bV (b : UInt8) : V := .int (b.toNat : Int)
theorem bV_of {k : Nat} (h : k < 256) : bV (UInt8.ofNat k) = .int (k : Int) := by
  unfold bV; simp [Nat.mod_eq_of_lt h]
theorem mk_lA {C : Ad → List V → MH → (V → MH → Prop) → (MH → Prop) → Prop} {band} {mh : MH} {a : Ad} {vs : List V} (h : mh a = some (.list vs)) : mkind (Out.mk0 C band) 34 (.ref a) mh = some .lAppend := by
  show (mh a).bind _ = _; rw [h]; rfl
theorem mk_lR {C : Ad → List V → MH → (V → MH → Prop) → (MH → Prop) → Prop} {band} {mh : MH} {a : Ad} {vs : List V} (h : mh a = some (.list vs)) : mkind (Out.mk0 C band) 35 (.ref a) mh = some .lReverse := by
  show (mh a).bind _ = _; rw [h]; rfl
theorem mk_bA {C : Ad → List V → MH → (V → MH → Prop) → (MH → Prop) → Prop} {band} {mh : MH} {a : Ad} {vs : List UInt8} (h : mh a = some (.barr vs)) : mkind (Out.mk0 C band) 34 (.ref a) mh = some .bAppend := by
  show (mh a).bind _ = _; rw [h]; rfl
theorem mk_dG {C : Ad → List V → MH → (V → MH → Prop) → (MH → Prop) → Prop} {band} {mh : MH} {a : Ad} {vs} (h : mh a = some (.bdict vs)) : mkind (Out.mk0 C band) 120 (.ref a) mh = some .dGet := by
  show (mh a).bind _ = _; rw [h]; rfl
theorem mk_bF {C : Ad → List V → MH → (V → MH → Prop) → (MH → Prop) → Prop} {band} {mh : MH} {b : List UInt8} : mkind (Out.mk0 C band) 51 (.bytes b) mh = some .bFind := by
  rfl
theorem limN : LIM = 1000000 := rfl
inductive W_c_number_text (mh : MH) (k : Nat) (a : Ad) (n : Nat) (st : St) : Prop
  | mk (i1 : Ext mh st.mh) (i2 : st.loc 14 = some (.int (k : Int))) (i3 : st.loc 20 = some (.ref a)) (bs : List UInt8) (i4 : st.loc 33 = some (.int (n : Nat))) (i5 : st.mh a = some (.list (bs.map bV))) (i6 : bs.length + n ≤ k)
section
variable {C : Nat → Ad → List V → MH → (V → MH → Prop) → (MH → Prop) → Prop} {band : Int → Int → Int} (S : Sys C band)
include S
theorem c_number_text {n : Nat} (hn : 1 ≤ n) {k : Nat} (hk : k ≤ 10000) {mh : MH} {Q X} (h : ∀ bs mh', Ext mh mh' → bs.length ≤ k + 2 → Q (.bytes bs) mh') : C n 152 [.int (k : Int)] mh Q X := by
  refine fn1 S (ps := p_number_text) (b := b_number_text) (by exact List.mem_of_getElem? (i := 8) rfl) (by lia) rfl fun m e => ?_
  dsimp only [p_number_text, b_number_text]; walk_at "d"; simp_arith only [wpBody]
  simp_all_arith only [wpBody]
  refine ⟨Nat.zero_le _, fun a ha => ?_⟩
  walk_at "d"; simp_arith only [l2]
  simp_all_arith only [wpBody]
  refine ⟨W_c_number_text mh k a, ⟨k, Ext.new ha, by first | rfl | simp [Fs.set], by first | rfl | simp [Fs.set], [], by first | rfl | simp [Fs.set], set_self, by simp⟩, ?_⟩
  rintro left ⟨loc, mh'⟩ ⟨x, h14, h20, bs, h33, hA, hb⟩
  dsimp only at x h14 h20 h33 hA ⊢
  walk_at "d"; simp_arith only [h33]
  by_cases q : 9 < left
  · have q' : (9 : Int) < (left : Int) := by lia
    walk_at "d"; simp_arith only [q']
    simp_all_arith only [h20, mk_lA hA, h33, hA]
    have d1 : (0 : Int) < 10 := by decide
    have hm : (48 : Int) + (left : Int) % 10 = ((48 + left % 10 : Nat) : Int) := by lia
    have hd : (left : Int) / 10 = ((left / 10 : Nat) : Int) := by lia
    have hs : (left : Int).natAbs < 4611686018427387904 := by show left < _; lia
    walk_at "d"; simp_arith only [d1, hm]
    refine ⟨by rw [List.length_map, limN]; lia, ?_⟩
    simp_all_arith only [h33, d1, hs, hd]
    walk_at "n"
    refine ⟨left / 10, by lia, x.set ha, by first | exact h14 | simp [Fs.set, h14], by first | exact h20 | simp [Fs.set, h20], bs ++ [UInt8.ofNat (48 + left % 10)], by first | rfl | simp [Fs.set], ?_, by simp; lia⟩
    show (mh'.set a _) a = _
    rw [set_self, List.map_append, List.map_cons, bV_of (by lia), List.map_nil]
  · have q' : ¬ (9 : Int) < (left : Int) := by lia
    walk_at "d"; simp_arith only [q']
    have hm : (48 : Int) + (left : Int) = ((48 + left : Nat) : Int) := by lia
    simp_all_arith only [h20, mk_lA hA, h33, hA, hm]
    refine ⟨by rw [List.length_map, limN]; lia, ?_⟩
    have k0 : ¬ (k : Int) < 0 := by lia
    simp_all_arith only [h14, k0]
    walk_at "n"
    have hB : (mh'.set a (.list (bs.map bV ++ [.int ((48 + left : Nat) : Int)]))) a = some (.list ((bs ++ [UInt8.ofNat (48 + left)]).map bV)) := by
      rw [set_self, List.map_append, List.map_cons, bV_of (by lia), List.map_nil]
    simp_all_arith only [h20, mk_lR hB, hB]
    simp_all_arith only [h20, set_self]
    refine ⟨(bs ++ [UInt8.ofNat (48 + left)]).reverse, by rw [List.map_reverse]; rfl, ?_⟩
    exact h _ _ ((x.set ha).set ha) (by simp; lia)
theorem c_to_text {n : Nat} (hn : 2 ≤ n) {k : Nat} (hk : k ≤ 10000) {mh : MH} {Q X} (h : ∀ bs mh', Ext mh mh' → bs.length ≤ k + 2 → Q (.bytes bs) mh') : C n 159 [.int (k : Int)] mh Q X := by
  refine fn1 S (ps := p_to_text) (b := b_to_text) (by exact List.mem_of_getElem? (i := 9) rfl) (by lia) rfl fun m e => ?_
  dsimp only [p_to_text, b_to_text]; walk_at "d"; simp_arith only [wpBody]
  simp_all_arith only [wpBody]
  walk_at "n"
  simp_all_arith only [wpBody]
  refine c_is_number_i S (by lia) ?_
  walk_at "d"; simp_arith only [wpBody]
  simp_all_arith only [wpBody]
  exact c_number_text S (by lia) hk h
theorem c_chunk_id {n : Nat} (hn : 2 ≤ n) {mh : MH} {Q X} (h : Q (.bytes [108, 97, 119]) mh) : C n 180 [.bytes [61, 108, 97, 119], .int 80] mh Q X := by
  refine fn1 S (ps := p_chunk_id) (b := b_chunk_id) (by exact List.mem_of_getElem? (i := 11) rfl) (by lia) rfl fun m e => ?_
  dsimp only [p_chunk_id, b_chunk_id]; walk_at "d"; simp_arith only [wpBody]
  simp_all_arith only [wpBody]
  refine c_c_text S (by lia) (by show 4 ≤ LIM; rw [limN]; lia) ?_
  have e1 : List.takeWhile (fun x => x != 0) ([61, 108, 97, 119] : List UInt8) = [61, 108, 97, 119] := rfl
  walk_at "d"; simp_arith only [e1]
  simp_all_arith only [wpBody]
  refine slice_to (k := 1) (by rw [limN]; lia) ?_
  have e2 : List.take 1 ([61, 108, 97, 119] : List UInt8) = [61] := rfl
  walk_at "d"; simp_arith only [e2, beq_self_eq_true]
  simp_all_arith only [wpBody]
  exact slice_ft (k := 1) (l := 80) (by rw [limN]; lia) (by rw [limN]; lia) h
noncomputable def escF (c : UInt8) : Option UInt8 := if c = 97 then some 7 else if c = 98 then some 8 else if c = 102 then some 12 else if c = 110 then some 10 else if c = 114 then some 13 else if c = 116 then some 9 else if c = 118 then some 11 else none
noncomputable def optV : Option UInt8 → V
  | none => .none
  | some c => bV c
theorem c_escaped {n : Nat} (hn : 1 ≤ n) {c : UInt8} {mh : MH} {Q X} (h : ∀ mh', Ext mh mh' → Q (optV (escF c)) mh') : C n 231 [.int (c.toNat : Int)] mh Q X := by
  refine fn1 S (ps := p_escaped_sign) (b := b_escaped_sign) (by exact List.mem_of_getElem? (i := 18) rfl) (by lia) rfl fun m e => ?_
  dsimp only [p_escaped_sign, b_escaped_sign]; walk_at "d"; simp_arith only [wpBody]
  simp_all_arith only [mk_bF]
  refine ⟨by rw [limN]; lia, fun a ha => ?_⟩
  walk_at "d"; simp_arith only [set_self]
  refine ⟨[c], rfl, ?_⟩
  walk_at "d"; simp_arith only [wpBody]
  have x : Ext mh (mh.set a (.list [.int (c.toNat : Int)])) := Ext.new ha
  have h := h _ x
  simp_all_arith only [wpBody]
  have fb : ∀ (k : Nat) (v : UInt8), [97, 98, 102, 110, 114, 116, 118].findIdx? (· == c) = some k → ([7, 8, 12, 10, 13, 9, 11] : List UInt8)[k]? = some v → escF c = some v →
     (match decide (findB [97, 98, 102, 110, 114, 116, 118] c < 0) with
       | true => retQ Q (.ret .none) ⟨fun u_ => none, mh.set a (.list [.int (c.toNat : Int)])⟩
       | false => match idxV (Out.mk0 (C m) band) (mh.set a (.list [.int (c.toNat : Int)])) (.bytes [7, 8, 12, 10, 13, 9, 11]) (.int (findB [97, 98, 102, 110, 114, 116, 118] c)) with
         | some v => retQ Q (.ret v) ⟨fun u_ => none, mh.set a (.list [.int (c.toNat : Int)])⟩
         | none => False) := fun k v h1 h2 h3 => by
    have hf : findB [97, 98, 102, 110, 114, 116, 118] c = (k : Int) := by unfold findB; rw [h1]
    have hz : ¬ (k : Int) < 0 := by lia
    rw [h3] at h
    simp only [hf, hz, decide_false, idx_b h2]
    exact h
  by_cases g1 : c = 97
  · subst g1; exact fb 0 7 rfl rfl rfl
  by_cases g2 : c = 98
  · subst g2; exact fb 1 8 rfl rfl rfl
  by_cases g3 : c = 102
  · subst g3; exact fb 2 12 rfl rfl rfl
  by_cases g4 : c = 110
  · subst g4; exact fb 3 10 rfl rfl rfl
  by_cases g5 : c = 114
  · subst g5; exact fb 4 13 rfl rfl rfl
  by_cases g6 : c = 116
  · subst g6; exact fb 5 9 rfl rfl rfl
  by_cases g7 : c = 118
  · subst g7; exact fb 6 11 rfl rfl rfl
  have e0 : [97, 98, 102, 110, 114, 116, 118].findIdx? (· == c) = none := by
    rw [List.findIdx?_eq_none_iff]
    intro x hx
    simp only [List.mem_cons, List.not_mem_nil, or_false] at hx
    rw [beq_eq_false_iff_ne]
    rintro rfl
    rcases hx with z | z | z | z | z | z | z <;> contradiction
  have e1 : findB [97, 98, 102, 110, 114, 116, 118] c = -1 := by unfold findB; rw [e0]
  have e2 : escF c = none := by unfold escF; simp only [g1, g2, g3, g4, g5, g6, g7, if_false]
  rw [e2] at h
  walk_at "d"; simp_arith only [e1]
  exact h
end
end Lx
namespace Lx
noncomputable def kindsL : List (List UInt8 × V) := (List.range 21).map fun i => (reserved.getD i [], .int (257 + (i : Int)))
noncomputable def sg : List UInt8 → Int
  | [] => -1
  | c :: _ => (c.toNat : Int)
structure LS where
  T : List UInt8
  rest : List UInt8
  buf : List UInt8
  line : Nat
  d : Ad
  bf : Ad
  lim : Ad
  kd : Ad
  cur : Ad
  ahead : V
noncomputable def LS.pos (σ : LS) : Nat := σ.T.length - σ.rest.length
structure LF (fs : Fs) (σ : LS) : Prop where
  text : fs 10 = some (.bytes σ.T)
  chunk : fs 60 = some (.bytes [108, 97, 119])
  lim : fs 25 = some (.ref σ.lim)
  kd : fs 52 = some (.ref σ.kd)
  at_ : fs 18 = some (.int (σ.pos : Int))
  sign : fs 45 = some (.int (sg σ.rest))
  line : fs 43 = some (.int (σ.line : Int))
  bf : fs 66 = some (.ref σ.bf)
  cur : fs 67 = some (.ref σ.cur)
  ahead : fs 70 = some σ.ahead
  mt : ∀ p ∈ lexMT, fs p.1 = none
structure LX (mh : MH) (x : Ad) (σ : LS) : Prop where
  inst : mh x = some (.inst 465 σ.d)
  flds : ∃ fs, mh σ.d = some (.flds fs) ∧ LF fs σ
  bufO : mh σ.bf = some (.barr σ.buf)
  kdO : mh σ.kd = some (.bdict kindsL)
  limO : LimOK mh σ.lim
  suf : σ.T.drop σ.pos = σ.rest
  len : σ.rest.length ≤ σ.T.length
  small : σ.T.length ≤ 1000
structure Kp (mh : MH) (d bf : Ad) (mh' : MH) (bf' : Ad) : Prop where
  keep : ∀ a o, mh a = some o → a ≠ d → a ≠ bf → mh' a = some o
  own : bf' = bf ∨ mh bf' = none
  alive : ∀ a, mh a ≠ none → mh' a ≠ none
theorem Kp.refl {mh : MH} {d bf : Ad} : Kp mh d bf mh bf := ⟨fun u_ u_ h u_ u_ => h, .inl rfl, fun u_ h => h⟩
theorem Kp.of_ext {mh mh' : MH} {d bf : Ad} (x : Ext mh mh') : Kp mh d bf mh' bf := ⟨fun u_ u_ h u_ u_ => x _ _ h, .inl rfl, fun a h q => by
  cases e : mh a with
  | none => exact h e
  | some o => rw [x _ _ e] at q; cases q⟩
theorem Kp.trans {m₁ m₂ m₃ : MH} {d b₁ b₂ b₃ : Ad} (x : Kp m₁ d b₁ m₂ b₂) (y : Kp m₂ d b₂ m₃ b₃) : Kp m₁ d b₁ m₃ b₃ where
  keep a o e n1 n2 := y.keep a o (x.keep a o e n1 n2) n1 (by
    rintro rfl
    rcases x.own with q | q
    · exact n2 q
    · rw [q] at e; cases e)
  own := by
    rcases y.own with q | q
    · rw [q]; exact x.own
    · refine .inr ?_
      cases e : m₁ b₃ with
      | none => rfl
      | some o => exact absurd q (x.alive b₃ (by rw [e]; simp))
  alive a h := y.alive a (x.alive a h)
noncomputable def Kx (mh : MH) (d bf : Ad) (mh' : MH) : Prop := ∀ a o, mh a = some o → a ≠ d → a ≠ bf → mh' a = some o
theorem Kp.kx {m₁ m₂ m₃ : MH} {d b₁ b₂ : Ad} (x : Kp m₁ d b₁ m₂ b₂) (y : Kx m₂ d b₂ m₃) : Kx m₁ d b₁ m₃ := fun a o e n1 n2 => y a o (x.keep a o e n1 n2) n1 (by
    rintro rfl
    rcases x.own with q | q
    · exact n2 q
    · rw [q] at e; cases e)
section
variable {mh : MH} {x : Ad} {σ : LS}
theorem LX.attr (h : LX mh x σ) {i : Nm} {v : V} (hv : ∀ fs, LF fs σ → fs i = some v) : attrV mh (.ref x) i = some v := by
  obtain ⟨fs, h1, h2⟩ := h.flds
  simp [attrV, h.inst, h1, hv fs h2]
theorem LX.a10 (h : LX mh x σ) : attrV mh (.ref x) 10 = some (.bytes σ.T) := h.attr fun u_ q => q.text
theorem LX.a60 (h : LX mh x σ) : attrV mh (.ref x) 60 = some (.bytes [108, 97, 119]) := h.attr fun u_ q => q.chunk
theorem LX.a25 (h : LX mh x σ) : attrV mh (.ref x) 25 = some (.ref σ.lim) := h.attr fun u_ q => q.lim
theorem LX.a52 (h : LX mh x σ) : attrV mh (.ref x) 52 = some (.ref σ.kd) := h.attr fun u_ q => q.kd
theorem LX.a18 (h : LX mh x σ) : attrV mh (.ref x) 18 = some (.int (σ.pos : Int)) := h.attr fun u_ q => q.at_
theorem LX.a45 (h : LX mh x σ) : attrV mh (.ref x) 45 = some (.int (sg σ.rest)) := h.attr fun u_ q => q.sign
theorem LX.a43 (h : LX mh x σ) : attrV mh (.ref x) 43 = some (.int (σ.line : Int)) := h.attr fun u_ q => q.line
theorem LX.a66 (h : LX mh x σ) : attrV mh (.ref x) 66 = some (.ref σ.bf) := h.attr fun u_ q => q.bf
theorem LX.a67 (h : LX mh x σ) : attrV mh (.ref x) 67 = some (.ref σ.cur) := h.attr fun u_ q => q.cur
theorem LX.a70 (h : LX mh x σ) : attrV mh (.ref x) 70 = some σ.ahead := h.attr fun u_ q => q.ahead
theorem LX.own {C : Ad → List V → MH → (V → MH → Prop) → (MH → Prop) → Prop} {band} (h : LX mh x σ) (name f : Nat) (hf : lexMT.lookup name = some f) : mkind (Out.mk0 C band) name (.ref x) mh = some (.own f) := by
  obtain ⟨fs, h1, h2⟩ := h.flds
  have hn : fs name = none := h2.mt _ (lookup_mem hf)
  have hM : (Out.mk0 C band).MT 465 name = some f := by show MTt 465 name = _; unfold MTt; rw [if_pos rfl]; exact hf
  show (mh x).bind _ = _
  rw [h.inst]
  show ((mh _).bind moFlds).bind _ = _
  rw [h1]
  show @Option.casesOn V (fun u_ => Option MK) (fs name) _ _ = _
  rw [hn]
  show ((Out.mk0 C band).MT 465 name).map _ = _
  rw [hM]; rfl
theorem mt_ne {i : Nm} (hi : i ∈ fieldNames) : ∀ p ∈ lexMT, p.1 ≠ i := by
  have : (fieldNames.all fun i => lexMT.all fun p => p.1 != i) = true := by decide
  intro p hp
  have := List.all_eq_true.mp (List.all_eq_true.mp this i hi) p hp
  simpa using this
theorem mt_set {fs : Fs} {i : Nm} {v : V} (hi : i ∈ fieldNames) (h : ∀ p ∈ lexMT, fs p.1 = none) : ∀ p ∈ lexMT, (fs.set i v) p.1 = none := fun p hp => by
  unfold Fs.set; rw [if_neg (mt_ne hi p hp)]; exact h p hp
theorem LX.apart (h : LX mh x σ) : x ≠ σ.d ∧ x ≠ σ.bf ∧ σ.bf ≠ σ.d ∧ σ.kd ≠ σ.d ∧ σ.kd ≠ σ.bf ∧ σ.lim ≠ σ.d ∧ σ.lim ≠ σ.bf := by
  obtain ⟨fs, h1, h2⟩ := h.flds
  have a := h.inst; have b := h.bufO; have c := h.kdO
  obtain ⟨dl, lf, l1, l2, l3, l4⟩ := h.limO
  refine ⟨?_, ?_, ?_, ?_, ?_, ?_, ?_⟩ <;> intro e <;> simp_all
theorem LimOK.apart (h : LX mh x σ) : ∃ dl fs, mh σ.lim = some (.inst 53 dl) ∧ mh dl = some (.flds fs) ∧ fs 1 = some (.int 64) ∧ fs 10 = some (.int 1000000) ∧ dl ≠ σ.d ∧ dl ≠ σ.bf := by
  obtain ⟨fs, h1, h2⟩ := h.flds
  obtain ⟨dl, lf, l1, l2, l3, l4⟩ := h.limO
  refine ⟨dl, lf, l1, l2, l3, l4, ?_, ?_⟩
  · rintro rfl
    rw [h1] at l2; cases l2
    rw [h2.text] at l4; cases l4
  · rintro rfl; rw [h.bufO] at l2; cases l2
theorem LX.put0 (h : LX mh x σ) {σ' : LS} {f' : Fs} (hd : σ'.d = σ.d) (hb : σ'.bf = σ.bf) (hbf : σ'.buf = σ.buf) (hk : σ'.kd = σ.kd) (hl : σ'.lim = σ.lim) (hs : σ'.T.drop σ'.pos = σ'.rest) (hn : σ'.rest.length ≤ σ'.T.length) (hm : σ'.T.length ≤ 1000)
    (hF : LF f' σ') : LX (mh.set σ.d (.flds f')) x σ' ∧ Kp mh σ.d σ.bf (mh.set σ.d (.flds f')) σ.bf := by
  obtain ⟨fs, h1, h2⟩ := h.flds
  obtain ⟨p1, p2, p3, p4, p5, p6, p7⟩ := h.apart
  obtain ⟨dl, lf, l1, l2, l3, l4, l5, l6⟩ := LimOK.apart h
  refine ⟨⟨by rw [set_ne p1, hd]; exact h.inst, ⟨_, by rw [hd]; exact set_self, hF⟩, by rw [hb, set_ne p3, hbf]; exact h.bufO, by rw [hk, set_ne p4]; exact h.kdO, ?_, hs, hn, hm⟩, ⟨fun a o e n1 n2 => by rw [set_ne n1]; exact e, .inl rfl, fun a e => ?_⟩⟩
  · rw [hl]; exact ⟨dl, lf, by rw [set_ne p6]; exact l1, by rw [set_ne l5]; exact l2, l3, l4⟩
  · by_cases q : a = σ.d
    · subst q; rw [set_self]; simp
    · rw [set_ne q]; exact e
theorem LX.put (h : LX mh x σ) {σ' : LS} {i : Nm} {v : V} (hd : σ'.d = σ.d) (hb : σ'.bf = σ.bf) (hbf : σ'.buf = σ.buf) (hk : σ'.kd = σ.kd) (hl : σ'.lim = σ.lim) (hs : σ'.T.drop σ'.pos = σ'.rest) (hn : σ'.rest.length ≤ σ'.T.length) (hm : σ'.T.length ≤ 1000)
    (hF : ∀ fs, LF fs σ → LF (fs.set i v) σ') {Q : MH → Prop} (hQ : ∀ mh', LX mh' x σ' → Kp mh σ.d σ.bf mh' σ.bf → Q mh') : setAttrP mh (.ref x) i v Q := by
  obtain ⟨fs, h1, h2⟩ := h.flds
  unfold setAttrP
  simp only [h.inst, h1]
  obtain ⟨a, b⟩ := h.put0 hd hb hbf hk hl hs hn hm (hF fs h2)
  exact hQ _ a b
theorem set_set {m : MH} {a : Ad} {o o' : MO} : (m.set a o).set a o' = m.set a o' := by
  funext b; unfold MH.set; split <;> rfl
theorem LX.line! (h : LX mh x σ) (k : Nat) {Q : MH → Prop} (hQ : ∀ mh', LX mh' x { σ with line := k } → Kp mh σ.d σ.bf mh' σ.bf → Q mh') : setAttrP mh (.ref x) 43 (.int (k : Int)) Q :=
  h.put (σ' := { σ with line := k }) rfl rfl rfl rfl rfl h.suf h.len h.small (fun fs q => ⟨by first | exact q.text | simp [Fs.set, q.text], by first | exact q.chunk | simp [Fs.set, q.chunk], by first | exact q.lim | simp [Fs.set, q.lim], by first | exact q.kd | simp [Fs.set, q.kd], by simp [Fs.set, q.at_, LS.pos], by first | exact q.sign | simp [Fs.set, q.sign], by first | rfl | simp [Fs.set], by first | exact q.bf | simp [Fs.set, q.bf], by first | exact q.cur | simp [Fs.set, q.cur], by first | exact q.ahead | simp [Fs.set, q.ahead], mt_set (by decide) q.mt⟩) hQ
theorem LX.last! (h : LX mh x σ) (v : V) {Q : MH → Prop} (hQ : ∀ mh', LX mh' x σ → Kp mh σ.d σ.bf mh' σ.bf → Q mh') : setAttrP mh (.ref x) 65 v Q :=
  h.put (σ' := σ) rfl rfl rfl rfl rfl h.suf h.len h.small (fun fs q => ⟨by first | exact q.text | simp [Fs.set, q.text], by first | exact q.chunk | simp [Fs.set, q.chunk], by first | exact q.lim | simp [Fs.set, q.lim], by first | exact q.kd | simp [Fs.set, q.kd], by simp [Fs.set, q.at_, LS.pos], by first | exact q.sign | simp [Fs.set, q.sign], by first | exact q.line | simp [Fs.set, q.line], by first | exact q.bf | simp [Fs.set, q.bf], by first | exact q.cur | simp [Fs.set, q.cur], by first | exact q.ahead | simp [Fs.set, q.ahead], mt_set (by decide) q.mt⟩) hQ
theorem LX.cur! (h : LX mh x σ) (k : Ad) {Q : MH → Prop} (hQ : ∀ mh', LX mh' x { σ with cur := k } → Kp mh σ.d σ.bf mh' σ.bf → Q mh') : setAttrP mh (.ref x) 67 (.ref k) Q :=
  h.put (σ' := { σ with cur := k }) rfl rfl rfl rfl rfl h.suf h.len h.small (fun fs q => ⟨by first | exact q.text | simp [Fs.set, q.text], by first | exact q.chunk | simp [Fs.set, q.chunk], by first | exact q.lim | simp [Fs.set, q.lim], by first | exact q.kd | simp [Fs.set, q.kd], by simp [Fs.set, q.at_, LS.pos], by first | exact q.sign | simp [Fs.set, q.sign], by first | exact q.line | simp [Fs.set, q.line], by first | exact q.bf | simp [Fs.set, q.bf], by first | rfl | simp [Fs.set], by first | exact q.ahead | simp [Fs.set, q.ahead], mt_set (by decide) q.mt⟩) hQ
theorem LX.ahead! (h : LX mh x σ) (v : V) {Q : MH → Prop} (hQ : ∀ mh', LX mh' x { σ with ahead := v } → Kp mh σ.d σ.bf mh' σ.bf → Q mh') : setAttrP mh (.ref x) 70 v Q :=
  h.put (σ' := { σ with ahead := v }) rfl rfl rfl rfl rfl h.suf h.len h.small (fun fs q => ⟨by first | exact q.text | simp [Fs.set, q.text], by first | exact q.chunk | simp [Fs.set, q.chunk], by first | exact q.lim | simp [Fs.set, q.lim], by first | exact q.kd | simp [Fs.set, q.kd], by simp [Fs.set, q.at_, LS.pos], by first | exact q.sign | simp [Fs.set, q.sign], by first | exact q.line | simp [Fs.set, q.line], by first | exact q.bf | simp [Fs.set, q.bf], by first | exact q.cur | simp [Fs.set, q.cur], by first | rfl | simp [Fs.set], mt_set (by decide) q.mt⟩) hQ
theorem LX.buf! (h : LX mh x σ) {b : Ad} {bs : List UInt8} (hb : mh b = some (.barr bs)) {Q : MH → Prop} (hQ : ∀ mh', LX mh' x { σ with bf := b, buf := bs } → (∀ a o, mh a = some o → a ≠ σ.d → mh' a = some o) → (∀ a, mh a ≠ none → mh' a ≠ none) → Q mh') : setAttrP mh (.ref x) 66 (.ref b) Q := by
  obtain ⟨fs, h1, h2⟩ := h.flds
  obtain ⟨p1, p2, p3, p4, p5, p6, p7⟩ := h.apart
  obtain ⟨dl, lf, l1, l2, l3, l4, l5, l6⟩ := LimOK.apart h
  have nb : b ≠ σ.d := by rintro rfl; rw [h1] at hb; cases hb
  unfold setAttrP
  simp only [h.inst, h1]
  refine hQ _ ⟨by rw [set_ne p1]; exact h.inst, ⟨_, set_self, ?_⟩, by rw [set_ne nb]; exact hb, by rw [set_ne p4]; exact h.kdO, ⟨dl, lf, by rw [set_ne p6]; exact l1, by rw [set_ne l5]; exact l2, l3, l4⟩, h.suf, h.len, h.small⟩ (fun a o e n1 => by rw [set_ne n1]; exact e) (fun a e => ?_)
  · exact ⟨by first | exact h2.text | simp [Fs.set, h2.text], by first | exact h2.chunk | simp [Fs.set, h2.chunk], by first | exact h2.lim | simp [Fs.set, h2.lim], by first | exact h2.kd | simp [Fs.set, h2.kd], by simp [Fs.set, h2.at_, LS.pos], by first | exact h2.sign | simp [Fs.set, h2.sign], by first | exact h2.line | simp [Fs.set, h2.line], by first | rfl | simp [Fs.set], by first | exact h2.cur | simp [Fs.set, h2.cur], by first | exact h2.ahead | simp [Fs.set, h2.ahead], mt_set (by decide) h2.mt⟩
  · by_cases q : a = σ.d
    · subst q; rw [set_self]; simp
    · rw [set_ne q]; exact e
theorem LX.ext (h : LX mh x σ) {mh' : MH} (e : Ext mh mh') : LX mh' x σ := by
  obtain ⟨fs, h1, h2⟩ := h.flds
  exact ⟨e _ _ h.inst, ⟨fs, e _ _ h1, h2⟩, e _ _ h.bufO, e _ _ h.kdO, h.limO.ext e, h.suf, h.len, h.small⟩
theorem LX.fill (h : LX mh x σ) (bs : List UInt8) : LX (mh.set σ.bf (.barr bs)) x { σ with buf := bs } ∧ Kp mh σ.d σ.bf (mh.set σ.bf (.barr bs)) σ.bf := by
  (refine absG fun G_ hG_ => ?_; (rcases h.flds with ⟨fs, h1, h2⟩) <;> (refine hG_ ?_; clear hG_ G_))
  (refine absG fun G_ hG_ => ?_; (rcases h.apart with ⟨p1, p2, p3, p4, p5, p6, p7⟩) <;> (refine hG_ ?_; clear hG_ G_))
  (refine absG fun G_ hG_ => ?_; (rcases LimOK.apart h with ⟨dl, lf, l1, l2, l3, l4, l5, l6⟩) <;> (refine hG_ ?_; clear hG_ G_))
  refine ⟨⟨by rw [set_ne p2]; exact h.inst, ⟨fs, by rw [set_ne (Ne.symm p3)]; exact h1, ⟨h2.text, h2.chunk, h2.lim, h2.kd, h2.at_, h2.sign, h2.line, h2.bf, h2.cur, h2.ahead, h2.mt⟩⟩, set_self, by rw [set_ne p5]; exact h.kdO, ⟨dl, lf, by rw [set_ne p7]; exact l1, by rw [set_ne l6]; exact l2, l3, l4⟩, h.suf, h.len, h.small⟩, ⟨fun a o e n1 n2 => by rw [set_ne n2]; exact e, .inl rfl, fun a e => ?_⟩⟩
  by_cases q : a = σ.bf
  · subst q; rw [set_self]; simp
  · rw [set_ne q]; exact e
end
end Lx
namespace Lx
theorem raw_at {mh : MH} {x d C : Ad} {f : Fs} {i : Nm} (h : mh x = some (.inst C d)) (n : x ≠ d) : attrV (mh.set d (.flds f)) (.ref x) i = f i := by
  simp [attrV, set_ne n, h, set_self]
theorem raw_put {mh : MH} {x d C : Ad} {f : Fs} {i : Nm} {v : V} {Q : MH → Prop} (h : mh x = some (.inst C d)) (n : x ≠ d) (q : Q (mh.set d (.flds (f.set i v)))) : setAttrP (mh.set d (.flds f)) (.ref x) i v Q := by
  unfold setAttrP
  simp only [set_ne n, h, set_self, set_set]
  exact q
theorem sg_lt {c : UInt8} {r : List UInt8} : 0 ≤ sg (c :: r) ∧ sg (c :: r) < 256 := u8
noncomputable def afterNL : List UInt8 → List UInt8
  | [] => []
  | [_] => []
  | c :: e :: r => if isNL (e.toNat : Int) && !(e == c) then r else e :: r
theorem afterNL2 {c e : UInt8} {r : List UInt8} : afterNL (c :: e :: r) = if isNL (e.toNat : Int) && !(e == c) then r else e :: r := rfl
section
variable {C : Nat → Ad → List V → MH → (V → MH → Prop) → (MH → Prop) → Prop} {band : Int → Int → Int} (S : Sys C band)
include S
theorem c_move {n : Nat} (hn : 1 ≤ n) {mh : MH} {x : Ad} {σ : LS} (h : LX mh x σ) {c : UInt8} {r : List UInt8} (hr : σ.rest = c :: r) {Q X} (hQ : ∀ mh', LX mh' x { σ with rest := r } → Kp mh σ.d σ.bf mh' σ.bf → Q .none mh') : C n 322 [.ref x] mh Q X := by
  refine fn1 S (ps := p_Lexer_move) (b := b_Lexer_move) (by exact List.mem_of_getElem? (i := 25) rfl) (by lia) rfl fun m e => ?_
  obtain ⟨fs, h1, h2⟩ := h.flds
  obtain ⟨p1, p2, p3, p4, p5, p6, p7⟩ := h.apart
  have hlen := h.len
  have hpos : σ.pos + 1 = σ.T.length - r.length := by unfold LS.pos; rw [hr] at hlen ⊢; exact (sb1 hlen).symm
  have hsuf := h.suf
  rw [hr] at hsuf
  have hd1 : σ.T.drop (σ.pos + 1) = r := by rw [← List.drop_drop, hsuf]; rfl
  have hl : r.length + 1 ≤ σ.T.length := by rw [hr] at hlen; simpa using hlen
  have e1 : (σ.pos : Int) + 1 = ((σ.pos + 1 : Nat) : Int) := by lia
  have hp' : ({ σ with rest := r } : LS).pos = σ.pos + 1 := hpos.symm
  dsimp only [p_Lexer_move, b_Lexer_move]; walk_at "d"; simp_arith only [wpBody]
  simp_all_arith only [h.a18]
  unfold setAttrP
  simp only [h.inst, h1]
  simp_all_arith only [raw_at h.inst p1, h2.text]
  have fin : wpSs (Out.mk0 (C m) band) .nil ⟨Fs.set (fun u_ => none) 0 (.ref x), mh.set σ.d (.flds ((fs.set 18 (.int ((σ.pos + 1 : Nat) : Int))).set 45 (.int (sg r))))⟩ (retQ Q) (fun st => X st.mh) := by
    walk_at "n"
    obtain ⟨a, b⟩ := h.put0 (σ' := { σ with rest := r }) (f' := (fs.set 18 (.int ((σ.pos + 1 : Nat) : Int))).set 45 (.int (sg r))) rfl rfl rfl rfl rfl (by show σ.T.drop (σ.T.length - r.length) = r; rw [← hpos, hd1]) (by show r.length ≤ σ.T.length; lia) h.small
      ⟨by first | exact h2.text | simp [Fs.set, h2.text], by first | exact h2.chunk | simp [Fs.set, h2.chunk], by first | exact h2.lim | simp [Fs.set, h2.lim], by first | exact h2.kd | simp [Fs.set, h2.kd], by rw [hp']; simp [Fs.set], by first | rfl | simp [Fs.set], by first | exact h2.line | simp [Fs.set, h2.line], by first | exact h2.bf | simp [Fs.set, h2.bf], by first | exact h2.cur | simp [Fs.set, h2.cur], by first | exact h2.ahead | simp [Fs.set, h2.ahead], mt_set (by decide) (mt_set (by decide) h2.mt)⟩
    exact hQ _ a b
  cases hrr : r with
  | nil =>
    have q : ¬ ((σ.pos : Int) + 1 < (σ.T.length : Int)) := by rw [hrr] at hpos; simp at hpos; lia
    rw [hrr] at fin
    walk_at "d"; simp_arith only [q]
    refine raw_put h.inst p1 ?_
    rw [e1]
    exact fin
  | cons c2 r2 =>
    have hl2 : r2.length + 1 = r.length := by rw [hrr]; rfl
    have q : (σ.pos : Int) + 1 < (σ.T.length : Int) := by rw [e1]; exact i_lt (by rw [hpos]; exact Nat.sub_lt (Nat.lt_of_lt_of_le (Nat.succ_pos _) hl) (by rw [← hl2]; exact Nat.succ_pos _))
    have hi : σ.T[σ.pos + 1]? = some c2 := by
      have : (σ.T.drop (σ.pos + 1))[0]? = some c2 := by rw [hd1, hrr]; rfl
      simpa using this
    rw [hrr] at fin
    have hx : ∀ O mh, idxV O mh (.bytes σ.T) (.int ((σ.pos : Int) + 1)) = some (.int (c2.toNat : Int)) := fun O mh => by rw [e1]; exact idx_b hi
    walk_at "d"; simp_arith only [q, hx]
    refine raw_put h.inst p1 ?_
    rw [e1]
    exact fin
theorem c_keep {n : Nat} (hn : 1 ≤ n) {mh : MH} {x : Ad} {σ : LS} (h : LX mh x σ) (hb : σ.buf.length < 1000000) {c : UInt8} {Q X} (hQ : ∀ mh', LX mh' x { σ with buf := σ.buf ++ [c] } → Kp mh σ.d σ.bf mh' σ.bf → Q .none mh') : C n 329 [.ref x, .int (c.toNat : Int)] mh Q X := by
  refine fn1 S (ps := p_Lexer_keep) (b := b_Lexer_keep) (by exact List.mem_of_getElem? (i := 26) rfl) (by lia) rfl fun m e => ?_
  have q : ¬ ((1000000 : Int) ≤ (σ.buf.length : Int)) := by lia
  dsimp only [p_Lexer_keep, b_Lexer_keep]; walk_at "d"; simp_arith only [wpBody]
  simp_all_arith only [h.a66, h.bufO, h.a25, h.limO.text, q]
  walk_at "n"
  simp_all_arith only [h.a66, mk_bA h.bufO, h.bufO, u8, u8n]
  walk_at "n"
  refine ⟨by rw [limN]; exact hb, ?_⟩
  obtain ⟨a, b⟩ := h.fill (σ.buf ++ [c])
  exact hQ _ a b
theorem c_kam {n : Nat} (hn : 2 ≤ n) {mh : MH} {x : Ad} {σ : LS} (h : LX mh x σ) (hb : σ.buf.length < 1000000) {c : UInt8} {r : List UInt8} (hr : σ.rest = c :: r) {Q X} (hQ : ∀ mh', LX mh' x { σ with rest := r, buf := σ.buf ++ [c] } → Kp mh σ.d σ.bf mh' σ.bf → Q .none mh') : C n 336 [.ref x] mh Q X := by
  refine fn1 S (ps := p_Lexer_keep_and_move) (b := b_Lexer_keep_and_move) (by exact List.mem_of_getElem? (i := 27) rfl) (by lia) rfl fun m e => ?_
  have hs : sg σ.rest = (c.toNat : Int) := by rw [hr]; rfl
  dsimp only [p_Lexer_keep_and_move, b_Lexer_keep_and_move]; walk_at "d"; simp_arith only [wpBody]
  simp_all_arith only [h.own 80 329 rfl, h.a45, hs]
  refine c_keep S (by lia) h hb fun mh1 h1 k1 => ?_
  simp_all_arith only [h1.own 81 322 rfl]
  refine c_move S (by lia) h1 hr fun mh2 h2 k2 => ?_
  walk_at "n"
  exact hQ _ h2 (k1.trans k2)
theorem c_clear {n : Nat} (hn : 1 ≤ n) {mh : MH} {x : Ad} {σ : LS} (h : LX mh x σ) {Q X} (hQ : ∀ mh' b, LX mh' x { σ with bf := b, buf := [] } → Kp mh σ.d σ.bf mh' b → Q .none mh') : C n 350 [.ref x] mh Q X := by
  refine fn1 S (ps := p_Lexer_clear) (b := b_Lexer_clear) (by exact List.mem_of_getElem? (i := 29) rfl) (by lia) rfl fun m e => ?_
  dsimp only [p_Lexer_clear, b_Lexer_clear]; walk_at "d"; simp_arith only [wpBody]
  simp_all_arith only [wpBody]
  intro b hb
  have e1 : Ext mh (mh.set b (.barr [])) := Ext.new hb
  refine (h.ext e1).buf! (bs := []) set_self fun mh' h' k1 k2 => ?_
  walk_at "n"
  refine hQ _ b h' ⟨fun a o e n1 n2 => k1 a o (e1 a o e) n1, .inr hb, fun a e => k2 a ?_⟩
  cases q : mh a with
  | none => exact absurd q e
  | some o => rw [e1 a o q]; simp
theorem c_end_line {n : Nat} (hn : 2 ≤ n) {mh : MH} {x : Ad} {σ : LS} (h : LX mh x σ) (hl : σ.line ≤ 100000) (hc : σ.rest ≠ []) {Q X} (hQ : ∀ mh', LX mh' x { σ with rest := afterNL σ.rest, line := σ.line + 1 } → Kp mh σ.d σ.bf mh' σ.bf → Q .none mh') : C n 357 [.ref x] mh Q X := by
  refine fn1 S (ps := p_Lexer_end_line) (b := b_Lexer_end_line) (by exact List.mem_of_getElem? (i := 30) rfl) (by lia) rfl fun m e => ?_
  obtain ⟨c, r, hr⟩ : ∃ c r, σ.rest = c :: r := by
    cases q : σ.rest with
    | nil => exact absurd q hc
    | cons c r => exact ⟨c, r, rfl⟩
  have hs : sg σ.rest = (c.toNat : Int) := by rw [hr]; rfl
  dsimp only [p_Lexer_end_line, b_Lexer_end_line]; walk_at "d"; simp_arith only [wpBody]
  simp_all_arith only [h.a45, hs]
  simp_all_arith only [h.own 81 322 rfl]
  refine c_move S (by lia) h hr fun mh1 h1 k1 => ?_
  have fin : ∀ {mh2 : MH} {σ2 : LS}, LX mh2 x σ2 → σ2 = { σ with rest := afterNL σ.rest } → Kp mh σ.d σ.bf mh2 σ.bf → ∀ loc : Fs, loc 0 = some (.ref x) →
      wpSs (Out.mk0 (C m) band) (tlS (tlS (tlS b_Lexer_end_line))) ⟨loc, mh2⟩ (retQ Q) (fun st => X st.mh) := by
    rintro mh2 σ2 h2 rfl k2 loc hloc
    have e1 : (σ.line : Int) + 1 = ((σ.line + 1 : Nat) : Int) := by lia
    simp only [tlS, b_Lexer_end_line]
    simp_all_arith only [hloc, h2.a43, e1]
    refine h2.line! _ fun mh3 h3 k3 => ?_
    have q : ¬ ((2147483645 : Int) ≤ ((σ.line + 1 : Nat) : Int)) := by lia
    simp_all_arith only [hloc, h3.a43, q]
    walk_at "n"; walk_at "n"
    exact hQ _ h3 (k2.trans k3)
  simp only [tlS, b_Lexer_end_line] at fin
  simp_all_arith only [h1.a45]
  refine c_is_newline S (by lia) ?_
  cases hz : isNL (sg r)
  · walk_at "d"; simp_arith only [wpBody]
    walk_at "n"
    refine fin h1 ?_ k1 _ (by first | rfl | simp [Fs.set])
    have : afterNL σ.rest = r := by
      rw [hr]
      cases r with
      | nil => rfl
      | cons e r2 => rw [afterNL2, show isNL (e.toNat : Int) = false from hz]; rfl
    rw [this]
  · obtain ⟨e2, r2, hr2⟩ : ∃ e r2, r = e :: r2 := by
      cases r with
      | nil => cases hz
      | cons e r2 => exact ⟨e, r2, rfl⟩
    subst hr2
    have hs2 : sg (e2 :: r2) = (e2.toNat : Int) := rfl
    have hbe : ((e2.toNat : Int) == (c.toNat : Int)) = (e2 == c) := by
      by_cases w : e2 = c
      · simp [w]
      · have : ¬ (e2.toNat : Int) = (c.toNat : Int) := fun z => w (UInt8.toNat_inj.mp (by lia))
        rw [beq_eq_false_iff_ne.mpr w, beq_eq_false_iff_ne.mpr this]
    walk_at "d"; simp_arith only [h1.a45, hs2, hbe]
    cases hw : (e2 == c)
    · walk_at "d"; simp_arith only [wpBody]
      simp_all_arith only [h1.own 81 322 rfl]
      refine c_move S (by lia) h1 rfl fun mh2 h2 k2 => ?_
      walk_at "n"
      refine fin h2 ?_ (k1.trans k2) _ (by first | rfl | simp [Fs.set])
      have : afterNL σ.rest = r2 := by rw [hr, afterNL2, show isNL (e2.toNat : Int) = true from hz, hw]; rfl
      rw [this]
    · walk_at "d"; simp_arith only [wpBody]
      walk_at "n"
      refine fin h1 ?_ k1 _ (by first | rfl | simp [Fs.set])
      have : afterNL σ.rest = e2 :: r2 := by rw [hr, afterNL2, hw]; simp
      rw [this]
theorem c_behind {n : Nat} (hn : 1 ≤ n) {mh : MH} {x : Ad} {σ : LS} (h : LX mh x σ) (hc : σ.rest ≠ []) {Q X} (hQ : Q (.int (sg σ.rest.tail)) mh) : C n 378 [.ref x] mh Q X := by
  refine fn1 S (ps := p_Lexer_sign_behind) (b := b_Lexer_sign_behind) (by exact List.mem_of_getElem? (i := 33) rfl) (by lia) rfl fun m e => ?_
  obtain ⟨c, r, hr⟩ : ∃ c r, σ.rest = c :: r := by
    cases q : σ.rest with
    | nil => exact absurd q hc
    | cons c r => exact ⟨c, r, rfl⟩
  have hlen := h.len
  have hsuf := h.suf
  rw [hr] at hsuf hQ
  have hd1 : σ.T.drop (σ.pos + 1) = r := by rw [← List.drop_drop, hsuf]; rfl
  have hpos : σ.pos + 1 = σ.T.length - r.length := by unfold LS.pos; rw [hr] at hlen ⊢; exact (sb1 hlen).symm
  have hl : r.length + 1 ≤ σ.T.length := by rw [hr] at hlen; simpa using hlen
  have e1 : (σ.pos : Int) + 1 = ((σ.pos + 1 : Nat) : Int) := by lia
  dsimp only [p_Lexer_sign_behind, b_Lexer_sign_behind]; walk_at "d"; simp_arith only [wpBody]
  cases hrr : r with
  | nil =>
    have q : ¬ ((σ.pos : Int) + 1 < (σ.T.length : Int)) := by rw [hrr] at hpos; simp at hpos; lia
    rw [hrr] at hQ
    simp_all_arith only [h.a18, h.a10, q]
    exact hQ
  | cons c2 r2 =>
    have hl2 : r2.length + 1 = r.length := by rw [hrr]; rfl
    have q : (σ.pos : Int) + 1 < (σ.T.length : Int) := by rw [e1]; exact i_lt (by rw [hpos]; exact Nat.sub_lt (Nat.lt_of_lt_of_le (Nat.succ_pos _) hl) (by rw [← hl2]; exact Nat.succ_pos _))
    have hi : σ.T[σ.pos + 1]? = some c2 := by
      have : (σ.T.drop (σ.pos + 1))[0]? = some c2 := by rw [hd1, hrr]; rfl
      simpa using this
    rw [hrr] at hQ
    have hx : ∀ O mh, idxV O mh (.bytes σ.T) (.int ((σ.pos : Int) + 1)) = some (.int (c2.toNat : Int)) := fun O mh => by rw [e1]; exact idx_b hi
    simp_all_arith only [h.a18, h.a10, q, hx]
    exact hQ
theorem c_keep_if {n : Nat} (hn : 3 ≤ n) {mh : MH} {x : Ad} {σ : LS} (h : LX mh x σ) (hb : σ.buf.length < 1000000) {vs : List V} {t : Bool} (ht : memV (.int (sg σ.rest)) (.tup vs) = some t) (ne : t = true → σ.rest ≠ []) {Q X}
    (hQ : (t = false → Q (.bool false) mh) ∧ (t = true → ∀ c r mh', σ.rest = c :: r → LX mh' x { σ with rest := r, buf := σ.buf ++ [c] } → Kp mh σ.d σ.bf mh' σ.bf → Q (.bool true) mh')) : C n 343 [.ref x, .tup vs] mh Q X := by
  refine fn1 S (ps := p_Lexer_keep_if) (b := b_Lexer_keep_if) (by exact List.mem_of_getElem? (i := 28) rfl) (by lia) rfl fun m e => ?_
  unfold memV at ht
  dsimp only [p_Lexer_keep_if, b_Lexer_keep_if]; walk_at "d"; simp_arith only [wpBody]
  cases t
  · simp_all_arith only [h.a45, ht]
    simp_all_arith only [wpBody]
    exact hQ.1 rfl
  · simp_all_arith only [h.a45, ht]
    walk_at "n"
    obtain ⟨c, r, hr⟩ : ∃ c r, σ.rest = c :: r := by
      cases q : σ.rest with
      | nil => exact absurd q (ne rfl)
      | cons c r => exact ⟨c, r, rfl⟩
    simp_all_arith only [h.own 83 336 rfl]
    refine c_kam S (by lia) h hb hr fun mh1 h1 k1 => ?_
    simp_all_arith only [wpBody]
    exact hQ.2 rfl c r mh1 hr h1 k1
end
end Lx
namespace Lx
theorem kinds_get {k : Nat} (hk : k < 21) : kindsL[k]? = some (reserved.getD k [], .int (257 + (k : Int))) := by
  unfold kindsL
  rw [List.getElem?_map, List.getElem?_range hk]; rfl
theorem res_nodup : reserved.Nodup := by decide +kernel
theorem kind_step : ∀ (k : Nat) (v : V), (reserved.map V.bytes)[k]? = some v → ∃ w, v = .bytes w ∧ (kindsL.take k).lookup w = none ∧ kindsL.take k ++ [(w, .int (257 + (k : Int)))] = kindsL.take (k + 1) := fun k v h => by
  rw [List.getElem?_map, Option.map_eq_some_iff] at h
  obtain ⟨w, h1, rfl⟩ := h
  obtain ⟨hk', h2⟩ := List.getElem?_eq_some_iff.mp h1
  have hk : k < 21 := hk'
  have hw : reserved.getD k [] = w := by rw [List.getD_eq_getElem?_getD, h1]; rfl
  refine ⟨w, rfl, ?_, ?_⟩
  · rw [List.lookup_eq_none_iff]
    intro p hp
    obtain ⟨i, hi⟩ := List.mem_iff_getElem?.mp hp
    rw [List.getElem?_take] at hi
    by_cases hik : i < k
    · rw [if_pos hik, kinds_get (Nat.lt_trans hik hk)] at hi
      obtain rfl := Option.some.inj hi
      have h3 : i < reserved.length := Nat.lt_trans hik hk'
      have e : reserved.getD i [] = reserved[i] := by rw [List.getD_eq_getElem?_getD, List.getElem?_eq_getElem h3]; rfl
      show (w != reserved.getD i []) = true
      rw [e, bne_iff_ne, ← h2]
      exact fun q => (List.pairwise_iff_getElem.mp res_nodup i k h3 hk' hik) q.symm
    · rw [if_neg hik] at hi; cases hi
  · have hl : k < kindsL.length := hk
    rw [List.take_succ_eq_append_getElem hl]
    have := kinds_get hk
    rw [List.getElem?_eq_getElem hl, hw] at this
    rw [Option.some.inj this]
theorem Ext.del {mh m : MH} {a : Ad} (x : Ext mh m) (h : mh a = none) : Ext mh (m.del a) := fun b o' e => by
  unfold MH.del
  rw [if_neg (fun q => by subst q; rw [h] at e; cases e)]; exact x _ _ e
section
variable {C : Nat → Ad → List V → MH → (V → MH → Prop) → (MH → Prop) → Prop} {band : Int → Int → Int} (S : Sys C band)
include S
theorem c_kinds {n : Nat} (hn : 1 ≤ n) {mh : MH} {Q X} (hQ : ∀ a mh', mh a = none → Ext mh mh' → mh' a = some (.bdict kindsL) → Q (.ref a) mh') : C n 238 [] mh Q X := by
  refine fn1 S (ps := p_reserved_kinds) (b := b_reserved_kinds) (by exact List.mem_of_getElem? (i := 19) rfl) (by lia) rfl fun m e => ?_
  dsimp only [p_reserved_kinds, b_reserved_kinds]; walk_at "d"; simp_arith only [wpBody]
  simp_all_arith only [wpBody]
  intro a ha
  have hs : SLt 181 = some (reserved.map V.bytes) := rfl
  simp_all_arith only [hs]
  refine ⟨fun k st => Ext mh st.mh ∧ st.loc 52 = some (.ref a) ∧ st.mh a = some (.bdict (kindsL.take k)), ⟨Ext.new ha, by first | rfl | simp [Fs.set], set_self⟩, ?_, ?_⟩
  · rintro k ⟨loc, mh'⟩ v hv ⟨x, h52, hA⟩
    dsimp only at x h52 hA
    obtain ⟨w, rfl, hw1, hw2⟩ := kind_step k v hv
    simp_all_arith only [h52, hA, hw1]
    walk_at "n"
    refine ⟨by rw [limN, List.length_take]; have : kindsL.length = 21 := rfl; lia, ?_⟩
    refine ⟨x.set ha, by first | exact h52 | simp [Fs.set, h52], ?_⟩
    show (mh'.set a _) a = _
    rw [set_self, hw2]
  · rintro ⟨loc, mh'⟩ ⟨x, h52, hA⟩
    dsimp only at x h52 hA
    simp_all_arith only [h52]
    exact hQ a _ ha x hA
theorem c_exc {n : Nat} (hn : 2 ≤ n) {v : V} {mh : MH} {Q X} (hQ : ∀ x d mh', mh x = none → Ext mh mh' → mh' x = some (.exc 87 (some d)) → Q (.ref x) mh') : C n 87 [v] mh Q X := by
  obtain ⟨n, rfl⟩ : ∃ m, n = m + 2 := ⟨n - 2, (Nat.sub_add_cancel hn).symm⟩
  refine S.exc n v mh Q X fun x hx => ?_
  dsimp only [p_LuaError___init__, b_LuaError___init__]; walk_at "d"; simp_arith only [wpBody]
  simp_all_arith only [wpBody]
  unfold setAttrP
  simp only [set_self]
  intro d hd hdx
  rw [set_ne hdx] at hd
  simp_all_arith only [wpBody]
  refine ⟨Nat.zero_le _, fun l hl => ?_⟩
  have nx : x ≠ d := Ne.symm hdx
  have lx : l ≠ x := by rintro rfl; rw [set_self] at hl; cases hl
  rw [set_ne lx] at hl
  have ld : l ≠ d := by rintro rfl; rw [set_self] at hl; cases hl
  rw [set_ne ld, set_ne lx] at hl
  unfold setAttrP
  simp only [set_ne (Ne.symm lx), set_self, set_ne (Ne.symm ld), set_ne hdx]
  simp_all_arith only [wpBody]
  unfold setAttrP
  have e1 : ∀ o1 o2 : MO, ((((((mh.set x (.exc 87 none)).set d o1).set x (.exc 87 (some d))).set l (.list [])).set d o2)) x = some (.exc 87 (some d)) := fun o1 o2 => by
    rw [set_ne nx, set_ne (Ne.symm lx), set_self]
  simp only [e1, set_self]
  walk_at "n"
  refine hQ x d _ hx ?_ ?_
  · exact ((((((Ext.new hx).set hd).set hx).set hl).set hd).set hd)
  · show (((((_ : MH).set _ _).set _ _).set _ _).set _ _) x = _
    rw [set_ne nx]; exact e1 _ _
theorem c_ttext_eos {n : Nat} (hn : 1 ≤ n) {mh : MH} {Q X} (hQ : Q (.bytes [60, 101, 111, 102, 62]) mh) : C n 245 [.int 287] mh Q X := by
  refine fn1 S (ps := p_token_text) (b := b_token_text) (by exact List.mem_of_getElem? (i := 20) rfl) (by lia) rfl fun m e => ?_
  have h1 : SLt 181 = some (reserved.map V.bytes) := rfl
  have h2 : SLt 182 = some (others.map V.bytes) := rfl
  have l1 : (reserved.map V.bytes).length = 21 := rfl
  have q : ¬ ((287 : Int) < 257) := by decide
  have q2 : ¬ ((287 : Int) - 257 < ((21 : Nat) : Int)) := by decide
  have i9 : ∀ mh, idxV (Out.mk0 (C m) band) mh (.stat 182) (.int ((287 : Int) - 257 - ((21 : Nat) : Int))) = some (.bytes [60, 101, 111, 102, 62]) := fun u_ => rfl
  dsimp only [p_token_text, b_token_text]; walk_at "d"; simp_arith only [wpBody]
  simp_all_arith only [q]
  walk_at "n"
  simp_all_arith only [wpBody]
  simp_all_arith only [h1, l1, q2, i9]
  exact hQ
theorem c_ttext_91 {n : Nat} (hn : 2 ≤ n) {mh : MH} {Q X} (hQ : ∀ mh', Ext mh mh' → Q (.bytes [91]) mh') : C n 245 [.int 91] mh Q X := by
  refine fn1 S (ps := p_token_text) (b := b_token_text) (by exact List.mem_of_getElem? (i := 20) rfl) (by lia) rfl fun m e => ?_
  dsimp only [p_token_text, b_token_text]; walk_at "d"; simp_arith only [wpBody]
  simp_all_arith only [wpBody]
  simp_all_arith only [wpBody]
  refine c_is_control S (by lia) ?_
  have : isCtl 91 = false := by decide
  walk_at "d"; simp_arith only [this]
  walk_at "n"
  simp_all_arith only [wpBody]
  refine ⟨by rw [limN]; lia, fun a ha => ?_⟩
  walk_at "d"; simp_arith only [set_self]
  refine ⟨[91], rfl, ?_⟩
  exact hQ _ (Ext.new ha)
theorem c_near {n : Nat} (hn : 3 ≤ n) {mh : MH} {x : Ad} {σ : LS} (h : LX mh x σ) (hb : σ.buf.length ≤ 100000) {k : Int} (hk : k = 284 ∨ k = 286 ∨ k = 287 ∨ k = 91) {Q X} (hQ : ∀ bs mh', Ext mh mh' → bs.length ≤ 100000 → Q (.bytes bs) mh') : C n 315 [.ref x, .int k] mh Q X := by
  refine fn1 S (ps := p_Lexer_near_text) (b := b_Lexer_near_text) (by exact List.mem_of_getElem? (i := 24) rfl) (by lia) rfl fun m e => ?_
  dsimp only [p_Lexer_near_text, b_Lexer_near_text]; walk_at "d"; simp_arith only [wpBody]
  have l3 : 3 ≤ LIM := by rw [limN]; lia
  have buf : ∀ {Q : V → MH → Prop} {X : MH → Prop}, (∀ bs, bs.length ≤ 100000 → Q (.bytes bs) mh) → C m 166 [.bytes σ.buf] mh Q X := fun hQ =>
    c_c_text S (by lia) (by rw [limN]; lia) (hQ _ (Nat.le_trans (List.takeWhile_sublist _).length_le hb))
  rcases hk with rfl | rfl | rfl | rfl
  · have t : ((284 : Int) == 285 || (((284 : Int) == 286) || (((284 : Int) == 284) || false))) = true := rfl
    simp_all_arith only [l3, t]
    simp_all_arith only [h.a66, h.bufO]
    exact buf fun bs hb => hQ bs mh Ext.refl hb
  · have t : ((286 : Int) == 285 || (((286 : Int) == 286) || (((286 : Int) == 284) || false))) = true := rfl
    simp_all_arith only [l3, t]
    simp_all_arith only [h.a66, h.bufO]
    exact buf fun bs hb => hQ bs mh Ext.refl hb
  · have t : ((287 : Int) == 285 || (((287 : Int) == 286) || (((287 : Int) == 284) || false))) = false := rfl
    simp_all_arith only [l3, t]
    walk_at "n"
    simp_all_arith only [wpBody]
    exact c_ttext_eos S (by lia) (hQ _ mh Ext.refl (by simp))
  · have t : ((91 : Int) == 285 || (((91 : Int) == 286) || (((91 : Int) == 284) || false))) = false := rfl
    simp_all_arith only [l3, t]
    walk_at "n"
    simp_all_arith only [wpBody]
    exact c_ttext_91 S (by lia) fun mh' x => hQ _ mh' x (by simp)
theorem c_error {n : Nat} (hn : 4 ≤ n) {mh : MH} {x : Ad} {σ : LS} (h : LX mh x σ) (hb : σ.buf.length ≤ 100000) (hl : σ.line ≤ 10000) {t : List UInt8} (ht : t.length ≤ 1000) {k : Int} (hk : k = 284 ∨ k = 286 ∨ k = 287 ∨ k = 91) {Q X} (hX : ∀ mh', Ext mh mh' → X mh') : C n 301 [.ref x, .bytes t, .int k] mh Q X := by
  refine fn1 S (ps := p_Lexer_error) (b := b_Lexer_error) (by exact List.mem_of_getElem? (i := 23) rfl) (by lia) rfl fun m e => ?_
  dsimp only [p_Lexer_error, b_Lexer_error]; walk_at "d"; simp_arith only [wpBody]
  have l4 : (3 : Nat) + 1 ≤ LIM := by rw [limN]; lia
  simp_all_arith only [h.a60, h.a43]
  rw [if_pos (by rw [limN]; lia)]
  walk_at "d"; simp_arith only [h.a43]
  refine c_to_text S (by lia) hl fun bs mh1 x1 hbs => ?_
  have s1 : ([108, 97, 119, 58] : List UInt8).length + bs.length ≤ LIM := by rw [limN]; simp; lia
  have s2 : ([108, 97, 119, 58] ++ bs : List UInt8).length + ([58, 32] : List UInt8).length ≤ LIM := by rw [limN]; simp; lia
  have s3 : ([108, 97, 119, 58] ++ bs ++ [58, 32] : List UInt8).length + t.length ≤ LIM := by rw [limN]; simp; lia
  have a1 : ([108, 97, 119] ++ [58] : List UInt8) = [108, 97, 119, 58] := rfl
  simp only [a1, b_ab]
  rw [if_pos s1]; simp only [b_ab]
  rw [if_pos s2]; simp only [b_ab]
  rw [if_pos s3]; dsimp only
  have k0 : ((k == 0)) = false := by rcases hk with rfl | rfl | rfl | rfl <;> rfl
  generalize hM : ([108, 97, 119, 58] ++ bs ++ [58, 32] ++ t : List UInt8) = M
  have hMl : M.length ≤ 20000 := by rw [← hM]; simp; lia
  simp_all_arith only [k0]
  have g1 : M.length + 7 ≤ LIM := by rw [limN]; lia
  simp_all_arith only [g1, (h.ext x1).own 73 315 rfl]
  refine c_near S (by lia) (h.ext x1) hb hk fun nb mh2 x2 hnb => ?_
  simp only [b_ab]
  rw [if_pos (by rw [limN]; simp; lia)]; simp only [b_ab]
  rw [if_pos (by rw [limN]; simp; lia)]; dsimp only
  walk_at "n"
  simp_all_arith only [wpBody]
  refine c_exc S (by lia) fun y d mh3 hy x3 h3 => ?_
  walk_at "d"; simp_arith only [h3]
  exact ⟨hy, hX _ (((x1.trans x2).trans x3).del (by
    cases q : mh y with
    | none => rfl
    | some o => rw [x2 _ _ (x1 _ _ q)] at hy; cases hy))⟩
theorem c_token {n : Nat} (hn : 2 ≤ n) {k v : V} {mh : MH} {Q X} (hQ : ∀ a d mh', mh a = none → Ext mh mh' → mh' a = some (.inst 262 d) → mh' d = some (.flds (Fs.set (Fs.set (fun u_ => none) 56 k) 11 v)) → Q (.ref a) mh') : C n 262 [k, v] mh Q X := by
  obtain ⟨n, rfl⟩ : ∃ m, n = m + 2 := ⟨n - 2, (Nat.sub_add_cancel hn).symm⟩
  refine S.token n k v mh Q X fun x d hx hd nx => ?_
  have e0 : (mh.set d (.flds fun u_ => none)).set x (.inst 262 d) x = some (.inst 262 d) := set_self
  have e1 : (mh.set d (.flds fun u_ => none)).set x (.inst 262 d) d = some (.flds fun u_ => none) := by rw [set_ne (Ne.symm nx), set_self]
  dsimp only [p_Token___init__, b_Token___init__]; walk_at "d"; simp_arith only [wpBody]
  simp_all_arith only [wpBody]
  unfold setAttrP
  simp only [e0, e1]
  simp_all_arith only [wpBody]
  unfold setAttrP
  simp only [set_ne nx, set_self]
  walk_at "n"
  refine hQ x d _ hx ((((Ext.new hd).set hx).set hd).set hd) ?_ set_self
  show ((((_ : MH).set _ _).set _ _).set _ _) x = _
  rw [set_ne nx, set_ne nx, set_self]
theorem c_limits {n : Nat} (hn : 2 ≤ n) {mh : MH} {Q X} (hQ : ∀ a mh', mh a = none → Ext mh mh' → LimOK mh' a → Q (.ref a) mh') : C n 53 [] mh Q X := by
  obtain ⟨n, rfl⟩ : ∃ m, n = m + 2 := ⟨n - 2, (Nat.sub_add_cancel hn).symm⟩
  refine S.limits n mh Q X fun x d hx hd nx => ?_
  have e0 : (mh.set d (.flds fun u_ => none)).set x (.inst 53 d) x = some (.inst 53 d) := set_self
  have e1 : (mh.set d (.flds fun u_ => none)).set x (.inst 53 d) d = some (.flds fun u_ => none) := by rw [set_ne (Ne.symm nx), set_self]
  have base : Ext mh ((mh.set d (.flds fun u_ => none)).set x (.inst 53 d)) := (Ext.new hd).set hx
  generalize (mh.set d (.flds fun u_ => none)).set x (.inst 53 d) = m0 at e0 e1 base
  have stp : ∀ {m1 : MH} {f : Fs} {i : Nm} {v : V} {Q : MH → Prop}, m1 x = some (.inst 53 d) → m1 d = some (.flds f) → Q (m1.set d (.flds (f.set i v))) → setAttrP m1 (.ref x) i v Q := fun h1 h2 q => by
    unfold setAttrP; simp only [h1, h2]; exact q
  dsimp only [p_Limits___init__, b_Limits___init__]; walk_at "d"; simp_arith only [limDef]
  simp_all_arith only [wpBody]; refine stp e0 e1 ?_
  simp_all_arith only [wpBody]; refine stp (by rw [set_ne nx]; exact e0) set_self ?_; rw [set_set]
  simp_all_arith only [wpBody]; refine stp (by rw [set_ne nx]; exact e0) set_self ?_; rw [set_set]
  simp_all_arith only [wpBody]; refine stp (by rw [set_ne nx]; exact e0) set_self ?_; rw [set_set]
  simp_all_arith only [wpBody]; refine stp (by rw [set_ne nx]; exact e0) set_self ?_; rw [set_set]
  simp_all_arith only [wpBody]; refine stp (by rw [set_ne nx]; exact e0) set_self ?_; rw [set_set]
  simp_all_arith only [wpBody]; refine stp (by rw [set_ne nx]; exact e0) set_self ?_; rw [set_set]
  simp_all_arith only [wpBody]; refine stp (by rw [set_ne nx]; exact e0) set_self ?_; rw [set_set]
  simp_all_arith only [wpBody]; refine stp (by rw [set_ne nx]; exact e0) set_self ?_; rw [set_set]
  simp_all_arith only [wpBody]; refine stp (by rw [set_ne nx]; exact e0) set_self ?_; rw [set_set]
  walk_at "n"
  exact hQ x _ hx (base.set hd) ⟨d, _, by show (m0.set d _) x = _; rw [set_ne nx]; exact e0, set_self, by first | rfl | simp [Fs.set], by first | rfl | simp [Fs.set]⟩
end
end Lx
namespace Lx
noncomputable def isN (c : UInt8) : Bool := isNL (c.toNat : Int)
noncomputable def stepL (T : List UInt8) (p : Nat × Nat) : Nat × Nat := match T[p.1]? with
  | none => (p.1 + 1, p.2)
  | some c => if isN c then (match T[p.1 + 1]? with
      | some e => if isN e && !(e == c) then (p.1 + 2, p.2 + 1) else (p.1 + 1, p.2 + 1)
      | none => (p.1 + 1, p.2 + 1)) else (p.1 + 1, p.2)
noncomputable def iterL (T : List UInt8) : Nat → Nat × Nat
  | 0 => (0, 1)
  | k + 1 => stepL T (iterL T k)
noncomputable def Lines (T : List UInt8) (a l : Nat) : Prop := ∃ k, iterL T k = (a, l)
theorem stepL_lt (T : List UInt8) (p : Nat × Nat) : p.1 < (stepL T p).1 := by
  unfold stepL; split
  · exact Nat.lt_succ_self _
  · split
    · split
      · split
        · show p.1 < p.1 + 2; lia
        · exact Nat.lt_succ_self _
      · exact Nat.lt_succ_self _
    · exact Nat.lt_succ_self _
theorem iterL_lt (T : List UInt8) {k j : Nat} (h : k < j) : (iterL T k).1 < (iterL T j).1 := by
  induction j with
  | zero => lia
  | succ j ih =>
    have s := stepL_lt T (iterL T j)
    show _ < (stepL T (iterL T j)).1
    by_cases q : k = j
    · subst q; exact s
    · have := ih (by lia); lia
theorem Lines.unique {T : List UInt8} {a l m : Nat} (x : Lines T a l) (y : Lines T a m) : l = m := by
  obtain ⟨k, hk⟩ := x
  obtain ⟨j, hj⟩ := y
  rcases Nat.lt_trichotomy k j with q | q | q
  · have := iterL_lt T q; rw [hk, hj] at this; exact absurd this (Nat.lt_irrefl _)
  · subst q; rw [hk] at hj; cases hj; rfl
  · have := iterL_lt T q; rw [hk, hj] at this; exact absurd this (Nat.lt_irrefl _)
theorem Lines.le {T : List UInt8} {a l : Nat} (x : Lines T a l) : l ≤ a + 1 := by
  obtain ⟨k, hk⟩ := x
  have : ∀ k, (iterL T k).2 ≤ (iterL T k).1 + 1 := fun k => by
    induction k with
    | zero => exact Nat.le_refl _
    | succ k ih =>
      show (stepL T (iterL T k)).2 ≤ (stepL T (iterL T k)).1 + 1
      unfold stepL
      split
      · show (iterL T k).2 ≤ (iterL T k).1 + 1 + 1; lia
      · split
        · split
          · split
            · show (iterL T k).2 + 1 ≤ (iterL T k).1 + 2 + 1; lia
            · show (iterL T k).2 + 1 ≤ (iterL T k).1 + 1 + 1; lia
          · show (iterL T k).2 + 1 ≤ (iterL T k).1 + 1 + 1; lia
        · show (iterL T k).2 ≤ (iterL T k).1 + 1 + 1; lia
  have := this k
  rw [hk] at this
  exact this
theorem Lines.step {T : List UInt8} {a l : Nat} (x : Lines T a l) : Lines T (stepL T (a, l)).1 (stepL T (a, l)).2 := by
  obtain ⟨k, hk⟩ := x
  exact ⟨k + 1, by show stepL T (iterL T k) = _; rw [hk]⟩
theorem Lines.zero {T : List UInt8} : Lines T 0 1 := ⟨0, rfl⟩
theorem Lines.take {T : List UInt8} {a l : Nat} (x : Lines T a l) : Lines (T.take a) a l := by
  obtain ⟨k, hk⟩ := x
  refine ⟨k, ?_⟩
  have : ∀ j, j ≤ k → iterL (T.take a) j = iterL T j := fun j => by
    induction j with
    | zero => intro _; rfl
    | succ j ih =>
      intro hj
      show stepL (T.take a) (iterL (T.take a) j) = stepL T (iterL T j)
      rw [ih (by lia)]
      have lt : (iterL T j).1 < a := by have := iterL_lt T (show j < k by lia); rw [hk] at this; exact this
      have le : (stepL T (iterL T j)).1 ≤ a := by
        have h1 : (iterL T (j + 1)).1 ≤ (iterL T k).1 := by
          by_cases q : j + 1 = k
          · rw [q]; exact Nat.le_refl _
          · exact Nat.le_of_lt (iterL_lt T (by lia))
        rw [hk] at h1; exact h1
      generalize iterL T j = p at lt le
      unfold stepL at le ⊢
      rw [List.getElem?_take_of_lt lt]
      cases hc : T[p.1]? with
      | none => rfl
      | some c =>
        rw [hc] at le
        simp only at le ⊢
        by_cases hn : isN c = true
        · simp only [hn, if_true] at le ⊢
          by_cases q : p.1 + 1 < a
          · rw [List.getElem?_take_of_lt q]
          · rw [show (T.take a)[p.1 + 1]? = none from by rw [List.getElem?_eq_none_iff, List.length_take]; exact Nat.le_trans (Nat.min_le_left _ _) (Nat.not_lt.mp q)]
            cases he : T[p.1 + 1]? with
            | none => rfl
            | some e =>
              rw [he] at le
              simp only at le ⊢
              by_cases hz : (isN e && !(e == c)) = true
              · rw [if_pos hz] at le; simp only at le; lia
              · rw [if_neg hz]
        · simp only [hn]; rfl
  rw [this k (Nat.le_refl _)]; exact hk
structure G (mh : MH) (x : Ad) (σ : LS) : Prop where
  h : LX mh x σ
  ln : Lines σ.T σ.pos σ.line
  sz : σ.buf.length + σ.rest.length ≤ 1500
theorem G.line (g : G mh x σ) : σ.line ≤ 1001 := by
  have := g.ln.le
  have : σ.pos ≤ σ.T.length := Nat.sub_le _ _
  have := g.h.small
  lia
theorem G.ext {mh mh' : MH} {x : Ad} {σ : LS} (g : G mh x σ) (e : Ext mh mh') : G mh' x σ := ⟨g.h.ext e, g.ln, g.sz⟩
theorem head_at {mh : MH} {x : Ad} {σ : LS} (h : LX mh x σ) {c : UInt8} {r : List UInt8} (hr : σ.rest = c :: r) : σ.T[σ.pos]? = some c ∧ σ.T.drop (σ.pos + 1) = r ∧ ({ σ with rest := r } : LS).pos = σ.pos + 1 := by
  have hs := h.suf
  have hl := h.len
  rw [hr] at hs hl
  refine ⟨?_, ?_, ?_⟩
  · have : (σ.T.drop σ.pos)[0]? = some c := by rw [hs]; rfl
    simpa using this
  · rw [← List.drop_drop, hs]; rfl
  · show σ.T.length - r.length = σ.T.length - σ.rest.length + 1
    rw [hr]; exact sb1 hl
theorem lines_move {mh : MH} {x : Ad} {σ : LS} (h : LX mh x σ) (ln : Lines σ.T σ.pos σ.line) {c : UInt8} {r : List UInt8} (hr : σ.rest = c :: r) (hc : isN c = false) : Lines σ.T (σ.pos + 1) σ.line := by
  obtain ⟨h1, h2, h3⟩ := head_at h hr
  have := ln.step
  unfold stepL at this
  simp only [h1, hc] at this
  exact this
theorem lines_nl {mh : MH} {x : Ad} {σ : LS} (h : LX mh x σ) (ln : Lines σ.T σ.pos σ.line) (hc : isNL (sg σ.rest) = true) : Lines σ.T ({ σ with rest := afterNL σ.rest } : LS).pos (σ.line + 1) := by
  cases hr : σ.rest with
  | nil => rw [hr] at hc; cases hc
  | cons c r =>
    obtain ⟨h1, h2, h3⟩ := head_at h hr
    have hl := h.len
    rw [hr] at hc hl
    have hc : isN c = true := hc
    have st := ln.step
    unfold stepL at st
    simp only [h1, hc, if_true] at st
    have h4 : σ.T[σ.pos + 1]? = r.head? := by
      have : (σ.T.drop (σ.pos + 1))[0]? = r.head? := by rw [h2]; cases r <;> rfl
      simpa using this
    rw [h4] at st
    have hp : σ.pos = σ.T.length - (r.length + 1) := by unfold LS.pos; rw [hr]; rfl
    cases r with
    | nil =>
      have e : ({ σ with rest := afterNL [c] } : LS).pos = σ.pos + 1 := by show σ.T.length - 0 = _; rw [hp]; exact sb1 hl
      rw [e]; exact st
    | cons e r2 =>
      simp only [List.head?_cons] at st
      simp only [List.length_cons] at hl hp
      by_cases z : (isN e && !(e == c)) = true
      · rw [if_pos z] at st
        have a : afterNL (c :: e :: r2) = r2 := by rw [afterNL2]; exact if_pos z
        have q : ({ σ with rest := afterNL (c :: e :: r2) } : LS).pos = σ.pos + 2 := by rw [a]; show σ.T.length - r2.length = _; rw [hp]; exact sb2 hl
        rw [q]; exact st
      · rw [if_neg z] at st
        have a : afterNL (c :: e :: r2) = e :: r2 := by rw [afterNL2]; exact if_neg z
        have q : ({ σ with rest := afterNL (c :: e :: r2) } : LS).pos = σ.pos + 1 := by rw [a]; show σ.T.length - (r2.length + 1) = _; rw [hp]; exact sb1 hl
        rw [q]; exact st
theorem afterNL_lt {l : List UInt8} (h : l ≠ []) : (afterNL l).length < l.length := by
  match l, h with
  | [c], _ => exact Nat.lt_succ_self _
  | c :: e :: r, _ =>
    rw [afterNL2]
    split
    · simp; lia
    · simp
section
variable {C : Nat → Ad → List V → MH → (V → MH → Prop) → (MH → Prop) → Prop} {band : Int → Int → Int} (S : Sys C band)
include S
theorem g_move {n : Nat} (hn : 1 ≤ n) {mh : MH} {x : Ad} {σ : LS} (g : G mh x σ) {c : UInt8} {r : List UInt8} (hr : σ.rest = c :: r) (hc : isN c = false) {Q X} (hQ : ∀ mh', G mh' x { σ with rest := r } → Kp mh σ.d σ.bf mh' σ.bf → Q .none mh') : C n 322 [.ref x] mh Q X :=
  c_move S hn g.h hr fun mh' h' k => hQ mh' ⟨h', by rw [(head_at g.h hr).2.2]; exact lines_move g.h g.ln hr hc, by have := g.sz; rw [hr] at this; simp at this ⊢; lia⟩ k
theorem g_kam {n : Nat} (hn : 2 ≤ n) {mh : MH} {x : Ad} {σ : LS} (g : G mh x σ) {c : UInt8} {r : List UInt8} (hr : σ.rest = c :: r) (hc : isN c = false) {Q X} (hQ : ∀ mh', G mh' x { σ with rest := r, buf := σ.buf ++ [c] } → Kp mh σ.d σ.bf mh' σ.bf → Q .none mh') : C n 336 [.ref x] mh Q X := by
  have sz := g.sz
  exact c_kam S hn g.h (by lia) hr fun mh' h' k => hQ mh' ⟨h', by have := (head_at g.h hr).2.2; show Lines σ.T ({ σ with rest := r } : LS).pos σ.line; rw [this]; exact lines_move g.h g.ln hr hc, by rw [hr] at sz; simp at sz ⊢; lia⟩ k
theorem g_end_line {n : Nat} (hn : 2 ≤ n) {mh : MH} {x : Ad} {σ : LS} (g : G mh x σ) (hc : isNL (sg σ.rest) = true) {Q X} (hQ : ∀ mh', G mh' x { σ with rest := afterNL σ.rest, line := σ.line + 1 } → Kp mh σ.d σ.bf mh' σ.bf → Q .none mh') : C n 357 [.ref x] mh Q X := by
  have hne : σ.rest ≠ [] := by intro q; rw [q] at hc; cases hc
  have := g.line
  exact c_end_line S hn g.h (by lia) hne fun mh' h' k => hQ mh' ⟨h', lines_nl g.h g.ln hc, by have := g.sz; have := afterNL_lt hne; show σ.buf.length + (afterNL σ.rest).length ≤ _; lia⟩ k
theorem g_clear {n : Nat} (hn : 1 ≤ n) {mh : MH} {x : Ad} {σ : LS} (g : G mh x σ) {Q X} (hQ : ∀ mh' b, G mh' x { σ with bf := b, buf := [] } → Kp mh σ.d σ.bf mh' b → Q .none mh') : C n 350 [.ref x] mh Q X :=
  c_clear S hn g.h fun mh' b h' k => hQ mh' b ⟨h', g.ln, by have := g.h.len; have := g.h.small; show 0 + σ.rest.length ≤ _; lia⟩ k
noncomputable def eqsF : List UInt8 → Nat × List UInt8
  | [] => (0, [])
  | c :: r => if c = 61 then ((eqsF r).1 + 1, (eqsF r).2) else (0, c :: r)
omit S in
theorem eqsF_len : ∀ l : List UInt8, (eqsF l).1 + (eqsF l).2.length = l.length
  | [] => rfl
  | c :: r => by
    have := eqsF_len r
    unfold eqsF
    split
    · simp; lia
    · simp
inductive W_g_level (x : Ad) (σ : LS) (mh : MH) (c : UInt8) (r : List UInt8) (n : Nat) (st : St) : Prop
  | mk (i1 : st.loc 0 = some (.ref x)) (i2 : st.loc 123 = some (.int (c.toNat : Int))) (j : Nat) (rs : List UInt8) (i3 : st.loc 124 = some (.int (j : Int))) (i4 : G st.mh x { σ with rest := rs, buf := σ.buf ++ c :: List.replicate j 61 }) (i5 : Kp mh σ.d σ.bf st.mh σ.bf) (i6 : (eqsF r).1 = j + (eqsF rs).1) (i7 : (eqsF r).2 = (eqsF rs).2) (i8 : n = rs.length)
theorem g_level {n : Nat} (hn : 3 ≤ n) {mh : MH} {x : Ad} {σ : LS} (g : G mh x σ) {c : UInt8} {r : List UInt8} (hr : σ.rest = c :: r) (hc : isN c = false) {Q X}
    (hQ : ∀ mh', G mh' x { σ with rest := (eqsF r).2, buf := σ.buf ++ c :: List.replicate (eqsF r).1 61 } → Kp mh σ.d σ.bf mh' σ.bf → Q (.int (if sg (eqsF r).2 = (c.toNat : Int) then ((eqsF r).1 : Int) else -((eqsF r).1 : Int) - 1)) mh') : C n 427 [.ref x] mh Q X := by
  refine fn1 S (ps := p_Lexer_read_level) (b := b_Lexer_read_level) (by exact List.mem_of_getElem? (i := 40) rfl) (by lia) rfl fun m e => ?_
  have hs : sg σ.rest = (c.toNat : Int) := by rw [hr]; rfl
  dsimp only [p_Lexer_read_level, b_Lexer_read_level]; walk_at "d"; simp_arith only [wpBody]
  simp_all_arith only [g.h.a45, hs]
  simp_all_arith only [wpBody]
  simp_all_arith only [g.h.own 83 336 rfl]
  refine g_kam S (by lia) g hr hc fun mh1 g1 k1 => ?_
  simp_all_arith only [wpBody]
  refine ⟨W_g_level x σ mh c r,
    ⟨_, by first | rfl | simp [Fs.set], by first | rfl | simp [Fs.set], 0, r, by first | rfl | simp [Fs.set], g1, k1, by simp, rfl, rfl⟩, ?_⟩
  rintro n ⟨loc, mh2⟩ ⟨h0, h123, j, rs, h124, g2, k2, e1, e2, rfl⟩
  dsimp only at h0 h123 h124 g2 k2 ⊢
  walk_at "d"; simp_arith only [h0, g2.h.a45]
  cases rs with
  | nil =>
    have q : (sg [] == 61) = false := by decide
    walk_at "d"; simp_arith only [q]
    rw [show eqsF [] = (0, []) from rfl] at e1 e2
    simp only [Nat.add_zero] at e1 e2
    simp_all_arith only [h0, g2.h.a45, h123, h124]
    rw [e1, e2] at hQ
    have hq := hQ _ g2 k2
    by_cases z : sg [] = (c.toNat : Int)
    · have z' : (sg [] == (c.toNat : Int)) = true := beq_iff_eq.mpr z
      rw [if_pos z] at hq
      walk_at "d"; simp_arith only [z', h124]
      exact hq
    · have z' : (sg [] == (c.toNat : Int)) = false := beq_eq_false_iff_ne.mpr z
      rw [if_neg z] at hq
      walk_at "d"; simp_arith only [z', h124]
      exact hq
  | cons f rs =>
    have hsg : sg (f :: rs) = (f.toNat : Int) := rfl
    by_cases z : f = 61
    · subst z
      have q : (sg (61 :: rs) == 61) = true := rfl
      walk_at "d"; simp_arith only [q]
      rw [show eqsF (61 :: rs) = ((eqsF rs).1 + 1, (eqsF rs).2) from rfl] at e1 e2
      simp_all_arith only [h0, g2.h.own 83 336 rfl]
      refine g_kam S (by lia) g2 rfl rfl fun mh3 g3 k3 => ?_
      have ej : (j : Int) + 1 = ((j + 1 : Nat) : Int) := by lia
      simp_all_arith only [h124, ej]
      walk_at "n"
      refine ⟨rs.length, Nat.lt_succ_self _, by first | exact h0 | simp [Fs.set, h0], by first | exact h123 | simp [Fs.set, h123], j + 1, rs, by first | rfl | simp [Fs.set], ?_, k2.trans k3, by simp only at e1 ⊢; lia, e2, rfl⟩
      have : (σ.buf ++ c :: List.replicate j 61) ++ [61] = σ.buf ++ c :: List.replicate (j + 1) 61 := by
        rw [List.replicate_succ', List.append_assoc]; rfl
      simp only [this] at g3
      exact g3
    · have q : (sg (f :: rs) == 61) = false := by
        rw [beq_eq_false_iff_ne, hsg]; intro w; apply z; apply UInt8.toNat_inj.mp; have : f.toNat = 61 := by lia
        simpa using this
      walk_at "d"; simp_arith only [q]
      rw [show eqsF (f :: rs) = (0, f :: rs) from by unfold eqsF; rw [if_neg z]] at e1 e2
      simp only [Nat.add_zero] at e1 e2
      simp_all_arith only [h0, g2.h.a45, h123, h124]
      rw [e1, e2] at hQ
      have hq := hQ _ g2 k2
      by_cases z : sg (f :: rs) = (c.toNat : Int)
      · have z' : (sg (f :: rs) == (c.toNat : Int)) = true := beq_iff_eq.mpr z
        rw [if_pos z] at hq
        walk_at "d"; simp_arith only [z', h124]
        exact hq
      · have z' : (sg (f :: rs) == (c.toNat : Int)) = false := beq_eq_false_iff_ne.mpr z
        rw [if_neg z] at hq
        walk_at "d"; simp_arith only [z', h124]
        exact hq
end
end Lx
namespace Lx
noncomputable def LS.w (σ : LS) (r : List UInt8) (bf : Ad) (buf : List UInt8) (line : Nat) : LS := { σ with rest := r, bf := bf, buf := buf, line := line }
noncomputable def brF (c : UInt8) (level : Nat) (r : List UInt8) : Bool := decide (sg (eqsF r).2 = (c.toNat : Int)) && decide ((eqsF r).1 = level)
theorem lev_eq {c : UInt8} {level : Nat} {r : List UInt8} : ((if sg (eqsF r).2 = (c.toNat : Int) then ((eqsF r).1 : Int) else -((eqsF r).1 : Int) - 1) == (level : Int)) = brF c level r := by
  unfold brF
  by_cases h : sg (eqsF r).2 = (c.toNat : Int)
  · rw [if_pos h]; simp only [h, decide_true, Bool.true_and]
    by_cases q : (eqsF r).1 = level
    · simp [q]
    · simp only [q, decide_false, beq_eq_false_iff_ne]; lia
  · rw [if_neg h]; simp only [h, decide_false, Bool.false_and, beq_eq_false_iff_ne]; lia
theorem brF_tail {c : UInt8} {level : Nat} {r : List UInt8} (h : brF c level r = true) : ∃ r2, (eqsF r).2 = c :: r2 ∧ (eqsF r).1 = level := by
  unfold brF at h
  simp only [Bool.and_eq_true, decide_eq_true_eq] at h
  refine ⟨(eqsF r).2.tail, ?_, h.2⟩
  cases q : (eqsF r).2 with
  | nil => rw [q] at h; exact absurd h.1 (by show ¬ (-1 : Int) = _; lia)
  | cons e r2 =>
    rw [q] at h
    have : e.toNat = c.toNat := by have : (e.toNat : Int) = (c.toNat : Int) := h.1; lia
    rw [UInt8.toNat_inj.mp this]; rfl
noncomputable def lenFix {α β : Type} (m : α → Nat) (F : (a : α) → ((b : α) → m b < m a → β) → β) (a : α) : β := WellFounded.fix (measure m).wf F a
theorem lenFix_eq {α β : Type} {m : α → Nat} {F : (a : α) → ((b : α) → m b < m a → β) → β} {a : α} : lenFix m F a = F a (fun b u_ => lenFix m F b) := WellFounded.fix_eq _ _ _
theorem eqsF_le (r : List UInt8) : (eqsF r).2.length ≤ r.length := eqsF_len r ▸ Nat.le_add_left _ _
theorem eqsF_tl (r : List UInt8) : (eqsF r).2.tail.length ≤ r.length := Nat.le_trans (by rw [List.length_tail]; exact Nat.sub_le _ _) (eqsF_le r)
theorem eqsF_lt {c : UInt8} {r : List UInt8} : (eqsF r).2.length < (c :: r).length := Nat.lt_succ_of_le (eqsF_le r)
theorem eqsF_lt' {c : UInt8} {r : List UInt8} : (eqsF r).2.tail.length < (c :: r).length := Nat.lt_succ_of_le (eqsF_tl r)
noncomputable def longL (level : Nat) (isT : Bool) (rest acc : List UInt8) : Option (List UInt8 × List UInt8) :=
  lenFix (fun p : List UInt8 × List UInt8 => p.1.length) (fun p => match p with
    | ([], _) => fun u_ => none
    | (c :: r, acc) => fun rec => if c = 91 then
        if brF 91 level r then (if level = 0 then none else rec ((eqsF r).2.tail, acc ++ 91 :: List.replicate (eqsF r).1 61 ++ [91]) eqsF_lt')
        else rec ((eqsF r).2, acc ++ 91 :: List.replicate (eqsF r).1 61) eqsF_lt
      else if c = 93 then
        if brF 93 level r then some ((eqsF r).2.tail, acc)
        else rec ((eqsF r).2, acc ++ 93 :: List.replicate (eqsF r).1 61) eqsF_lt
      else if isN c then rec (afterNL (c :: r), if isT then acc ++ [10] else []) (afterNL_lt (List.cons_ne_nil _ _))
      else rec (r, if isT then acc ++ [c] else acc) (Nat.lt_succ_self _)) (rest, acc)
theorem longL_nil {level isT acc} : longL level isT [] acc = none := lenFix_eq
theorem longL_cons {level isT c r acc} : longL level isT (c :: r) acc = (if c = 91 then
      if brF 91 level r then (if level = 0 then none else longL level isT (eqsF r).2.tail (acc ++ 91 :: List.replicate (eqsF r).1 61 ++ [91]))
      else longL level isT (eqsF r).2 (acc ++ 91 :: List.replicate (eqsF r).1 61)
    else if c = 93 then
      if brF 93 level r then some ((eqsF r).2.tail, acc)
      else longL level isT (eqsF r).2 (acc ++ 93 :: List.replicate (eqsF r).1 61)
    else if isN c then longL level isT (afterNL (c :: r)) (if isT then acc ++ [10] else [])
    else longL level isT r (if isT then acc ++ [c] else acc)) := lenFix_eq
inductive W_g_long (x : Ad) (σ : LS) (mh : MH) (level : Nat) (isT : Bool) (r : List UInt8) (rs : List UInt8) (n : Nat) (st : St) : Prop
  | mk (i1 : st.loc 0 = some (.ref x)) (i2 : st.loc 109 = some (.int (level : Int))) (i3 : st.loc 125 = some (.bool isT)) (pre acc ts : List UInt8) (bf : Ad) (line : Nat) (i4 : st.loc 126 = some (.int (pre.length : Int))) (i5 : G st.mh x (σ.w ts bf (pre ++ acc) line)) (i6 : Kp mh σ.d σ.bf st.mh bf) (i7 : ts.length ≤ r.length) (i8 : longL level isT rs [] = longL level isT ts acc) (i9 : n = ts.length)
section
variable {C : Nat → Ad → List V → MH → (V → MH → Prop) → (MH → Prop) → Prop} {band : Int → Int → Int} (S : Sys C band)
include S
theorem g_error {n : Nat} (hn : 4 ≤ n) {mh : MH} {x : Ad} {σ : LS} (g : G mh x σ) {t : List UInt8} (ht : t.length ≤ 1000) {k : Int} (hk : k = 284 ∨ k = 286 ∨ k = 287 ∨ k = 91) {Q X} (hX : ∀ mh', Kx mh σ.d σ.bf mh' → X mh') : C n 301 [.ref x, .bytes t, .int k] mh Q X := by
  have sz := g.sz
  have ln := g.line
  exact c_error S hn g.h (by lia) (by lia) ht hk fun mh' e => hX mh' fun a o h u_ u_ => e a o h
theorem g_inner {n : Nat} (hn : 5 ≤ n) {mh : MH} {x : Ad} {σ : LS} (g : G mh x σ) {r : List UInt8} (hr : σ.rest = 91 :: r) {level : Nat} {Q X}
    (hA : brF 91 level r = true → level = 0 → ∀ mh', Kx mh σ.d σ.bf mh' → X mh')
    (hB : brF 91 level r = true → level ≠ 0 → ∀ mh', G mh' x { σ with rest := (eqsF r).2.tail, buf := σ.buf ++ 91 :: List.replicate (eqsF r).1 61 ++ [91] } → Kp mh σ.d σ.bf mh' σ.bf → Q .none mh')
    (hC : brF 91 level r = false → ∀ mh', G mh' x { σ with rest := (eqsF r).2, buf := σ.buf ++ 91 :: List.replicate (eqsF r).1 61 } → Kp mh σ.d σ.bf mh' σ.bf → Q .none mh') : C n 441 [.ref x, .int (level : Int)] mh Q X := by
  refine fn1 S (ps := p_Lexer_read_inner) (b := b_Lexer_read_inner) (by exact List.mem_of_getElem? (i := 42) rfl) (by lia) rfl fun m e => ?_
  dsimp only [p_Lexer_read_inner, b_Lexer_read_inner]; walk_at "d"; simp_arith only [wpBody]
  simp_all_arith only [g.h.own 110 427 rfl]
  refine g_level S (by lia) g hr rfl fun mh1 g1 k1 => ?_
  walk_at "d"; simp_arith only [lev_eq]
  cases hb : brF 91 level r
  · walk_at "d"; simp_arith only [wpBody]
    walk_at "n"; walk_at "n"
    exact hC hb mh1 g1 k1
  · walk_at "d"; simp_arith only [wpBody]
    obtain ⟨r2, h2, hl⟩ := brF_tail hb
    simp_all_arith only [g1.h.own 83 336 rfl]
    refine g_kam S (by lia) g1 (c := 91) (r := r2) h2 rfl fun mh2 g2 k2 => ?_
    have hz : ((level : Int) == 0) = decide (level = 0) := by
      by_cases w : level = 0
      · simp [w]
      · simp only [w, decide_false, beq_eq_false_iff_ne]; lia
    simp_all_arith only [hz]
    by_cases w : level = 0
    · walk_at "d"; simp_arith only [w]
      simp_all_arith only [g2.h.own 75 301 rfl]
      exact g_error S (by lia) g2 (by simp) (.inr (.inr (.inr rfl))) fun mh' kx => hA hb w mh' ((k1.trans k2).kx kx)
    · walk_at "d"; simp_arith only [w]
      walk_at "n"; walk_at "n"; walk_at "n"
      rw [h2] at hB
      exact hB hb w mh2 g2 (k1.trans k2)
theorem g_long {n : Nat} (hn : 6 ≤ n) {mh : MH} {x : Ad} {σ : LS} (g : G mh x σ) {c : UInt8} {r : List UInt8} (hr : σ.rest = c :: r) (hc : isN c = false) {level : Nat} {isT : Bool} {Q X}
    (hA : longL level isT (if isNL (sg r) then afterNL r else r) [] = none → ∀ mh', Kx mh σ.d σ.bf mh' → X mh')
    (hB : ∀ r' acc, longL level isT (if isNL (sg r) then afterNL r else r) [] = some (r', acc) → ∀ mh' bf buf line, G mh' x (σ.w r' bf buf line) → Kp mh σ.d σ.bf mh' bf → r'.length < r.length → Q (.bytes acc) mh') : C n 434 [.ref x, .int (level : Int), .bool isT] mh Q X := by
  refine fn1 S (ps := p_Lexer_read_long) (b := b_Lexer_read_long) (by exact List.mem_of_getElem? (i := 41) rfl) (by lia) rfl fun m e => ?_
  dsimp only [p_Lexer_read_long, b_Lexer_read_long]; walk_at "d"; simp_arith only [wpBody]
  simp_all_arith only [g.h.own 83 336 rfl]
  refine g_kam S (by lia) g hr hc fun mh1 g1 k1 => ?_
  simp_all_arith only [g1.h.a45]
  refine c_is_newline S (by lia) ?_
  walk_at "d"; simp_arith only [wpBody]
  have loop : ∀ {mh2 : MH} {rs : List UInt8} {bf : Ad} {buf : List UInt8} {line : Nat} {loc : Fs}, G mh2 x (σ.w rs bf buf line) → Kp mh σ.d σ.bf mh2 bf → rs.length ≤ r.length → (if isNL (sg r) then afterNL r else r) = rs → loc 0 = some (.ref x) → loc 109 = some (.int (level : Int)) → loc 125 = some (.bool isT) →
      wpSs (Out.mk0 (C m) band) (tlS (tlS b_Lexer_read_long)) ⟨loc, mh2⟩ (retQ Q) (fun st => X st.mh) := by
    intro mh2 rs bf buf line loc g2 k2 hle hrs h0 h109 h125
    rw [hrs] at hA hB
    simp only [tlS, b_Lexer_read_long]
    simp_all_arith only [h0, g2.h.a66, g2.h.bufO]
    simp_all_arith only [wpBody]
    refine ⟨W_g_long x σ mh level isT r rs, ⟨_, by first | exact h0 | simp [Fs.set, h0], by first | exact h109 | simp [Fs.set, h109], by first | exact h125 | simp [Fs.set, h125], buf, [], rs, bf, line, by simp [Fs.set]; rfl, by rw [List.append_nil]; exact g2, k2, hle, rfl, rfl⟩, ?_⟩
    intro n z1_ z2_; (refine absG fun G_ hG_ => ?_; (rcases z1_ with ⟨loc', mh3⟩) <;> (refine hG_ ?_; clear hG_ G_)); (refine absG fun G_ hG_ => ?_; (rcases z2_ with ⟨i0, i109, i125, pre, acc, ts, bf3, line3, i126, g3, k3, hle3, hF, rfl⟩) <;> (refine hG_ ?_; clear hG_ G_))
    dsimp only at i0 i109 i125 i126 g3 k3 ⊢
    clear h0 h109 h125 g2 k2 hle
    have sz3 := g3.sz
    refine absG fun G_ hG_ => ?_
    cases ts with
    | nil =>
      refine hG_ ?_; clear hG_ G_
      have q : (sg [] == -1) = true := by decide
      have hF : longL level isT rs [] = none := by rw [hF, longL_nil]
      simp_all_arith only [i0, g3.h.a45, show (σ.w [] bf3 (pre ++ acc) line3).rest = [] from rfl, q]
      simp_all_arith only [i0, g3.h.own 75 301 rfl, i125]
      cases isT
      · walk_at "d"; simp_arith only [wpBody]
        exact g_error S (by lia) g3 (by simp) (.inr (.inr (.inl rfl))) fun mh' kx => hA hF mh' (k3.kx kx)
      · walk_at "d"; simp_arith only [wpBody]
        exact g_error S (by lia) g3 (by simp) (.inr (.inr (.inl rfl))) fun mh' kx => hA hF mh' (k3.kx kx)
    | cons f ts =>
      refine hG_ ?_; clear hG_ G_
      have hsg : sg (σ.w (f :: ts) bf3 (pre ++ acc) line3).rest = (f.toNat : Int) := rfl
      have q : ((f.toNat : Int) == -1) = false := by rw [beq_eq_false_iff_ne]; lia
      rw [longL_cons] at hF
      have el := eqsF_len ts
      have etl : (eqsF ts).2.tail.length = (eqsF ts).2.length - 1 := List.length_tail
      simp only [List.length_cons] at hle3
      have d91 : ((f.toNat : Int) == 91) = decide (f = 91) := by
        by_cases w : f = 91
        · simp [w]
        · simp only [w, decide_false, beq_eq_false_iff_ne]; intro z; apply w; apply UInt8.toNat_inj.mp; have : f.toNat = 91 := by lia
          simpa using this
      have d93 : ((f.toNat : Int) == 93) = decide (f = 93) := by
        by_cases w : f = 93
        · simp [w]
        · simp only [w, decide_false, beq_eq_false_iff_ne]; intro z; apply w; apply UInt8.toNat_inj.mp; have : f.toNat = 93 := by lia
          simpa using this
      simp_all_arith only [i0, g3.h.a45, hsg, q]
      by_cases z91 : f = 91
      · subst z91
        simp only [if_true] at hF
        simp_all_arith only [i0, g3.h.a45, hsg, d91]
        simp_all_arith only [i0, i109, g3.h.own 127 441 rfl]
        refine g_inner S (by lia) g3 (r := ts) rfl ?_ ?_ ?_
        · intro hb hz mh' kx
          rw [if_pos hb, if_pos hz] at hF
          exact hA hF mh' (k3.kx kx)
        · intro hb hz mh4 g4 k4
          rw [if_pos hb, if_neg hz] at hF
          walk_at "n"; walk_at "n"; walk_at "n"
          refine ⟨(eqsF ts).2.tail.length, by first | lia | (simp only [List.length_cons]; lia), i0, i109, i125, pre, acc ++ 91 :: List.replicate (eqsF ts).1 61 ++ [91], _, bf3, line3, i126, ?_, k3.trans k4, by lia, hF, rfl⟩
          have : (σ.w (91 :: ts) bf3 (pre ++ acc) line3).buf ++ 91 :: List.replicate (eqsF ts).1 61 ++ [91] = pre ++ (acc ++ 91 :: List.replicate (eqsF ts).1 61 ++ [91]) := by show pre ++ acc ++ _ ++ _ = _; simp [List.append_assoc]
          rw [this] at g4
          exact g4
        · intro hb mh4 g4 k4
          rw [if_neg (by rw [hb]; simp)] at hF
          walk_at "n"; walk_at "n"; walk_at "n"
          refine ⟨(eqsF ts).2.length, by first | lia | (simp only [List.length_cons]; lia), i0, i109, i125, pre, acc ++ 91 :: List.replicate (eqsF ts).1 61, _, bf3, line3, i126, ?_, k3.trans k4, by lia, hF, rfl⟩
          have : (σ.w (91 :: ts) bf3 (pre ++ acc) line3).buf ++ 91 :: List.replicate (eqsF ts).1 61 = pre ++ (acc ++ 91 :: List.replicate (eqsF ts).1 61) := by show pre ++ acc ++ _ = _; simp [List.append_assoc]
          rw [this] at g4
          exact g4
      · rw [if_neg z91] at hF
        simp_all_arith only [i0, g3.h.a45, hsg, d91, z91]
        by_cases z93 : f = 93
        · subst z93
          simp only [if_true] at hF
          simp_all_arith only [i0, g3.h.a45, hsg, d93]
          simp_all_arith only [i0, i109, g3.h.own 110 427 rfl]
          refine g_level S (by lia) g3 (c := 93) (r := ts) rfl rfl fun mh4 g4 k4 => ?_
          walk_at "d"; simp_arith only [lev_eq, i109]
          cases hb : brF 93 level ts
          · rw [if_neg (by rw [hb]; simp)] at hF
            walk_at "d"; simp_arith only [wpBody]
            walk_at "n"; walk_at "n"; walk_at "n"; walk_at "n"; walk_at "n"
            refine ⟨(eqsF ts).2.length, by first | lia | (simp only [List.length_cons]; lia), i0, i109, i125, pre, acc ++ 93 :: List.replicate (eqsF ts).1 61, _, bf3, line3, i126, ?_, k3.trans k4, by lia, hF, rfl⟩
            have : (σ.w (93 :: ts) bf3 (pre ++ acc) line3).buf ++ 93 :: List.replicate (eqsF ts).1 61 = pre ++ (acc ++ 93 :: List.replicate (eqsF ts).1 61) := by show pre ++ acc ++ _ = _; simp [List.append_assoc]
            rw [this] at g4
            exact g4
          · rw [if_pos hb] at hF
            walk_at "d"; simp_arith only [wpBody]
            (refine absG fun G_ hG_ => ?_; (rcases brF_tail hb with ⟨r2, h2, hlev⟩) <;> (refine hG_ ?_; clear hG_ G_))
            simp_all_arith only [i0, g4.h.own 83 336 rfl]
            refine g_kam S (by lia) g4 (c := 93) (r := r2) h2 rfl fun mh5 g5 k5 => ?_
            have hbuf : (σ.w (93 :: ts) bf3 (pre ++ acc) line3).buf ++ 93 :: List.replicate (eqsF ts).1 61 ++ [93] = pre ++ acc ++ 93 :: List.replicate level 61 ++ [93] := by rw [hlev]; rfl
            simp only [hbuf] at g5
            have hlen : (pre ++ acc ++ 93 :: List.replicate level 61 ++ [93] : List UInt8).length = pre.length + acc.length + level + 2 := by simp; lia
            have e5 : (((pre ++ acc ++ 93 :: List.replicate level 61 ++ [93] : List UInt8).length : Nat) : Int) - (level : Int) - 2 = ((pre.length + acc.length : Nat) : Int) := by rw [hlen]; lia
            have hbo := g5.h.bufO
            simp only [] at hbo
            have sz5 := g5.sz
            simp only [] at sz5
            rw [hlen] at sz5
            simp_all_arith only [i0, i109, i126, g5.h.a66, hbo, e5]
            refine sliceV_a hbo (bound_n (by rw [limN]; lia)) (bound_n (by rw [limN]; lia)) fun b hbN => ?_
            walk_at "d"; simp_arith only [set_self]
            have hcut : cut (pre ++ acc ++ 93 :: List.replicate level 61 ++ [93]) pre.length (pre.length + acc.length) = acc := by
              unfold cut
              rw [show pre ++ acc ++ 93 :: List.replicate level 61 ++ [93] = (pre ++ acc) ++ (93 :: List.replicate level 61 ++ [93]) from by simp [List.append_assoc]]
              rw [List.take_append_of_le_length (by simp), List.take_of_length_le (by simp), List.drop_append_of_le_length (Nat.le_refl _), List.drop_length, List.nil_append]
            rw [hcut]
            rw [h2] at hF
            have xx : Ext mh5 (mh5.set b (.barr acc)) := Ext.new hbN
            refine hB _ _ hF _ bf3 (pre ++ acc ++ 93 :: List.replicate level 61 ++ [93]) line3 (g5.ext xx) ((k3.trans k4).trans (k5.trans (Kp.of_ext xx))) ?_
            have : (eqsF ts).2.length = r2.length + 1 := by rw [h2]; rfl
            show r2.length < r.length
            lia
        · rw [if_neg z93] at hF
          simp_all_arith only [i0, g3.h.a45, hsg, d93, z93]
          simp_all_arith only [i0, g3.h.a45, hsg]
          refine c_is_newline S (by lia) ?_
          cases hN : isNL (f.toNat : Int)
          · have hN' : isN f = false := hN
            rw [if_neg (by rw [hN']; simp)] at hF
            walk_at "d"; simp_arith only [wpBody]
            simp_all_arith only [i125]
            cases isT
            · walk_at "d"; simp_arith only [wpBody]
              simp_all_arith only [i0, g3.h.own 81 322 rfl]
              refine g_move S (by lia) g3 (c := f) (r := ts) rfl hN' fun mh4 g4 k4 => ?_
              walk_at "n"; walk_at "n"; walk_at "n"; walk_at "n"; walk_at "n"; walk_at "n"
              exact ⟨ts.length, by first | lia | (simp only [List.length_cons]; lia), i0, i109, i125, pre, acc, ts, bf3, line3, i126, g4, k3.trans k4, by lia, hF, rfl⟩
            · walk_at "d"; simp_arith only [wpBody]
              simp_all_arith only [i0, g3.h.own 83 336 rfl]
              refine g_kam S (by lia) g3 (c := f) (r := ts) rfl hN' fun mh4 g4 k4 => ?_
              walk_at "n"; walk_at "n"; walk_at "n"; walk_at "n"; walk_at "n"; walk_at "n"
              refine ⟨ts.length, by first | lia | (simp only [List.length_cons]; lia), i0, i109, i125, pre, acc ++ [f], ts, bf3, line3, i126, ?_, k3.trans k4, by lia, hF, rfl⟩
              have : (σ.w (f :: ts) bf3 (pre ++ acc) line3).buf ++ [f] = pre ++ (acc ++ [f]) := by show pre ++ acc ++ _ = _; simp [List.append_assoc]
              rw [this] at g4
              exact g4
          · have hN' : isN f = true := hN
            rw [if_pos hN'] at hF
            have lt := afterNL_lt (l := f :: ts) (by simp)
            simp only [List.length_cons] at lt
            walk_at "d"; simp_arith only [wpBody]
            simp_all_arith only [i0, g3.h.own 80 329 rfl]
            have t10 : (10 : Int) = (((10 : UInt8)).toNat : Int) := rfl
            rw [t10]
            refine c_keep S (by lia) g3.h (by show (pre ++ acc).length < _; have : (pre ++ acc).length + (f :: ts).length ≤ 1500 := sz3; lia) fun mh4 h4 k4 => ?_
            simp_all_arith only [i0, h4.own 105 357 rfl]
            refine c_end_line S (by lia) h4 (by have := g3.line; show line3 ≤ _; have : line3 ≤ 1001 := this; lia) (by show f :: ts ≠ []; simp) fun mh5 h5 k5 => ?_
            have ln5 := lines_nl g3.h g3.ln hN
            have bu : (σ.w (f :: ts) bf3 (pre ++ acc) line3).buf ++ [10] = pre ++ (acc ++ [10]) := by show pre ++ acc ++ _ = _; simp [List.append_assoc]
            have g5 : G mh5 x (σ.w (afterNL (f :: ts)) bf3 (pre ++ (acc ++ [10])) (line3 + 1)) := ⟨by
              have h6 := h5
              simp only [bu] at h6
              exact h6, ln5, by
              have : (pre ++ acc).length + (f :: ts).length ≤ 1500 := sz3
              simp only [List.length_append, List.length_cons] at this
              show (pre ++ (acc ++ [10])).length + (afterNL (f :: ts)).length ≤ 1500
              simp only [List.length_append, List.length_cons, List.length_nil]
              lia⟩
            simp_all_arith only [i125]
            cases isT
            · have sz5 := g5.sz
              have sz5 : (pre ++ (acc ++ [10])).length + (afterNL (f :: ts)).length ≤ 1500 := sz5
              simp only [List.length_append] at sz5
              walk_at "d"; simp_arith only [wpBody]
              simp_all_arith only [i0, i126, g5.h.a66]
              refine sliceV_a g5.h.bufO (bound_none rfl) (bound_n (by rw [limN]; lia)) fun b hbN => ?_
              have xx : Ext mh5 (mh5.set b (.barr (cut (σ.w (afterNL (f :: ts)) bf3 (pre ++ (acc ++ [10])) (line3 + 1)).buf 0 pre.length))) := Ext.new hbN
              have hcut : cut (σ.w (afterNL (f :: ts)) bf3 (pre ++ (acc ++ [10])) (line3 + 1)).buf 0 pre.length = pre := by
                show (pre ++ (acc ++ [10])).take pre.length = pre
                rw [List.take_append_of_le_length (Nat.le_refl _), List.take_length]
              rw [hcut] at xx ⊢
              refine (g5.h.ext xx).buf! (bs := pre) set_self fun mh6 h6 q1 q2 => ?_
              walk_at "n"; walk_at "n"; walk_at "n"; walk_at "n"; walk_at "n"; walk_at "n"
              refine ⟨(afterNL (f :: ts)).length, lt, i0, i109, i125, pre, [], afterNL (f :: ts), b, line3 + 1, i126, ⟨by rw [List.append_nil]; exact h6, ln5, by rw [List.append_nil]; show pre.length + (afterNL (f :: ts)).length ≤ 1500; lia⟩, ?_, by lia, hF, rfl⟩
              refine (k3.trans (k4.trans k5)).trans ⟨fun a o e n1 n2 => q1 a o (xx a o e) n1, .inr hbN, fun a e => q2 a ?_⟩
              cases q : mh5 a with
              | none => exact absurd q e
              | some o => rw [xx a o q]; simp
            · walk_at "d"; simp_arith only [wpBody]
              walk_at "n"; walk_at "n"; walk_at "n"; walk_at "n"; walk_at "n"; walk_at "n"
              exact ⟨(afterNL (f :: ts)).length, lt, i0, i109, i125, pre, acc ++ [10], afterNL (f :: ts), bf3, line3 + 1, i126, g5, k3.trans (k4.trans k5), by lia, hF, rfl⟩
  cases hz : isNL (sg r)
  · walk_at "d"; simp_arith only [wpBody]
    walk_at "n"
    simp only [tlS, b_Lexer_read_long] at loop
    exact loop (rs := r) g1 k1 (Nat.le_refl _) (by rw [hz]; rfl) (by first | rfl | simp [Fs.set]) (by first | rfl | simp [Fs.set]) (by first | rfl | simp [Fs.set])
  · walk_at "d"; simp_arith only [wpBody]
    simp_all_arith only [g1.h.own 105 357 rfl]
    refine g_end_line S (by lia) g1 hz fun mh2 g2 k2 => ?_
    walk_at "n"
    simp only [tlS, b_Lexer_read_long] at loop
    have hne : r ≠ [] := by intro q; rw [q] at hz; cases hz
    exact loop (rs := afterNL r) g2 (k1.trans k2) (Nat.le_of_lt (afterNL_lt hne)) (by rw [hz]; rfl) (by first | rfl | simp [Fs.set]) (by first | rfl | simp [Fs.set]) (by first | rfl | simp [Fs.set])
end
end Lx
namespace Lx
structure TokAt (mh : MH) (tk : Ad) (k : Int) (v : V) : Prop where
  p : ∃ dt tf, mh tk = some (.inst 262 dt) ∧ mh dt = some (.flds tf) ∧ tf 56 = some (.int k) ∧ tf 11 = some v ∧ tf 10 = none
theorem TokAt.ext {mh mh' : MH} {tk : Ad} {k : Int} {v : V} (t : TokAt mh tk k v) (e : Ext mh mh') : TokAt mh' tk k v := by
  obtain ⟨dt, tf, h1, h2, h3⟩ := t.p; exact ⟨dt, tf, e _ _ h1, e _ _ h2, h3⟩
theorem TokAt.kind {mh : MH} {tk : Ad} {k : Int} {v : V} (t : TokAt mh tk k v) : attrV mh (.ref tk) 56 = some (.int k) := by
  obtain ⟨dt, tf, h1, h2, h3, h4, h5⟩ := t.p; simp [attrV, h1, h2, h3]
theorem TokAt.value {mh : MH} {tk : Ad} {k : Int} {v : V} (t : TokAt mh tk k v) : attrV mh (.ref tk) 11 = some v := by
  obtain ⟨dt, tf, h1, h2, h3, h4, h5⟩ := t.p; simp [attrV, h1, h2, h4]
theorem TokAt.keep {mh mh' : MH} {x tk : Ad} {σ : LS} {k : Int} {v : V} {bf' : Ad} (t : TokAt mh tk k v) (h : LX mh x σ) (kp : Kp mh σ.d σ.bf mh' bf') : TokAt mh' tk k v := by
  obtain ⟨dt, tf, h1, h2, h3, h4, h5⟩ := t.p
  obtain ⟨fs, f1, f2⟩ := h.flds
  have b := h.bufO
  refine ⟨dt, tf, kp.keep _ _ h1 ?_ ?_, kp.keep _ _ h2 ?_ ?_, h3, h4, h5⟩
  · rintro rfl; rw [f1] at h1; cases h1
  · rintro rfl; rw [b] at h1; cases h1
  · rintro rfl; rw [f1] at h2; cases h2; rw [f2.text] at h5; cases h5
  · rintro rfl; rw [b] at h2; cases h2
noncomputable def TokQ (mh : MH) (x : Ad) (σ : LS) (k : Int) (v : V) (r' : List UInt8) (Q : V → MH → Prop) : Prop :=
  ∀ tk mh' bf buf line, G mh' x (σ.w r' bf buf line) → Kp mh σ.d σ.bf mh' bf → mh tk = none → TokAt mh' tk k v → Q (.ref tk) mh'
noncomputable def dgF : Nat → Nat → List UInt8 → Nat × List UInt8
  | 0, v, l => (v, l)
  | _ + 1, v, [] => (v, [])
  | k + 1, v, c :: r => if isDig (c.toNat : Int) then dgF k (10 * v + (c.toNat - 48)) r else (v, c :: r)
theorem dgF_len : ∀ (k v : Nat) (l : List UInt8), (dgF k v l).2.length ≤ l.length
  | 0, v, l => Nat.le_refl _
  | _ + 1, v, [] => Nat.le_refl _
  | k + 1, v, c :: r => by
    unfold dgF; split
    · have := dgF_len k (10 * v + (c.toNat - 48)) r; simp; lia
    · simp
noncomputable def escL : List UInt8 → Option (List UInt8 × List UInt8)
  | [] => some ([], [])
  | c :: r => if isN c then some (afterNL (c :: r), [10]) else if isDig (c.toNat : Int) then (if 255 < (dgF 3 0 (c :: r)).1 then none else some ((dgF 3 0 (c :: r)).2, [UInt8.ofNat (dgF 3 0 (c :: r)).1]))
    else some (r, [(escF c).getD c])
noncomputable def strL (q : UInt8) (rest acc : List UInt8) : Option (List UInt8 × List UInt8) :=
  lenFix (fun p : List UInt8 × List UInt8 => p.1.length) (fun p => match p with
    | ([], _) => fun u_ => none
    | (c :: r, acc) => fun rec => if c = q then some (r, acc) else if isN c then none else if c = 92 then (match escL r with
        | none => none
        | some (r', bs) => if h : r'.length ≤ r.length then rec (r', acc ++ bs) (Nat.lt_succ_of_le h) else none)
      else rec (r, acc ++ [c]) (Nat.lt_succ_self _)) (rest, acc)
theorem strL_nil {q acc} : strL q [] acc = none := lenFix_eq
theorem strL_cons {q c r acc} : strL q (c :: r) acc = (if c = q then some (r, acc) else if isN c then none else if c = 92 then (match escL r with
      | none => none
      | some (r', bs) => if h : r'.length ≤ r.length then strL q r' (acc ++ bs) else none)
    else strL q r (acc ++ [c])) := lenFix_eq
theorem dgF_lt {c : UInt8} {r : List UInt8} (h : isDig (c.toNat : Int) = true) : (dgF 3 0 (c :: r)).2.length ≤ r.length := by
  unfold dgF; rw [if_pos h]; exact dgF_len _ _ _
theorem u8eq {c : UInt8} {k : Nat} (hk : k < 256) : (((c.toNat : Int)) == (k : Int)) = decide (c = UInt8.ofNat k) := by
  by_cases w : c = UInt8.ofNat k
  · subst w; simp [Nat.mod_eq_of_lt hk]
  · simp only [w, decide_false, beq_eq_false_iff_ne]; intro z; apply w; apply UInt8.toNat_inj.mp; have : c.toNat = k := by lia
    rw [this]; simp [Nat.mod_eq_of_lt hk]
theorem u8eq' {c d : UInt8} : (((c.toNat : Int)) == (d.toNat : Int)) = decide (c = d) := by
  by_cases w : c = d
  · simp [w]
  · simp only [w, decide_false, beq_eq_false_iff_ne]; intro z; apply w; apply UInt8.toNat_inj.mp; lia
theorem n10 : (10 : Int).natAbs < 4611686018427387904 := by decide
theorem nam_nN : ∀ n : Fin 256, isNam (n.val : Int) = true ∨ isDig (n.val : Int) = true → isNL (n.val : Int) = false := by decide +kernel
theorem dig_nN {c : UInt8} (h : isDig (c.toNat : Int) = true) : isN c = false := nam_nN ⟨c.toNat, UInt8.toNat_lt c⟩ (.inr h)
theorem let_nN {c : UInt8} (h : isNam (c.toNat : Int) = true) : isN c = false := nam_nN ⟨c.toNat, UInt8.toNat_lt c⟩ (.inl h)
inductive W_g_digits (x : Ad) (σ : LS) (mh : MH) (F : Nat × List UInt8) (n : Nat) (st : St) : Prop
  | mk (i1 : st.loc 0 = some (.ref x)) (j v : Nat) (rs : List UInt8) (i2 : j ≤ 3) (i3 : st.loc 124 = some (.int (j : Int))) (i4 : st.loc 11 = some (.int (v : Int))) (i5 : G st.mh x { σ with rest := rs }) (i6 : Kp mh σ.d σ.bf st.mh σ.bf) (i7 : dgF (3 - j) v rs = F) (i8 : n = rs.length)
inductive W_g_string (x : Ad) (σ : LS) (mh : MH) (c : UInt8) (r : List UInt8) (n : Nat) (st : St) : Prop
  | mk (i1 : st.loc 0 = some (.ref x)) (i2 : st.loc 129 = some (.int (c.toNat : Int))) (acc ts : List UInt8) (line : Nat) (i3 : G st.mh x (σ.w ts σ.bf (c :: acc) line)) (i4 : Kp mh σ.d σ.bf st.mh σ.bf) (i5 : ts.length ≤ r.length) (i6 : strL c r [] = strL c ts acc) (i7 : n = ts.length)
section
variable {C : Nat → Ad → List V → MH → (V → MH → Prop) → (MH → Prop) → Prop} {band : Int → Int → Int} (S : Sys C band)
include S
theorem g_tok {n : Nat} (hn : 2 ≤ n) {mh mh1 : MH} {x : Ad} {σ : LS} {r' : List UInt8} {bf : Ad} {buf : List UInt8} {line : Nat} (g : G mh1 x (σ.w r' bf buf line)) (kp : Kp mh σ.d σ.bf mh1 bf) {k : Int} {v : V} {Q X} (hQ : TokQ mh x σ k v r' Q) : C n 262 [.int k, v] mh1 Q X :=
  c_token S hn fun a d mh' ha e h1 h2 => hQ a mh' bf buf line (g.ext e) (kp.trans (Kp.of_ext e)) (by
    cases q : mh a with
    | none => rfl
    | some o => exact absurd ha (kp.alive a (by rw [q]; simp))) ⟨d, _, h1, h2, by first | rfl | simp [Fs.set], by first | rfl | simp [Fs.set], by first | rfl | simp [Fs.set]⟩
theorem g_digits {n : Nat} (hn : 5 ≤ n) {mh : MH} {x : Ad} {σ : LS} (g : G mh x σ) {c : UInt8} {r : List UInt8} (hr : σ.rest = c :: r) (hc : isDig (c.toNat : Int) = true) {Q X}
    (hA : 255 < (dgF 3 0 (c :: r)).1 → ∀ mh', Kx mh σ.d σ.bf mh' → X mh')
    (hB : ¬ 255 < (dgF 3 0 (c :: r)).1 → ∀ mh', G mh' x { σ with rest := (dgF 3 0 (c :: r)).2, buf := σ.buf ++ [UInt8.ofNat (dgF 3 0 (c :: r)).1] } → Kp mh σ.d σ.bf mh' σ.bf → Q .none mh') : C n 462 [.ref x] mh Q X := by
  refine fn1 S (ps := p_Lexer_read_digits) (b := b_Lexer_read_digits) (by exact List.mem_of_getElem? (i := 45) rfl) (by lia) rfl fun m e => ?_
  dsimp only [p_Lexer_read_digits, b_Lexer_read_digits]; walk_at "d"; simp_arith only [wpBody]
  simp_all_arith only [l2]
  have hle := dgF_lt (r := r) hc
  generalize hF : dgF 3 0 (c :: r) = F at hA hB hle
  simp_all_arith only [wpBody]
  refine ⟨W_g_digits x σ mh F,
    ⟨_, by first | rfl | simp [Fs.set], 0, 0, c :: r, by lia, by first | rfl | simp [Fs.set], by first | rfl | simp [Fs.set], by have g' := g; rw [← hr]; exact g', Kp.refl, hF, rfl⟩, ?_⟩
  rintro n ⟨loc, mh2⟩ ⟨h0, j, v, rs, hj, h124, h11, g2, k2, e1, rfl⟩
  dsimp only at h0 h124 h11 g2 k2 ⊢
  have fin : (v, rs) = F → ∀ {Q' X'}, Q' = Q → X' = X → wpSs (Out.mk0 (C m) band) (tlS (tlS b_Lexer_read_digits)) ⟨loc, mh2⟩ (retQ Q') (fun st => X' st.mh) := by
    rintro rfl Q' X' rfl rfl
    simp only [tlS, b_Lexer_read_digits]
    by_cases w : 255 < v
    · have w' : (255 : Int) < (v : Int) := by lia
      simp_all_arith only [h11, w']
      simp_all_arith only [h0, g2.h.own 75 301 rfl]
      exact g_error S (by lia) g2 (by simp) (.inr (.inl rfl)) fun mh' kx => hA w mh' (k2.kx kx)
    · have w' : ¬ (255 : Int) < (v : Int) := by lia
      simp_all_arith only [h11, w']
      walk_at "n"
      simp_all_arith only [h0, g2.h.own 80 329 rfl, h11]
      have hv : (v : Int) = ((UInt8.ofNat v).toNat : Int) := by simp [Nat.mod_eq_of_lt (show v < 256 by lia)]
      rw [hv]
      have sz2 := g2.sz
      have sz2 : σ.buf.length + rs.length ≤ 1500 := sz2
      refine c_keep S (by lia) g2.h (by show σ.buf.length < _; lia) fun mh3 h3 k3 => ?_
      walk_at "n"
      refine hB w mh3 ⟨h3, g2.ln, ?_⟩ (k2.trans k3)
      have sz := g.sz
      rw [hr] at sz
      show (σ.buf ++ [UInt8.ofNat v]).length + rs.length ≤ 1500
      simp only [List.length_append, List.length_cons, List.length_nil] at sz ⊢
      have : rs.length ≤ r.length := hle
      lia
  simp only [tlS, b_Lexer_read_digits] at fin
  by_cases q : j < 3
  · have q' : (j : Int) < 3 := by lia
    walk_at "d"; simp_arith only [h124, q', h0, g2.h.a45]
    refine c_is_digit S (by lia) ?_
    cases hz : isDig (sg rs)
    · walk_at "d"; simp_arith only [wpBody]
      obtain ⟨k, hk⟩ : ∃ k, 3 - j = k + 1 := ⟨2 - j, Nat.succ_sub (Nat.le_of_lt_succ q)⟩
      rw [hk] at e1
      refine fin ?_ rfl rfl
      rw [← e1]
      cases rs with
      | nil => rfl
      | cons f rs => unfold dgF; rw [if_neg (by have : isDig (f.toNat : Int) = false := hz; rw [this]; simp)]
    · cases rs with
      | nil => cases hz
      | cons f rs =>
        have hz : isDig (f.toNat : Int) = true := hz
        have h48 : 48 ≤ f.toNat ∧ f.toNat ≤ 57 := by unfold isDig at hz; simp only [Bool.and_eq_true, decide_eq_true_eq] at hz; exact ⟨Int.ofNat_le.mp hz.1, Int.ofNat_le.mp hz.2⟩
        obtain ⟨k, hk⟩ : ∃ k, 3 - j = k + 1 := ⟨2 - j, Nat.succ_sub (Nat.le_of_lt_succ q)⟩
        rw [hk] at e1
        unfold dgF at e1
        rw [if_pos hz] at e1
        have ev : (10 : Int) * (v : Int) + (f.toNat : Int) - 48 = ((10 * v + (f.toNat - 48) : Nat) : Int) := by rw [Int.natCast_add, Int.natCast_sub h48.1, Int.natCast_mul]; exact Int.add_sub_assoc _ _ _
        have ej : (j : Int) + 1 = ((j + 1 : Nat) : Int) := by lia
        have hsg : sg (f :: rs) = (f.toNat : Int) := rfl
        walk_at "d"; simp_arith only [wpBody]
        simp_all_arith only [h11, h0, g2.h.a45, hsg, ev, n10, true_or]
        simp_all_arith only [h124, ej]
        simp_all_arith only [h0, g2.h.own 81 322 rfl]
        refine g_move S (by lia) g2 (c := f) (r := rs) rfl (dig_nN hz) fun mh3 g3 k3 => ?_
        walk_at "n"
        exact ⟨rs.length, by simp, by first | exact h0 | simp [Fs.set, h0], j + 1, _, rs, q, by first | rfl | simp [Fs.set], by simp only [Fs.set]; rfl, g3, k2.trans k3, by rw [show 3 - (j + 1) = k from congrArg Nat.pred hk]; exact e1, rfl⟩
  · have q' : ¬ (j : Int) < 3 := by lia
    walk_at "d"; simp_arith only [h124, q']
    refine fin ?_ rfl rfl
    rw [← e1, show 3 - j = 0 from Nat.sub_eq_zero_of_le (Nat.not_lt.mp q)]; rfl
theorem g_escape {n : Nat} (hn : 6 ≤ n) {mh : MH} {x : Ad} {σ : LS} (g : G mh x σ) {Q X}
    (hA : escL σ.rest = none → ∀ mh', Kx mh σ.d σ.bf mh' → X mh')
    (hB : ∀ r' bs, escL σ.rest = some (r', bs) → r'.length ≤ σ.rest.length → ∀ mh' line, G mh' x (σ.w r' σ.bf (σ.buf ++ bs) line) → Kp mh σ.d σ.bf mh' σ.bf → Q .none mh') : C n 455 [.ref x] mh Q X := by
  refine fn1 S (ps := p_Lexer_read_escape) (b := b_Lexer_read_escape) (by exact List.mem_of_getElem? (i := 44) rfl) (by lia) rfl fun m e => ?_
  dsimp only [p_Lexer_read_escape, b_Lexer_read_escape]; walk_at "d"; simp_arith only [wpBody]
  have sz := g.sz
  cases hr : σ.rest with
  | nil =>
    have q : (sg [] == -1) = true := by decide
    simp_all_arith only [g.h.a45, hr, q]
    simp_all_arith only [wpBody]
    rw [hr] at hB
    refine hB [] [] rfl (Nat.le_refl _) mh σ.line ?_ Kp.refl
    have e : σ.w [] σ.bf (σ.buf ++ []) σ.line = σ := by unfold LS.w; rw [List.append_nil, ← hr]
    rw [e]; exact g
  | cons c r =>
    rw [hr] at hA hB sz
    simp only [List.length_cons] at sz
    have hs : sg (c :: r) = (c.toNat : Int) := rfl
    have q : ((c.toNat : Int) == -1) = false := by rw [beq_eq_false_iff_ne]; lia
    have g' : G mh x σ := g
    simp_all_arith only [g.h.a45, hr, hs, q]
    walk_at "n"
    simp_all_arith only [g.h.a45, hr, hs]
    refine c_is_newline S (by lia) ?_
    cases hN : isNL (c.toNat : Int)
    · have hN' : isN c = false := hN
      walk_at "d"; simp_arith only [wpBody]
      walk_at "n"
      simp_all_arith only [g.h.a45, hr, hs]
      refine c_is_digit S (by lia) ?_
      cases hD : isDig (c.toNat : Int)
      · have hE : escL (c :: r) = some (r, [(escF c).getD c]) := by rw [escL, if_neg (by rw [hN']; simp), if_neg (by rw [hD]; simp)]
        walk_at "d"; simp_arith only [wpBody]
        walk_at "n"
        simp_all_arith only [g.h.a45, hr, hs]
        refine c_escaped S (by lia) fun mh1 x1 => ?_
        have g1 := g.ext x1
        have keepit : ∀ (v : UInt8), (escF c).getD c = v → C m 329 [.ref x, .int (v.toNat : Int)] mh1 (fun v mh => wpSs (Out.mk0 (C m) band) (tlS (tlS (tlS (tlS (tlS b_Lexer_read_escape))))) ⟨Fs.set (Fs.set (fun u_ => none) 0 (.ref x)) 132 (optV (escF c)), mh⟩ (retQ Q) (fun st => X st.mh)) (fun mh => X mh) := fun v hv => by
          refine c_keep S (by lia) g1.h (by lia) fun mh2 h2 k2 => ?_
          simp only [tlS, b_Lexer_read_escape]
          simp_all_arith only [h2.own 81 322 rfl]
          refine c_move S (by lia) h2 (c := c) (r := r) hr fun mh3 h3 k3 => ?_
          walk_at "n"
          refine hB r [v] (by rw [hE, hv]) (by simp) mh3 σ.line ⟨h3, by have := (head_at g.h hr).2.2; show Lines σ.T ({ σ with rest := r } : LS).pos σ.line; rw [this]; exact lines_move g.h g.ln hr hN', by show (σ.buf ++ [v]).length + r.length ≤ 1500; simp; lia⟩ ((Kp.of_ext x1).trans (k2.trans k3))
        simp only [tlS, b_Lexer_read_escape] at keepit
        simp_all_arith only [g1.h.own 80 329 rfl, g1.h.a45, hr, hs]
        cases hF : escF c with
        | none =>
          rw [hF] at keepit
          unfold optV
          walk_at "d"; simp_arith only [g1.h.a45, hr, hs]
          exact keepit c rfl
        | some d =>
          rw [hF] at keepit
          unfold optV bV
          walk_at "d"; simp_arith only [wpBody]
          exact keepit d rfl
      · have hE : escL (c :: r) = if 255 < (dgF 3 0 (c :: r)).1 then none else some ((dgF 3 0 (c :: r)).2, [UInt8.ofNat (dgF 3 0 (c :: r)).1]) := by rw [escL, if_neg (by rw [hN']; simp), if_pos hD]
        walk_at "d"; simp_arith only [wpBody]
        simp_all_arith only [g.h.own 31 462 rfl]
        refine g_digits S (by lia) g hr hD ?_ ?_
        · intro w mh' kx
          rw [hE, if_pos w] at hA
          exact hA rfl mh' kx
        · intro w mh1 g1 k1
          rw [hE, if_neg w] at hB
          simp_all_arith only [wpBody]
          exact hB _ _ rfl (dgF_len _ _ _) mh1 σ.line g1 k1
    · have hN' : isN c = true := hN
      have hE : escL (c :: r) = some (afterNL (c :: r), [10]) := by rw [escL, if_pos hN']
      walk_at "d"; simp_arith only [wpBody]
      simp_all_arith only [g.h.own 80 329 rfl]
      have t10 : (10 : Int) = (((10 : UInt8)).toNat : Int) := rfl
      rw [t10]
      refine c_keep S (by lia) g.h (by lia) fun mh1 h1 k1 => ?_
      simp_all_arith only [h1.own 105 357 rfl]
      refine c_end_line S (by lia) h1 (by have := g.line; show σ.line ≤ _; lia) (by show σ.rest ≠ []; rw [hr]; simp) fun mh2 h2 k2 => ?_
      simp_all_arith only [wpBody]
      have lt := afterNL_lt (l := c :: r) (by simp)
      simp only [List.length_cons] at lt
      have ln2 := lines_nl g.h g.ln (by rw [hr]; exact hN)
      rw [hr] at h2 ln2
      refine hB _ _ hE (by simp only [List.length_cons]; lia) mh2 (σ.line + 1) ⟨h2, ln2, ?_⟩ (k1.trans k2)
      show (σ.buf ++ [10]).length + (afterNL (c :: r)).length ≤ 1500
      simp only [List.length_append, List.length_cons, List.length_nil]; lia
theorem g_string {n : Nat} (hn : 7 ≤ n) {mh : MH} {x : Ad} {σ : LS} (g : G mh x σ) (hb : σ.buf = []) {c : UInt8} {r : List UInt8} (hr : σ.rest = c :: r) (hc : isN c = false) {Q X}
    (hA : strL c r [] = none → ∀ mh', Kx mh σ.d σ.bf mh' → X mh')
    (hB : ∀ r' acc, strL c r [] = some (r', acc) → r'.length ≤ r.length → TokQ mh x σ 286 (.bytes acc) r' Q) : C n 448 [.ref x, .int (c.toNat : Int)] mh Q X := by
  refine fn1 S (ps := p_Lexer_read_string) (b := b_Lexer_read_string) (by exact List.mem_of_getElem? (i := 43) rfl) (by lia) rfl fun m e => ?_
  dsimp only [p_Lexer_read_string, b_Lexer_read_string]; walk_at "d"; simp_arith only [wpBody]
  simp_all_arith only [g.h.own 83 336 rfl]
  refine g_kam S (by lia) g hr hc fun mh1 g1 k1 => ?_
  rw [hb] at g1
  simp_all_arith only [wpBody]
  refine ⟨W_g_string x σ mh c r,
    ⟨_, by first | rfl | simp [Fs.set], by first | rfl | simp [Fs.set], [], r, σ.line, g1, k1, Nat.le_refl _, rfl, rfl⟩, ?_⟩
  rintro n ⟨loc, mh2⟩ ⟨h0, h129, acc, ts, line, g2, k2, hle, hF, rfl⟩
  dsimp only at h0 h129 g2 k2 ⊢
  have sz2 : (c :: acc).length + ts.length ≤ 1500 := g2.sz
  simp only [List.length_cons] at sz2
  cases ts with
  | nil =>
    have q1 : (sg [] == (c.toNat : Int)) = false := by rw [beq_eq_false_iff_ne]; show ¬ (-1 : Int) = _; lia
    have q2 : (sg [] == -1) = true := by decide
    have hF : strL c r [] = none := by rw [hF, strL_nil]
    walk_at "d"; simp_arith only [h0, g2.h.a45, h129, show (σ.w [] σ.bf (c :: acc) line).rest = [] from rfl, q1]
    simp_all_arith only [h0, g2.h.a45, show (σ.w [] σ.bf (c :: acc) line).rest = [] from rfl, q2]
    simp_all_arith only [h0, g2.h.own 75 301 rfl]
    exact g_error S (by lia) g2 (by simp) (.inr (.inr (.inl rfl))) fun mh' kx => hA hF mh' (k2.kx kx)
  | cons f ts =>
    have hsg : sg (σ.w (f :: ts) σ.bf (c :: acc) line).rest = (f.toNat : Int) := rfl
    rw [strL_cons] at hF
    simp only [List.length_cons] at hle sz2
    walk_at "d"; simp_arith only [h0, g2.h.a45, h129, hsg, u8eq']
    by_cases z : f = c
    · subst z
      simp only [if_true] at hF
      walk_at "d"; simp_arith only [wpBody]
      simp_all_arith only [h0, g2.h.own 83 336 rfl]
      refine g_kam S (by lia) g2 (c := f) (r := ts) rfl hc fun mh3 g3 k3 => ?_
      have hbo := g3.h.bufO
      have hbuf : (σ.w (f :: ts) σ.bf (f :: acc) line).buf ++ [f] = f :: (acc ++ [f]) := rfl
      simp only [hbuf] at g3 hbo
      have e5 : (((f :: (acc ++ [f]) : List UInt8).length : Nat) : Int) - 1 = ((acc.length + 1 : Nat) : Int) := by simp
      simp_all_arith only [h0, g3.h.a66, hbo]
      have e6 : ((acc.length + 1 + 1 : Nat) : Int) - 1 = ((acc.length + 1 : Nat) : Int) := by lia
      simp only [List.length_append, List.length_cons, List.length_nil, Nat.zero_add, e6]
      refine sliceV_a hbo (bound_n (k := 1) (by rw [limN]; lia)) (bound_n (by rw [limN]; lia)) fun b hbN => ?_
      walk_at "d"; simp_arith only [set_self]
      have hcut : cut (f :: (acc ++ [f])) 1 (acc.length + 1) = acc := by
        unfold cut
        simp
      rw [hcut]
      have xx : Ext mh3 (mh3.set b (.barr acc)) := Ext.new hbN
      refine g_tok S (by lia) (r' := ts) (bf := σ.bf) (buf := f :: (acc ++ [f])) (line := line) (g3.ext xx) (k2.trans (k3.trans (Kp.of_ext xx))) (hB ts acc hF (by lia))
    · rw [if_neg z] at hF
      have q2 : ((f.toNat : Int) == -1) = false := by rw [beq_eq_false_iff_ne]; lia
      walk_at "d"; simp_arith only [z]
      simp_all_arith only [h0, g2.h.a45, hsg, q2]
      simp_all_arith only [h0, g2.h.a45, hsg]
      refine c_is_newline S (by lia) ?_
      cases hN : isNL (f.toNat : Int)
      · have hN' : isN f = false := hN
        rw [if_neg (by rw [hN']; simp)] at hF
        have d92 : ((f.toNat : Int) == 92) = decide (f = 92) := u8eq (k := 92) (by lia)
        walk_at "d"; simp_arith only [wpBody]
        simp_all_arith only [h0, g2.h.a45, hsg, d92]
        by_cases z9 : f = 92
        · subst z9
          simp only [if_true] at hF
          walk_at "d"; simp_arith only [wpBody]
          simp_all_arith only [h0, g2.h.own 81 322 rfl]
          refine g_move S (by lia) g2 (c := 92) (r := ts) rfl rfl fun mh3 g3 k3 => ?_
          simp_all_arith only [h0, g3.h.own 131 455 rfl]
          refine g_escape S (by lia) g3 ?_ ?_
          · intro hE mh' kx
            have hE : escL ts = none := hE
            rw [hE] at hF
            exact hA hF mh' (k2.kx (k3.kx kx))
          · intro r' bs hE hl mh4 line4 g4 k4
            have hE : escL ts = some (r', bs) := hE
            have hl : r'.length ≤ ts.length := hl
            rw [hE] at hF
            simp only [hl, dite_true] at hF
            walk_at "n"; walk_at "n"; walk_at "n"; walk_at "n"
            exact ⟨r'.length, by lia, h0, h129, acc ++ bs, r', line4, g4, k2.trans (k3.trans k4), by lia, hF, rfl⟩
        · rw [if_neg z9] at hF
          walk_at "d"; simp_arith only [z9]
          simp_all_arith only [h0, g2.h.own 83 336 rfl]
          refine g_kam S (by lia) g2 (c := f) (r := ts) rfl hN' fun mh3 g3 k3 => ?_
          walk_at "n"; walk_at "n"; walk_at "n"; walk_at "n"
          exact ⟨ts.length, by lia, h0, h129, acc ++ [f], ts, line, g3, k2.trans k3, by lia, hF, rfl⟩
      · have hN' : isN f = true := hN
        rw [if_pos hN'] at hF
        walk_at "d"; simp_arith only [wpBody]
        simp_all_arith only [h0, g2.h.own 75 301 rfl]
        exact g_error S (by lia) g2 (by simp) (.inr (.inl rfl)) fun mh' kx => hA hF mh' (k2.kx kx)
end
end Lx
namespace Lx
noncomputable def nam (c : UInt8) : Bool := isNam (c.toNat : Int)
noncomputable def ddot (c : UInt8) : Bool := isDig (c.toNat : Int) || c == 46
noncomputable def wordF (w : List UInt8) : Int × V := match kindsL.lookup w with
  | some (.int i) => (i, .none)
  | _ => (285, .bytes w)
theorem kinds_int {w : List UInt8} {v : V} (h : kindsL.lookup w = some v) : ∃ i, v = .int i := by
  have : ∀ p ∈ kindsL, ∃ i, p.2 = .int i := by
    intro p hp
    unfold kindsL at hp
    obtain ⟨i, _, rfl⟩ := List.mem_map.mp hp
    exact ⟨_, rfl⟩
  generalize kindsL = l at h this
  induction l with
  | nil => cases h
  | cons p r ih =>
    rw [List.lookup_cons] at h
    split at h
    · cases h; exact this p (.head _)
    · exact ih h fun q hq => this q (.tail _ hq)
theorem nam_sg {rs : List UInt8} (h : isNam (sg rs) = true) : ∃ c r, rs = c :: r ∧ nam c = true := by
  cases rs with
  | nil => cases h
  | cons c r => exact ⟨c, r, rfl, h⟩
theorem tw_step {p : UInt8 → Bool} {c : UInt8} {r : List UInt8} (h : p c = true) : (c :: r).takeWhile p = c :: r.takeWhile p ∧ (c :: r).dropWhile p = r.dropWhile p := ⟨List.takeWhile_cons_of_pos h, List.dropWhile_cons_of_pos h⟩
theorem tw_stop {p : UInt8 → Bool} {l : List UInt8} (h : ∀ c r, l = c :: r → p c = false) : l.takeWhile p = [] ∧ l.dropWhile p = l := by
  cases l with
  | nil => exact ⟨rfl, rfl⟩
  | cons c r =>
    have := h c r rfl
    exact ⟨List.takeWhile_cons_of_neg (by simp [this]), List.dropWhile_cons_of_neg (by simp [this])⟩
theorem memV2 {i a b : Int} : memV (.int i) (.tup [.int a, .int b]) = some (i == a || (i == b || false)) := rfl
noncomputable def expG (c : UInt8) : List UInt8 → List UInt8 × List UInt8
  | [] => ([c], [])
  | d :: u => if d = 43 ∨ d = 45 then ([c, d], u) else ([c], d :: u)
noncomputable def expL : List UInt8 → List UInt8 × List UInt8
  | [] => ([], [])
  | c :: r => if c = 69 ∨ c = 101 then expG c r else ([], c :: r)
noncomputable def numL (l : List UInt8) : List UInt8 × List UInt8 :=
  (l.takeWhile ddot ++ ((expL (l.dropWhile ddot)).1 ++ (expL (l.dropWhile ddot)).2.takeWhile nam), (expL (l.dropWhile ddot)).2.dropWhile nam)
inductive W_namLoop (x : Ad) (σ : LS) (mh : MH) (loc : Fs) (b0 : List UInt8) (bf : Ad) (line : Nat) (rs : List UInt8) (n : Nat) (st : St) : Prop
  | mk (i1 : st.loc = loc) (ts w : List UInt8) (i2 : G st.mh x (σ.w ts bf (b0 ++ w) line)) (i3 : Kp mh σ.d σ.bf st.mh bf) (i4 : w ++ ts.takeWhile nam = rs.takeWhile nam) (i5 : ts.dropWhile nam = rs.dropWhile nam) (i6 : n = ts.length)
inductive W_g_numeral (x : Ad) (σ : LS) (mh : MH) (n : Nat) (st : St) : Prop
  | mk (i1 : st.loc 0 = some (.ref x)) (ts w : List UInt8) (i2 : G st.mh x (σ.w ts σ.bf (σ.buf ++ w) σ.line)) (i3 : Kp mh σ.d σ.bf st.mh σ.bf) (i4 : w ++ ts.takeWhile ddot = σ.rest.takeWhile ddot) (i5 : ts.dropWhile ddot = σ.rest.dropWhile ddot) (i6 : n = ts.length)
section
variable {C : Nat → Ad → List V → MH → (V → MH → Prop) → (MH → Prop) → Prop} {band : Int → Int → Int} (S : Sys C band)
include S
theorem namLoop {n : Nat} (hn : 2 ≤ n) {mh mh1 : MH} {x : Ad} {σ : LS} {rs b0 : List UInt8} {bf : Ad} {line : Nat} (g : G mh1 x (σ.w rs bf b0 line)) (k1 : Kp mh σ.d σ.bf mh1 bf) {loc : Fs} (h0 : loc 0 = some (.ref x)) {P1 P2 P3 P4 P5 P6 P7 P8 P9 : P} {Q : Fl → St → Prop} {X : St → Prop}
    (hQ : ∀ mh', G mh' x (σ.w (rs.dropWhile nam) bf (b0 ++ rs.takeWhile nam) line) → Kp mh σ.d σ.bf mh' bf → Q .next ⟨loc, mh'⟩) :
    wpS (Out.mk0 (C n) band) (.whil (.call (.glob 119 (.stat 203) P1) (.cons (.attr (.loc 0 P2) 45 P3) .nil) P4) (.cons (.expr (.meth (.loc 0 P5) 83 .nil P6 P7) P8) .nil) P9) ⟨loc, mh1⟩ Q X := by
  walk_at "d"; simp_arith only [h0]
  refine ⟨W_namLoop x σ mh loc b0 bf line rs, ⟨_, rfl, rs, [], by rw [List.append_nil]; exact g, k1, rfl, rfl, rfl⟩, ?_⟩
  rintro n ⟨loc, mh2⟩ ⟨rfl, ts, w, g2, k2, e1, e2, rfl⟩
  dsimp only at h0 g2 k2 hQ ⊢
  walk_at "d"; simp_arith only [h0, g2.h.a45]
  refine c_is_name S (by lia) ?_
  cases hz : isNam (sg ts)
  · walk_at "d"; simp_arith only [show (σ.w ts bf (b0 ++ w) line).rest = ts from rfl, hz]
    obtain ⟨s1, s2⟩ := tw_stop (p := nam) (l := ts) (fun c r q => by subst q; exact hz)
    rw [s1, List.append_nil] at e1
    rw [s2] at e2
    rw [← e1, ← e2] at hQ
    exact hQ mh2 g2 k2
  · obtain ⟨c, r, rfl, hc⟩ := nam_sg hz
    walk_at "d"; simp_arith only [show (σ.w (c :: r) bf (b0 ++ w) line).rest = c :: r from rfl, hz]
    simp_all_arith only [h0, g2.h.own 83 336 rfl]
    refine g_kam S (by lia) g2 (c := c) (r := r) rfl (let_nN hc) fun mh3 g3 k3 => ?_
    walk_at "n"
    obtain ⟨s1, s2⟩ := tw_step (p := nam) (r := r) hc
    refine ⟨r.length, by simp, rfl, r, w ++ [c], ?_, k2.trans k3, by rw [List.append_assoc, ← e1, s1]; rfl, by rw [← e2, s2], rfl⟩
    have : (σ.w (c :: r) bf (b0 ++ w) line).buf ++ [c] = b0 ++ (w ++ [c]) := by show b0 ++ w ++ _ = _; simp
    rw [this] at g3
    exact g3
theorem g_word {n : Nat} (hn : 3 ≤ n) {mh : MH} {x : Ad} {σ : LS} (g : G mh x σ) (hb : σ.buf = []) {Q X}
    (hQ : TokQ mh x σ (wordF (σ.rest.takeWhile nam)).1 (wordF (σ.rest.takeWhile nam)).2 (σ.rest.dropWhile nam) Q) : C n 406 [.ref x] mh Q X := by
  refine fn1 S (ps := p_Lexer_read_word) (b := b_Lexer_read_word) (by exact List.mem_of_getElem? (i := 37) rfl) (by lia) rfl fun m e => ?_
  have hw : σ = σ.w σ.rest σ.bf [] σ.line := by unfold LS.w; rw [← hb]
  dsimp only [p_Lexer_read_word]; walk_at "d"; simp_arith only [wpBody]
  unfold b_Lexer_read_word
  walk_at "n"
  refine namLoop S (n := m) (by lia) (mh := mh) (rs := σ.rest) (b0 := []) (bf := σ.bf) (line := σ.line) (σ := σ) (hw ▸ g) Kp.refl (by first | rfl | simp [Fs.set]) fun mh1 g1 k1 => ?_
  rw [List.nil_append] at g1
  generalize σ.rest.takeWhile nam = w at g1 hQ
  have sz := g1.sz
  have hbo := g1.h.bufO
  have hko := g1.h.kdO
  simp_all_arith only [g1.h.a66, hbo]
  simp_all_arith only [g1.h.a52, mk_dG hko, hko]
  simp_all_arith only [wpBody]
  cases hl : kindsL.lookup w with
  | none =>
    have e1 : lookB kindsL w = .none := by unfold lookB; rw [hl]
    have e2 : wordF w = (285, .bytes w) := by unfold wordF; rw [hl]
    rw [e2] at hQ
    have e3 : lookB kindsL (σ.w (σ.rest.dropWhile nam) σ.bf w σ.line).buf = .none := e1
    walk_at "d"; simp_arith only [e3]
    exact g_tok S (by lia) g1 k1 hQ
  | some v =>
    obtain ⟨i, rfl⟩ := kinds_int hl
    have e1 : lookB kindsL (σ.w (σ.rest.dropWhile nam) σ.bf w σ.line).buf = .int i := by show lookB kindsL w = _; unfold lookB; rw [hl]
    have e2 : wordF w = (i, .none) := by unfold wordF; rw [hl]
    rw [e2] at hQ
    walk_at "d"; simp_arith only [e1]
    exact g_tok S (by lia) g1 k1 hQ
variable {num : List UInt8 → V} (hnum : ∀ b : List UInt8, b.length ≤ LIM → VN (num b) ∧ ∀ {n : Nat} {mh : MH} {lim : Ad} {Q : V → MH → Prop} {X : MH → Prop}, 5 ≤ n → LimOK mh lim → Q (num b) mh → C n 138 [.bytes b, .ref lim] mh Q X)
include hnum
theorem g_numeral {n : Nat} (hn : 6 ≤ n) {mh : MH} {x : Ad} {σ : LS} (g : G mh x σ) {Q X}
    (hA : num (σ.buf ++ (numL σ.rest).1) = .none → ∀ mh', Kx mh σ.d σ.bf mh' → X mh')
    (hB : num (σ.buf ++ (numL σ.rest).1) ≠ .none → TokQ mh x σ 284 (num (σ.buf ++ (numL σ.rest).1)) (numL σ.rest).2 Q) : C n 413 [.ref x] mh Q X := by
  refine fn1 S (ps := p_Lexer_read_numeral) (b := b_Lexer_read_numeral) (by exact List.mem_of_getElem? (i := 38) rfl) (by lia) rfl fun m e => ?_
  dsimp only [p_Lexer_read_numeral, b_Lexer_read_numeral]; walk_at "d"; simp_arith only [wpBody]
  have tail : ∀ {mh1 : MH} {rs b1 : List UInt8} {loc : Fs}, G mh1 x (σ.w rs σ.bf b1 σ.line) → Kp mh σ.d σ.bf mh1 σ.bf → loc 0 = some (.ref x) → b1 ++ rs.takeWhile nam = σ.buf ++ (numL σ.rest).1 → rs.dropWhile nam = (numL σ.rest).2 →
      wpSs (Out.mk0 (C m) band) (tlS (tlS b_Lexer_read_numeral)) ⟨loc, mh1⟩ (retQ Q) (fun st => X st.mh) := by
    intro mh1 rs b1 loc g1 k1 h0 e1 e2
    simp only [tlS, b_Lexer_read_numeral]
    walk_at "n"
    refine namLoop S (n := m) (by lia) g1 k1 h0 fun mh2 g2 k2 => ?_
    rw [e1, e2] at g2
    generalize σ.buf ++ (numL σ.rest).1 = B at g2 hA hB
    generalize (numL σ.rest).2 = R at g2 hB
    have hbo := g2.h.bufO
    have sz := g2.sz
    have sz : B.length + R.length ≤ 1500 := sz
    obtain ⟨hv, hcall⟩ := hnum B (by rw [limN]; lia)
    simp_all_arith only [h0, g2.h.a66, hbo, g2.h.a25]
    refine hcall (by lia) g2.h.limO ?_
    simp_all_arith only [h0]
    rcases hv with hv | ⟨i, hv⟩
    · rw [hv] at hA ⊢
      walk_at "d"; simp_arith only [wpBody]
      simp_all_arith only [h0, g2.h.own 75 301 rfl]
      exact g_error S (by lia) g2 (by simp) (.inl rfl) fun mh' kx => hA rfl mh' (k2.kx kx)
    · rw [hv] at hB ⊢
      walk_at "d"; simp_arith only [wpBody]
      walk_at "n"
      simp_all_arith only [wpBody]
      exact g_tok S (by lia) g2 k2 (hB (by simp))
  have mid : ∀ {mh1 : MH} {rs b1 : List UInt8} {loc : Fs}, G mh1 x (σ.w rs σ.bf b1 σ.line) → Kp mh σ.d σ.bf mh1 σ.bf → loc 0 = some (.ref x) → b1 = σ.buf ++ σ.rest.takeWhile ddot → rs = σ.rest.dropWhile ddot →
      wpSs (Out.mk0 (C m) band) (tlS b_Lexer_read_numeral) ⟨loc, mh1⟩ (retQ Q) (fun st => X st.mh) := by
    intro mh1 rs b1 loc g1 k1 h0 e1 e2
    have n1 : (numL σ.rest).1 = σ.rest.takeWhile ddot ++ ((expL rs).1 ++ (expL rs).2.takeWhile nam) := by rw [e2]; rfl
    have n2 : (numL σ.rest).2 = (expL rs).2.dropWhile nam := by rw [e2]; rfl
    have sz1 : b1.length + rs.length ≤ 1500 := g1.sz
    simp only [tlS, b_Lexer_read_numeral] at tail ⊢
    have l2' : 2 ≤ LIM := l2
    simp_all_arith only [h0, l2', g1.h.own 116 343 rfl]
    cases rs with
    | nil =>
      refine c_keep_if S (by lia) g1.h (by show b1.length < _; lia) (t := false) rfl (fun q => by cases q) ⟨fun u_ => ?_, fun q => by cases q⟩
      walk_at "d"; simp_arith only [wpBody]
      walk_at "n"
      exact tail g1 k1 h0 (by rw [n1, e1]; simp [expL]) (by rw [n2]; rfl)
    | cons f rs =>
      have d1 : ((f.toNat : Int) == 69) = decide (f = 69) := u8eq (k := 69) (by lia)
      have d2 : ((f.toNat : Int) == 101) = decide (f = 101) := u8eq (k := 101) (by lia)
      have hm : memV (.int (sg (σ.w (f :: rs) σ.bf b1 σ.line).rest)) (.tup [.int 69, .int 101]) = some (decide (f = 69 ∨ f = 101)) := by
        show memV (.int (f.toNat : Int)) _ = _
        rw [memV2, d1, d2]
        by_cases a : f = 69 <;> by_cases b : f = 101 <;> simp [a, b]
      simp only [List.length_cons] at sz1
      refine c_keep_if S (by lia) g1.h (by show b1.length < _; lia) hm (fun u_ => by show f :: rs ≠ []; simp) ⟨fun hf => ?_, fun hf c0 r0 mh2 hc0 h2 k2 => ?_⟩
      · have hz : ¬ (f = 69 ∨ f = 101) := by simpa using hf
        have ex : expL (f :: rs) = ([], f :: rs) := by rw [expL, if_neg hz]
        try walk_at "d"; simp_arith only [wpBody]
        walk_at "n"
        exact tail g1 k1 h0 (by rw [n1, e1, ex]; simp) (by rw [n2, ex])
      · have hz : f = 69 ∨ f = 101 := by simpa using hf
        have hc0 : f :: rs = c0 :: r0 := hc0
        cases hc0
        have fN : isN f = false := by rcases hz with rfl | rfl <;> rfl
        have g2 : G mh2 x (σ.w rs σ.bf (b1 ++ [f]) σ.line) := ⟨h2, by
          have := (head_at g1.h (c := f) (r := rs) rfl).2.2
          show Lines σ.T ({ σ.w (f :: rs) σ.bf b1 σ.line with rest := rs } : LS).pos σ.line
          rw [this]; exact lines_move g1.h g1.ln rfl fN, by show (b1 ++ [f]).length + rs.length ≤ 1500; simp; lia⟩
        try walk_at "d"; simp_arith only [wpBody]
        simp_all_arith only [h0, l2', g2.h.own 116 343 rfl]
        cases rs with
        | nil =>
          have ex : expL [f] = ([f], []) := by rw [expL, if_pos hz]; rfl
          refine c_keep_if S (by lia) g2.h (by show (b1 ++ [f]).length < _; simp; lia) (t := false) rfl (fun q => by cases q) ⟨fun u_ => ?_, fun q => by cases q⟩
          try walk_at "d"; simp_arith only [wpBody]
          walk_at "n"
          exact tail g2 (k1.trans k2) h0 (by rw [n1, e1, ex]; simp) (by rw [n2, ex])
        | cons d u =>
          have d3 : ((d.toNat : Int) == 43) = decide (d = 43) := u8eq (k := 43) (by lia)
          have d4 : ((d.toNat : Int) == 45) = decide (d = 45) := u8eq (k := 45) (by lia)
          have hm2 : memV (.int (sg (σ.w (d :: u) σ.bf (b1 ++ [f]) σ.line).rest)) (.tup [.int 43, .int 45]) = some (decide (d = 43 ∨ d = 45)) := by
            show memV (.int (d.toNat : Int)) _ = _
            rw [memV2, d3, d4]
            by_cases a : d = 43 <;> by_cases b : d = 45 <;> simp [a, b]
          have szd : (b1 ++ [f]).length + (d :: u).length ≤ 1500 := g2.sz
          simp only [List.length_cons] at szd
          refine c_keep_if S (by lia) g2.h (by show (b1 ++ [f]).length < _; lia) hm2 (fun u_ => by show d :: u ≠ []; simp) ⟨fun hf2 => ?_, fun hf2 c0 r0 mh3 hc0 h3 k3 => ?_⟩
          · have hz2 : ¬ (d = 43 ∨ d = 45) := by simpa using hf2
            have ex : expL (f :: d :: u) = ([f], d :: u) := by rw [expL, if_pos hz, expG, if_neg hz2]
            try walk_at "d"; simp_arith only [wpBody]
            walk_at "n"
            exact tail g2 (k1.trans k2) h0 (by rw [n1, e1, ex]; simp) (by rw [n2, ex])
          · have hz2 : d = 43 ∨ d = 45 := by simpa using hf2
            have hc0 : d :: u = c0 :: r0 := hc0
            cases hc0
            have dN : isN d = false := by rcases hz2 with rfl | rfl <;> rfl
            have g3 : G mh3 x (σ.w u σ.bf (b1 ++ [f] ++ [d]) σ.line) := ⟨h3, by
              have := (head_at g2.h (c := d) (r := u) rfl).2.2
              show Lines σ.T ({ σ.w (d :: u) σ.bf (b1 ++ [f]) σ.line with rest := u } : LS).pos σ.line
              rw [this]; exact lines_move g2.h g2.ln rfl dN, by show (b1 ++ [f] ++ [d]).length + u.length ≤ 1500; rw [List.length_append]; simp only [List.length_cons, List.length_nil]; lia⟩
            have ex : expL (f :: d :: u) = ([f, d], u) := by rw [expL, if_pos hz, expG, if_pos hz2]
            try walk_at "d"; simp_arith only [wpBody]
            walk_at "n"
            exact tail g3 (k1.trans (k2.trans k3)) h0 (by rw [n1, e1, ex]; simp) (by rw [n2, ex])
  simp only [tlS, b_Lexer_read_numeral] at mid
  simp_all_arith only [wpBody]
  refine ⟨W_g_numeral x σ mh, ⟨_, by first | rfl | simp [Fs.set], σ.rest, [], by rw [List.append_nil]; exact g, Kp.refl, rfl, rfl, rfl⟩, ?_⟩
  rintro n ⟨loc, mh2⟩ ⟨h0, ts, w, g2, k2, e1, e2, rfl⟩
  dsimp only at h0 g2 k2 ⊢
  walk_at "d"; simp_arith only [h0, g2.h.a45, show (σ.w ts σ.bf (σ.buf ++ w) σ.line).rest = ts from rfl]
  refine c_is_digit S (by lia) ?_
  have stop : (∀ c r, ts = c :: r → ddot c = false) → wpSs (Out.mk0 (C m) band) (tlS b_Lexer_read_numeral) ⟨loc, mh2⟩ (retQ Q) (fun st => X st.mh) := fun hs => by
    obtain ⟨s1, s2⟩ := tw_stop (p := ddot) (l := ts) hs
    rw [s1, List.append_nil] at e1
    rw [s2] at e2
    simp only [tlS, b_Lexer_read_numeral]
    exact mid g2 k2 h0 (by rw [e1]) e2
  simp only [tlS, b_Lexer_read_numeral] at stop
  have go : ∀ c r, ts = c :: r → ddot c = true → C m 336 [.ref x] mh2 (fun u_ mh9 => wpSs (Out.mk0 (C m) band) .nil ⟨loc, mh9⟩ (fun f st => match f with
      | .next => ∃ k, k < ts.length ∧ W_g_numeral x σ mh k st
      | .brk => wpSs (Out.mk0 (C m) band) (tlS b_Lexer_read_numeral) st (retQ Q) (fun st => X st.mh)
      | .ret v => Q v st.mh) (fun st => X st.mh)) (fun mh => X mh) := by
    rintro c r rfl hc
    have cN : isN c = false := by
      unfold ddot at hc
      rcases Bool.or_eq_true_iff.mp hc with h | h
      · exact dig_nN h
      · rw [beq_iff_eq.mp h]; rfl
    refine g_kam S (by lia) g2 (c := c) (r := r) rfl cN fun mh3 g3 k3 => ?_
    walk_at "n"
    obtain ⟨s1, s2⟩ := tw_step (p := ddot) (r := r) hc
    refine ⟨r.length, by simp, h0, r, w ++ [c], ?_, k2.trans k3, by rw [List.append_assoc, ← e1, s1]; rfl, by rw [← e2, s2], rfl⟩
    have : (σ.w (c :: r) σ.bf (σ.buf ++ w) σ.line).buf ++ [c] = σ.buf ++ (w ++ [c]) := by show σ.buf ++ w ++ _ = _; simp
    rw [this] at g3
    exact g3
  simp only [tlS, b_Lexer_read_numeral] at go
  cases ts with
  | nil =>
    have q1 : isDig (sg []) = false := by decide
    have q2 : (sg [] == 46) = false := by decide
    walk_at "d"; simp_arith only [q1, h0, g2.h.a45, show (σ.w [] σ.bf (σ.buf ++ w) σ.line).rest = [] from rfl, q2]
    exact stop fun c r q => by cases q
  | cons f ts =>
    have hsg : sg (f :: ts) = (f.toNat : Int) := rfl
    have d46 : ((f.toNat : Int) == 46) = (f == 46) := by
      have d : ((f.toNat : Int) == 46) = decide (f = 46) := u8eq (k := 46) (by lia)
      rw [d]
      by_cases z : f = 46
      · simp [z]
      · simp [z]
    cases hd : isDig (f.toNat : Int)
    · walk_at "d"; simp_arith only [hsg, hd, h0, g2.h.a45, show (σ.w (f :: ts) σ.bf (σ.buf ++ w) σ.line).rest = f :: ts from rfl, d46]
      cases hz : (f == 46)
      · walk_at "d"; simp_arith only [wpBody]
        exact stop fun c r q => by cases q; unfold ddot; rw [hd, hz]; rfl
      · walk_at "d"; simp_arith only [wpBody]
        simp_all_arith only [h0, g2.h.own 83 336 rfl]
        exact go f ts rfl (by unfold ddot; rw [hz]; simp)
    · walk_at "d"; simp_arith only [hsg, hd]
      simp_all_arith only [h0, g2.h.own 83 336 rfl]
      exact go f ts rfl (by unfold ddot; rw [hd]; rfl)
end
end Lx
namespace Lx
abbrev Tk := Option (Int × V) × List UInt8
noncomputable def ResQ (mh : MH) (x : Ad) (σ : LS) (res : Option Tk) (Q : V → MH → Prop) (X : MH → Prop) : Prop := match res with
  | none => ∀ mh', Kx mh σ.d σ.bf mh' → X mh'
  | some (none, r') => TokQ mh x σ 287 .none r' Q
  | some (some (k, v), r') => TokQ mh x σ k v r' Q
theorem TokQ.step {mh mh1 : MH} {x : Ad} {σ : LS} {r : List UInt8} {b : Ad} {bu : List UInt8} {li : Nat} {k : Int} {v : V} {r' : List UInt8} {Q : V → MH → Prop} (kp : Kp mh σ.d σ.bf mh1 b) (h : TokQ mh x σ k v r' Q) : TokQ mh1 x (σ.w r b bu li) k v r' Q :=
  fun tk mh' bf buf line g kp' hn t => h tk mh' bf buf line g (kp.trans kp') (by
    cases q : mh tk with
    | none => rfl
    | some o => exact absurd hn (kp.alive tk (by rw [q]; simp))) t
theorem ResQ.step {mh mh1 : MH} {x : Ad} {σ : LS} {r : List UInt8} {b : Ad} {bu : List UInt8} {li : Nat} {res : Option Tk} {Q : V → MH → Prop} {X : MH → Prop} (kp : Kp mh σ.d σ.bf mh1 b) (h : ResQ mh x σ res Q X) : ResQ mh1 x (σ.w r b bu li) res Q X := by
  match res, h with
  | none, h => exact fun mh' kx => h mh' (kp.kx kx)
  | some (none, r'), h => exact TokQ.step kp h
  | some (some (k, v), r'), h => exact TokQ.step kp h
theorem sgd {c : UInt8} {r : List UInt8} {k : Nat} (hk : k < 256) : (sg (c :: r) == (k : Int)) = decide (c = UInt8.ofNat k) := u8eq hk
noncomputable def begF (r2 : List UInt8) : List UInt8 := if isNL (sg r2) then afterNL r2 else r2
noncomputable def brackF (r : List UInt8) : Option Tk := match (eqsF r).2 with
  | 91 :: r2 => (longL (eqsF r).1 true (begF r2) []).map fun p => (some (286, .bytes p.2), p.1)
  | l => if (eqsF r).1 = 0 then some (some (91, .none), l) else none
noncomputable def numF (num : List UInt8 → V) (b l : List UInt8) : Option Tk := if isNone (num (b ++ (numL l).1)) then none else some (some (284, num (b ++ (numL l).1)), (numL l).2)
noncomputable def dotsF (num : List UInt8 → V) (r : List UInt8) : Option Tk := match r with
  | 46 :: 46 :: r2 => some (some (279, .none), r2)
  | 46 :: r2 => some (some (278, .none), r2)
  | c :: r2 => if isDig (c.toNat : Int) then numF num [46] (c :: r2) else some (some (46, .none), c :: r2)
  | [] => some (some (46, .none), [])
noncomputable def cmpF (c : UInt8) (r : List UInt8) : Option Tk := match r with
  | 61 :: r2 => some (some (if c = 61 then 280 else if c = 60 then 282 else if c = 62 then 281 else 283, .none), r2)
  | l => some (some ((c.toNat : Int), .none), l)
noncomputable def lineF (l : List UInt8) : List UInt8 := l.dropWhile fun c => !isN c
noncomputable def comF (l : List UInt8) : Option (List UInt8) := match l with
  | 91 :: r => (match (eqsF r).2 with
    | 91 :: r2 => (longL (eqsF r).1 false (begF r2) []).map (·.1)
    | l => some (lineF l))
  | l => some (lineF l)
inductive W_g_comment (x : Ad) (σ : LS) (mh : MH) (bf : Ad) (li : Nat) (rs : List UInt8) (r : List UInt8) (n : Nat) (st : St) : Prop
  | mk (i1 : st.loc 0 = some (.ref x)) (ts : List UInt8) (i2 : G st.mh x (σ.w ts bf [] li)) (i3 : Kp mh σ.d σ.bf st.mh bf) (i4 : lineF ts = lineF rs) (i5 : ts.length ≤ r.length) (i6 : n = ts.length)
section
variable {C : Nat → Ad → List V → MH → (V → MH → Prop) → (MH → Prop) → Prop} {band : Int → Int → Int} (S : Sys C band)
include S
set_option tactic.hygienic true in
theorem g_bracket {n : Nat} (hn : 7 ≤ n) {mh : MH} {x : Ad} {σ : LS} (g : G mh x σ) {r : List UInt8} (hr : σ.rest = 91 :: r) {Q X} (hQ : ResQ mh x σ (brackF r) Q X) : C n 420 [.ref x] mh Q X := by
  refine fn1 S (ps := p_Lexer_read_bracket) (b := b_Lexer_read_bracket) (by exact List.mem_of_getElem? (i := 39) rfl) (by lia) rfl fun m e => ?_
  dsimp only [p_Lexer_read_bracket, b_Lexer_read_bracket]; walk_at "d"; simp_arith only [wpBody]
  simp_all_arith only [g.h.own 110 427 rfl]
  refine g_level S (by lia) g hr rfl fun mh1 g1 k1 => ?_
  by_cases hz : sg (eqsF r).2 = (91 : UInt8).toNat
  · obtain ⟨r2, h2⟩ : ∃ r2, (eqsF r).2 = 91 :: r2 := by
      obtain ⟨r2, h, _⟩ := brF_tail (c := 91) (level := (eqsF r).1) (r := r) (by unfold brF; simp [hz])
      exact ⟨r2, h⟩
    have hR : brackF r = (longL (eqsF r).1 true (begF r2) []).map fun p => (some (286, .bytes p.2), p.1) := by unfold brackF; rw [h2]; rfl
    rw [hR] at hQ
    have q : (0 : Int) ≤ ((eqsF r).1 : Int) := by lia
    rw [if_pos hz]
    simp_all_arith only [q]
    simp_all_arith only [g1.h.own 111 434 rfl]
    refine g_long S (by lia) g1 (c := 91) (r := r2) h2 rfl ?_ ?_
    · intro hL mh' kx
      have hL : longL (eqsF r).1 true (begF r2) [] = none := hL
      rw [hL] at hQ
      exact hQ mh' (k1.kx kx)
    · intro r' acc hL mh2 bf buf line g2 k2 hlt
      have hL : longL (eqsF r).1 true (begF r2) [] = some (r', acc) := hL
      rw [hL] at hQ
      try walk_at "d"; simp_arith only [wpBody]
      exact g_tok S (by lia) g2 (k1.trans k2) hQ
  · have hR : brackF r = if (eqsF r).1 = 0 then some (some (91, .none), (eqsF r).2) else none := by
      unfold brackF
      split
      · rename_i r2 h2; rw [h2] at hz; exact absurd rfl hz
      · rfl
    rw [hR] at hQ
    rw [if_neg hz]
    by_cases k0 : (eqsF r).1 = 0
    · rw [if_pos k0] at hQ
      have q1 : ¬ ((0 : Int) ≤ -((eqsF r).1 : Int) - 1) := by lia
      have q2 : ¬ (-((eqsF r).1 : Int) - 1 < -1) := by lia
      simp_all_arith only [q1]
      walk_at "n"
      simp_all_arith only [q2]
      walk_at "n"
      simp_all_arith only [wpBody]
      exact g_tok S (by lia) g1 k1 hQ
    · rw [if_neg k0] at hQ
      have q1 : ¬ ((0 : Int) ≤ -((eqsF r).1 : Int) - 1) := by lia
      have q2 : (-((eqsF r).1 : Int) - 1 < -1) := by lia
      simp_all_arith only [q1]
      walk_at "n"
      simp_all_arith only [q2]
      simp_all_arith only [g1.h.own 75 301 rfl]
      exact g_error S (by lia) g1 (by simp) (.inr (.inl rfl)) fun mh' kx => hQ mh' (k1.kx kx)
set_option tactic.hygienic true in
theorem g_compared {n : Nat} (hn : 3 ≤ n) {mh : MH} {x : Ad} {σ : LS} (g : G mh x σ) {c : UInt8} {r : List UInt8} (hr : σ.rest = c :: r) (hc : isN c = false) {Q X} (hQ : ResQ mh x σ (cmpF c r) Q X) : C n 392 [.ref x, .int (c.toNat : Int)] mh Q X := by
  refine fn1 S (ps := p_Lexer_read_compared) (b := b_Lexer_read_compared) (by exact List.mem_of_getElem? (i := 35) rfl) (by lia) rfl fun m e => ?_
  dsimp only [p_Lexer_read_compared, b_Lexer_read_compared]; walk_at "d"; simp_arith only [wpBody]
  simp_all_arith only [g.h.own 81 322 rfl]
  refine g_move S (by lia) g hr hc fun mh1 g1 k1 => ?_
  have other : (∀ r2, r ≠ 61 :: r2) → cmpF c r = some (some ((c.toNat : Int), .none), r) := fun h => by
    unfold cmpF; split
    · rename_i r2; exact absurd rfl (h r2)
    · rfl
  cases r with
  | nil =>
    have q : (sg [] == 61) = false := by decide
    rw [other (by intro r2 q; cases q)] at hQ
    simp_all_arith only [g1.h.a45, q]
    simp_all_arith only [wpBody]
    exact g_tok S (by lia) (r' := []) (bf := σ.bf) (buf := σ.buf) (line := σ.line) g1 k1 hQ
  | cons f ts =>
    have d61 : (sg (f :: ts) == 61) = decide (f = 61) := sgd (k := 61) (by lia)
    by_cases z : f = 61
    · subst z
      have hR : cmpF c (61 :: ts) = some (some (if c = 61 then 280 else if c = 60 then 282 else if c = 62 then 281 else 283, .none), ts) := rfl
      rw [hR] at hQ
      simp_all_arith only [g1.h.a45, d61]
      walk_at "n"
      simp_all_arith only [g1.h.own 81 322 rfl]
      refine g_move S (by lia) g1 (c := 61) (r := ts) rfl rfl fun mh2 g2 k2 => ?_
      have e61 : ((c.toNat : Int) == 61) = decide (c = 61) := u8eq (k := 61) (by lia)
      have e60 : ((c.toNat : Int) == 60) = decide (c = 60) := u8eq (k := 60) (by lia)
      have e62 : ((c.toNat : Int) == 62) = decide (c = 62) := u8eq (k := 62) (by lia)
      have g2' : G mh2 x (σ.w ts σ.bf σ.buf σ.line) := g2
      by_cases z1 : c = 61
      · rw [if_pos z1] at hQ
        simp_all_arith only [e61, z1]
        simp_all_arith only [wpBody]
        exact g_tok S (by lia) g2' (k1.trans k2) hQ
      · rw [if_neg z1] at hQ
        simp_all_arith only [e61, z1]
        walk_at "n"
        by_cases z2 : c = 60
        · rw [if_pos z2] at hQ
          simp_all_arith only [e60, z2]
          simp_all_arith only [wpBody]
          exact g_tok S (by lia) g2' (k1.trans k2) hQ
        · rw [if_neg z2] at hQ
          simp_all_arith only [e60, z2]
          walk_at "n"
          by_cases z3 : c = 62
          · rw [if_pos z3] at hQ
            simp_all_arith only [e62, z3]
            exact g_tok S (by lia) g2' (k1.trans k2) hQ
          · rw [if_neg z3] at hQ
            simp_all_arith only [e62, z3]
            exact g_tok S (by lia) g2' (k1.trans k2) hQ
    · rw [other (by intro r2 q; cases q; exact z rfl)] at hQ
      simp_all_arith only [g1.h.a45, d61, z]
      simp_all_arith only [wpBody]
      exact g_tok S (by lia) (r' := f :: ts) (bf := σ.bf) (buf := σ.buf) (line := σ.line) g1 k1 hQ
set_option tactic.hygienic true in
theorem g_comment {n : Nat} (hn : 7 ≤ n) {mh : MH} {x : Ad} {σ : LS} (g : G mh x σ) {r : List UInt8} (hr : σ.rest = 45 :: 45 :: r) (hbuf : σ.buf = []) {Q X}
    (hA : comF r = none → ∀ mh', Kx mh σ.d σ.bf mh' → X mh')
    (hB : ∀ r', comF r = some r' → ∀ mh' bf line, r'.length ≤ r.length → G mh' x (σ.w r' bf [] line) → Kp mh σ.d σ.bf mh' bf → Q .none mh') : C n 385 [.ref x] mh Q X := by
  refine fn1 S (ps := p_Lexer_skip_comment) (b := b_Lexer_skip_comment) (by exact List.mem_of_getElem? (i := 34) rfl) (by lia) rfl fun m e => ?_
  dsimp only [p_Lexer_skip_comment, b_Lexer_skip_comment]; walk_at "d"; simp_arith only [wpBody]
  simp_all_arith only [g.h.own 81 322 rfl]
  refine g_move S (by lia) g hr rfl fun mh1 g1 k1 => ?_
  simp_all_arith only [g1.h.own 81 322 rfl]
  refine g_move S (by lia) g1 (c := 45) (r := r) rfl rfl fun mh2 g2 k2 => ?_
  have k12 := k1.trans k2
  have line : ∀ {mh3 : MH} {rs : List UInt8} {bf : Ad} {li : Nat} {loc : Fs}, G mh3 x (σ.w rs bf [] li) → Kp mh σ.d σ.bf mh3 bf → loc 0 = some (.ref x) → comF r = some (lineF rs) → rs.length ≤ r.length →
      wpSs (Out.mk0 (C m) band) (tlS (tlS (tlS b_Lexer_skip_comment))) ⟨loc, mh3⟩ (retQ Q) (fun st => X st.mh) := by
    intro mh3 rs bf li loc g3 k3 h0 hF hle
    simp only [tlS, b_Lexer_skip_comment]
    simp_all_arith only [wpBody]
    refine ⟨W_g_comment x σ mh bf li rs r, ⟨_, h0, rs, g3, k3, rfl, hle, rfl⟩, ?_⟩
    rintro n ⟨loc', mh4⟩ ⟨i0, ts, g4, k4, e1, hle4, rfl⟩
    dsimp only at i0 g4 k4 ⊢
    walk_at "d"; simp_arith only [i0, g4.h.a45, show (σ.w ts bf [] li).rest = ts from rfl]
    refine c_is_newline S (by lia) ?_
    cases hz : isNL (sg ts)
    · cases ts with
      | nil =>
        have q : (sg [] == -1) = true := by decide
        walk_at "d"; simp_arith only [i0, g4.h.a45, show (σ.w [] bf [] li).rest = [] from rfl, q]
        walk_at "n"
        refine hB _ hF mh4 bf li ?_ ?_ k4
        · rw [← e1]; exact Nat.zero_le _
        · rw [← e1]; exact g4
      | cons f ts =>
        have q : (sg (f :: ts) == -1) = false := by rw [beq_eq_false_iff_ne]; show ¬ (f.toNat : Int) = -1; lia
        have hN : isN f = false := hz
        walk_at "d"; simp_arith only [i0, g4.h.a45, show (σ.w (f :: ts) bf [] li).rest = f :: ts from rfl, q]
        simp_all_arith only [i0, g4.h.own 81 322 rfl]
        refine g_move S (by lia) g4 (c := f) (r := ts) rfl hN fun mh5 g5 k5 => ?_
        walk_at "n"
        refine ⟨ts.length, by simp, i0, ts, g5, k4.trans k5, ?_, by simp only [List.length_cons] at hle4; lia, rfl⟩
        rw [← e1]
        unfold lineF
        rw [List.dropWhile_cons_of_pos (by simp [hN])]
    · walk_at "d"; simp_arith only [wpBody]
      walk_at "n"
      have hs : lineF ts = ts := by
        cases ts with
        | nil => rfl
        | cons f ts =>
          have hN : isN f = true := hz
          unfold lineF; rw [List.dropWhile_cons_of_neg (by simp [hN])]
      refine hB _ hF mh4 bf li ?_ ?_ k4
      · rw [← e1, hs]; exact hle4
      · rw [← e1, hs]; exact g4
  simp only [tlS, b_Lexer_skip_comment] at line
  have g2' : G mh2 x (σ.w r σ.bf [] σ.line) := by rw [hbuf] at g2; exact g2
  by_cases hb : ∃ r1, r = 91 :: r1
  · obtain ⟨r1, rfl⟩ := hb
    have q : (sg (91 :: r1) == 91) = true := rfl
    simp_all_arith only [g2.h.a45, q]
    simp_all_arith only [g2.h.own 110 427 rfl]
    refine g_level S (by lia) g2 (c := 91) (r := r1) rfl rfl fun mh3 g3 k3 => ?_
    simp_all_arith only [g3.h.own 88 350 rfl]
    refine g_clear S (by lia) g3 fun mh4 b g4 k4 => ?_
    have k34 := k12.trans (k3.trans k4)
    have el := eqsF_len r1
    by_cases hz : sg (eqsF r1).2 = (91 : UInt8).toNat
    · obtain ⟨r2, h2⟩ : ∃ r2, (eqsF r1).2 = 91 :: r2 := by
        obtain ⟨r2, h, _⟩ := brF_tail (c := 91) (level := (eqsF r1).1) (r := r1) (by unfold brF; simp [hz])
        exact ⟨r2, h⟩
      have hR : comF (91 :: r1) = (longL (eqsF r1).1 false (begF r2) []).map (·.1) := by unfold comF; simp only [h2]
      rw [hR] at hA hB
      have q : (0 : Int) ≤ ((eqsF r1).1 : Int) := by lia
      rw [if_pos hz]
      simp_all_arith only [q]
      simp_all_arith only [g4.h.own 111 434 rfl]
      refine g_long S (by lia) g4 (c := 91) (r := r2) h2 rfl ?_ ?_
      · intro hL mh' kx
        have hL : longL (eqsF r1).1 false (begF r2) [] = none := hL
        rw [hL] at hA
        exact hA rfl mh' (k34.kx kx)
      · intro r' acc hL mh5 bf buf li g5 k5 hlt
        have hL : longL (eqsF r1).1 false (begF r2) [] = some (r', acc) := hL
        rw [hL] at hB
        simp_all_arith only [g5.h.own 88 350 rfl]
        refine g_clear S (by lia) g5 fun mh6 b6 g6 k6 => ?_
        simp_all_arith only [wpBody]
        rw [h2] at el
        simp only [List.length_cons] at el
        exact hB r' rfl mh6 b6 li (by simp only [List.length_cons]; lia) g6 (k34.trans (k5.trans k6))
    · have q : ¬ ((0 : Int) ≤ -((eqsF r1).1 : Int) - 1) := by lia
      rw [if_neg hz]
      simp_all_arith only [q]
      walk_at "n"; walk_at "n"
      refine line (rs := (eqsF r1).2) g4 k34 (by first | rfl | simp [Fs.set]) ?_ (by simp only [List.length_cons]; lia)
      unfold comF
      simp only []
      split
      · rename_i r2 h2; rw [h2] at hz; exact absurd rfl hz
      · rfl
  · have hs : (sg r == 91) = false := by
      cases r with
      | nil => decide
      | cons f ts =>
        rw [show (sg (f :: ts) == 91) = decide (f = 91) from sgd (k := 91) (by lia)]
        simp only [decide_eq_false_iff_not]
        rintro rfl; exact hb ⟨ts, rfl⟩
    simp_all_arith only [g2.h.a45, show ({ σ with rest := r } : LS).rest = r from rfl, hs]
    walk_at "n"
    refine line g2' k12 (by first | rfl | simp [Fs.set]) ?_ (Nat.le_refl _)
    unfold comF
    split
    · rename_i r1; exact absurd ⟨r1, rfl⟩ hb
    · rfl
end
end Lx
namespace Lx
noncomputable def blkD (r : List UInt8) : Option (Option (List UInt8)) := match r with
  | 45 :: r2 => (comF r2).map some
  | _ => some none
noncomputable def blk1 (l : List UInt8) : Option (Option (List UInt8)) := match l with
  | [] => some none
  | c :: r => if isN c then some (some (afterNL (c :: r))) else if isBlk (c.toNat : Int) then some (some r) else if c = 45 then blkD r else some none
theorem blk1_c {c : UInt8} {r : List UInt8} : blk1 (c :: r) = if isN c then some (some (afterNL (c :: r))) else if isBlk (c.toNat : Int) then some (some r) else if c = 45 then blkD r else some none := rfl
noncomputable def blankL (l : List UInt8) : Option (List UInt8) := lenFix List.length (fun l rec => match blk1 l with
  | none => none
  | some none => some l
  | some (some r) => if h : r.length < l.length then rec r h else none) l
theorem blankL_eq (l : List UInt8) : blankL l = (match blk1 l with
  | none => none
  | some none => some l
  | some (some r) => if h : r.length < l.length then blankL r else none) := lenFix_eq
noncomputable def lexT (num : List UInt8 → V) (c : UInt8) (r : List UInt8) : Option Tk :=
  if c = 34 ∨ c = 39 then (strL c r []).map fun p => (some (286, .bytes p.2), p.1)
  else if c = 91 then brackF r
  else if c = 46 then dotsF num r
  else if isDig (c.toNat : Int) then numF num [] (c :: r)
  else if isLet (c.toNat : Int) then some (some (wordF ((c :: r).takeWhile nam)), (c :: r).dropWhile nam)
  else if c = 45 then some (some (45, .none), r)
  else if c = 61 ∨ c = 60 ∨ c = 62 ∨ c = 126 then cmpF c r
  else some (some ((c.toNat : Int), .none), r)
section
variable {num : List UInt8 → V} {c : UInt8} {r : List UInt8}
theorem lt1 (h : c = 34 ∨ c = 39) : lexT num c r = (strL c r []).map fun p => (some (286, .bytes p.2), p.1) := if_pos h
theorem lt2 : lexT num 91 r = brackF r := by unfold lexT; rw [if_neg (by decide), if_pos rfl]
theorem lt3 : lexT num 46 r = dotsF num r := by unfold lexT; rw [if_neg (by decide), if_neg (by decide), if_pos rfl]
theorem lt4 (z1 : ¬(c = 34 ∨ c = 39)) (z2 : ¬c = 91) (z3 : ¬c = 46) (z4 : isDig (c.toNat : Int) = true) : lexT num c r = numF num [] (c :: r) := by unfold lexT; rw [if_neg z1, if_neg z2, if_neg z3, if_pos z4]
theorem lt5 (z1 : ¬(c = 34 ∨ c = 39)) (z2 : ¬c = 91) (z3 : ¬c = 46) (z4 : isDig (c.toNat : Int) = false) (z5 : isLet (c.toNat : Int) = true) : lexT num c r = some (some (wordF ((c :: r).takeWhile nam)), (c :: r).dropWhile nam) := by unfold lexT; rw [if_neg z1, if_neg z2, if_neg z3, if_neg (by rw [z4]; exact Bool.false_ne_true), if_pos z5]
theorem lt6 : lexT num 45 r = some (some (45, .none), r) := by unfold lexT; rw [if_neg (by decide), if_neg (by decide), if_neg (by decide), if_neg (by decide), if_neg (by decide), if_pos rfl]
theorem lt7 (z1 : ¬(c = 34 ∨ c = 39)) (z2 : ¬c = 91) (z3 : ¬c = 46) (z4 : isDig (c.toNat : Int) = false) (z5 : isLet (c.toNat : Int) = false) (z6 : ¬c = 45) : lexT num c r = if c = 61 ∨ c = 60 ∨ c = 62 ∨ c = 126 then cmpF c r else some (some ((c.toNat : Int), .none), r) := by unfold lexT; rw [if_neg z1, if_neg z2, if_neg z3, if_neg (by rw [z4]; exact Bool.false_ne_true), if_neg (by rw [z5]; exact Bool.false_ne_true), if_neg z6]
end
noncomputable def lexR (num : List UInt8 → V) (l : List UInt8) : Option Tk := match blankL l with
  | none => none
  | some [] => some (none, [])
  | some (c :: r) => lexT num c r
theorem memV2' {i a b : Int} {p : Prop} [Decidable p] (h : (i == a || (i == b || false)) = decide p) : memV (.int i) (.tup [.int a, .int b]) = some (decide p) := by rw [memV2, h]
inductive W_g_read (x : Ad) (σ : LS) (mh : MH) (n : Nat) (st : St) : Prop
  | mk (i1 : st.loc 0 = some (.ref x)) (ts : List UInt8) (bf : Ad) (line : Nat) (i2 : G st.mh x (σ.w ts bf [] line)) (i3 : Kp mh σ.d σ.bf st.mh bf) (i4 : blankL σ.rest = blankL ts) (i5 : n = ts.length)
section
variable {C : Nat → Ad → List V → MH → (V → MH → Prop) → (MH → Prop) → Prop} {band : Int → Int → Int} (S : Sys C band)
include S
set_option tactic.hygienic true in
theorem g_blank {n : Nat} (hn : 8 ≤ n) {mh : MH} {x : Ad} {σ : LS} (g : G mh x σ) (hbuf : σ.buf = []) {Q X}
    (hA : blk1 σ.rest = none → ∀ mh', Kx mh σ.d σ.bf mh' → X mh')
    (hB : blk1 σ.rest = some none → (∀ c r, σ.rest = c :: r → isN c = false) → Q (.bool false) mh)
    (hC : ∀ r', blk1 σ.rest = some (some r') → r'.length < σ.rest.length → ∀ mh' bf line, G mh' x (σ.w r' bf [] line) → Kp mh σ.d σ.bf mh' bf → Q (.bool true) mh') : C n 371 [.ref x] mh Q X := by
  refine fn1 S (ps := p_Lexer_skip_blank) (b := b_Lexer_skip_blank) (by exact List.mem_of_getElem? (i := 32) rfl) (by lia) rfl fun m e => ?_
  dsimp only [p_Lexer_skip_blank, b_Lexer_skip_blank]; walk_at "d"; simp_arith only [wpBody]
  simp_all_arith only [g.h.a45]
  refine c_is_newline S (by lia) ?_
  have hw : σ = σ.w σ.rest σ.bf σ.buf σ.line := rfl
  cases hr : σ.rest with
  | nil =>
    rw [hr] at hB
    have q1 : isNL (sg []) = false := by decide
    have q2 : isBlk (sg []) = false := by decide
    have q3 : (sg [] == 45) = false := by decide
    walk_at "d"; simp_arith only [q1]
    walk_at "n"
    simp_all_arith only [g.h.a45, hr]
    refine c_is_blank S (by lia) ?_
    walk_at "d"; simp_arith only [q2]
    walk_at "n"
    simp_all_arith only [g.h.a45, hr, q3]
    walk_at "n"
    simp_all_arith only [wpBody]
    exact hB rfl (fun c r q => by cases q)
  | cons c r =>
    rw [hr] at hA hB hC
    have hs : sg (c :: r) = (c.toNat : Int) := rfl
    cases hN : isN c
    · have hN' : isNL (c.toNat : Int) = false := hN
      walk_at "d"; simp_arith only [hs, hN']
      walk_at "n"
      simp_all_arith only [g.h.a45, hr, hs]
      refine c_is_blank S (by lia) ?_
      cases hBk : isBlk (c.toNat : Int)
      · walk_at "d"; simp_arith only [wpBody]
        walk_at "n"
        have d45 : ((c.toNat : Int) == 45) = decide (c = 45) := u8eq (k := 45) (by lia)
        by_cases z : c = 45
        · subst z
          simp_all_arith only [g.h.a45, hr, hs, d45, g.h.own 107 378 rfl]
          refine c_behind S (by lia) g.h (by rw [hr]; simp) ?_
          rw [hr]
          cases r with
          | nil =>
            have q3 : (sg (List.tail [(45 : UInt8)]) == 45) = false := by decide
            walk_at "d"; simp_arith only [q3]
            walk_at "n"
            simp_all_arith only [wpBody]
            exact hB rfl (fun c r q => by cases q; rfl)
          | cons f ts =>
            have hs2 : (sg (List.tail (45 :: f :: ts)) == 45) = decide (f = 45) := sgd (k := 45) (by lia)
            by_cases z2 : f = 45
            · subst z2
              have hE : blk1 (45 :: 45 :: ts) = (comF ts).map some := rfl
              walk_at "d"; simp_arith only [hs2]
              simp_all_arith only [g.h.own 108 385 rfl]
              refine g_comment S (by lia) g hr hbuf ?_ ?_
              · intro hq mh' kx
                rw [hE, hq] at hA
                exact hA rfl mh' kx
              · intro r' hq mh1 bf line hl g1 k1
                rw [hE, hq] at hC
                simp_all_arith only [wpBody]
                exact hC r' rfl (by simp only [List.length_cons]; lia) mh1 bf line g1 k1
            · walk_at "d"; simp_arith only [hs2, z2]
              walk_at "n"
              simp_all_arith only [wpBody]
              refine hB ?_ (fun c r q => by cases q; rfl)
              rw [blk1_c, if_neg (by decide), if_neg (by decide), if_pos rfl]
              unfold blkD
              split
              · rename_i r2 h2; cases h2; exact absurd rfl z2
              · rfl
        · simp_all_arith only [g.h.a45, hr, hs, d45, z]
          walk_at "n"
          simp_all_arith only [wpBody]
          exact hB (by rw [blk1_c, if_neg (by rw [hN]; simp), if_neg (by rw [hBk]; simp), if_neg z]) (fun c' r' q => by cases q; exact hN)
      · have hE : blk1 (c :: r) = some (some r) := by rw [blk1_c, if_neg (by rw [hN]; simp), if_pos hBk]
        walk_at "d"; simp_arith only [wpBody]
        simp_all_arith only [g.h.own 81 322 rfl]
        refine g_move S (by lia) g hr hN fun mh1 g1 k1 => ?_
        simp_all_arith only [wpBody]
        rw [hbuf] at g1
        exact hC r hE (by simp) mh1 σ.bf σ.line g1 k1
    · have hN' : isNL (c.toNat : Int) = true := hN
      have hE : blk1 (c :: r) = some (some (afterNL (c :: r))) := by rw [blk1_c, if_pos hN]
      walk_at "d"; simp_arith only [hs, hN']
      simp_all_arith only [g.h.own 105 357 rfl]
      refine g_end_line S (by lia) g (by rw [hr]; exact hN') fun mh1 g1 k1 => ?_
      simp_all_arith only [wpBody]
      rw [hr, hbuf] at g1
      exact hC _ hE (afterNL_lt (by simp)) mh1 σ.bf (σ.line + 1) g1 k1
variable {num : List UInt8 → V} (hnum : ∀ b : List UInt8, b.length ≤ LIM → VN (num b) ∧ ∀ {n : Nat} {mh : MH} {lim : Ad} {Q : V → MH → Prop} {X : MH → Prop}, 5 ≤ n → LimOK mh lim → Q (num b) mh → C n 138 [.bytes b, .ref lim] mh Q X)
include hnum
theorem g_num' {n : Nat} (hn : 6 ≤ n) {mh : MH} {x : Ad} {σ : LS} (g : G mh x σ) {Q X} (hQ : ResQ mh x σ (numF num σ.buf σ.rest) Q X) : C n 413 [.ref x] mh Q X := by
  refine g_numeral S hnum hn g ?_ ?_
  · intro h mh' kx
    unfold numF at hQ
    rw [h] at hQ
    exact hQ mh' kx
  · intro h
    unfold numF at hQ
    have : isNone (num (σ.buf ++ (numL σ.rest).1)) = false := by
      cases q : num (σ.buf ++ (numL σ.rest).1) <;> first | rfl | exact absurd q h
    rw [this] at hQ
    exact hQ
theorem g_dots {n : Nat} (hn : 7 ≤ n) {mh : MH} {x : Ad} {σ : LS} (g : G mh x σ) (hb : σ.buf = []) {r : List UInt8} (hr : σ.rest = 46 :: r) {Q X} (hQ : ResQ mh x σ (dotsF num r) Q X) : C n 399 [.ref x] mh Q X := by
  refine fn1 S (ps := p_Lexer_read_dots) (b := b_Lexer_read_dots) (by exact List.mem_of_getElem? (i := 36) rfl) (by lia) rfl fun m e => ?_
  have l1 : 1 ≤ LIM := by rw [limN]; lia
  dsimp only [p_Lexer_read_dots, b_Lexer_read_dots]; walk_at "d"; simp_arith only [wpBody]
  simp_all_arith only [g.h.own 83 336 rfl]
  refine g_kam S (by lia) g hr rfl fun mh1 g1 k1 => ?_
  rw [hb] at g1
  have g1' : G mh1 x (σ.w r σ.bf [46] σ.line) := g1
  have m1 : ∀ l : List UInt8, memV (.int (sg l)) (.tup [.int 46]) = some (sg l == 46 || false) := fun u_ => rfl
  simp_all_arith only [l1, g1.h.own 116 343 rfl]
  cases r with
  | nil =>
    refine c_keep_if S (by lia) g1.h (by show 1 < _; lia) (t := false) rfl (fun q => by cases q) ⟨fun u_ => ?_, fun q => by cases q⟩
    try walk_at "d"; simp_arith only [wpBody]
    walk_at "n"
    have q : isDig (sg []) = false := by decide
    simp_all_arith only [g1.h.a45]
    refine c_is_digit S (by lia) ?_
    walk_at "d"; simp_arith only [q]
    walk_at "n"
    simp_all_arith only [wpBody]
    exact g_tok S (by lia) g1' k1 hQ
  | cons f ts =>
    have d46 : (sg (f :: ts) == 46) = decide (f = 46) := sgd (k := 46) (by lia)
    have hm : memV (.int (sg (f :: ts))) (.tup [.int 46]) = some (decide (f = 46)) := by rw [m1, d46, Bool.or_false]
    refine c_keep_if S (by lia) g1.h (by show 1 < _; lia) hm (fun u_ => by show f :: ts ≠ []; simp) ⟨fun hf => ?_, fun hf c0 r0 mh2 hc0 h2 k2 => ?_⟩
    · have hz : ¬ f = 46 := by simpa using hf
      have hD : dotsF num (f :: ts) = if isDig (f.toNat : Int) then numF num [46] (f :: ts) else some (some (46, .none), f :: ts) := by
        unfold dotsF; split
        · rename_i h; cases h; exact absurd rfl hz
        · rename_i h; cases h; exact absurd rfl hz
        · rename_i h; cases h; rfl
        · rename_i h; cases h
      rw [hD] at hQ
      try walk_at "d"; simp_arith only [wpBody]
      walk_at "n"
      simp_all_arith only [g1.h.a45]
      refine c_is_digit S (by lia) ?_
      cases hd : isDig (f.toNat : Int)
      · rw [if_neg (by rw [hd]; simp)] at hQ
        walk_at "d"; simp_arith only [show isDig (sg (f :: ts)) = false from hd]
        walk_at "n"
        simp_all_arith only [wpBody]
        exact g_tok S (by lia) g1' k1 hQ
      · rw [if_pos hd] at hQ
        walk_at "d"; simp_arith only [show isDig (sg (f :: ts)) = true from hd]
        simp_all_arith only [g1.h.own 97 413 rfl]
        exact g_num' S hnum (by lia) g1' (hQ.step k1)
    · have hz : f = 46 := by simpa using hf
      have hc0 : f :: ts = c0 :: r0 := hc0
      cases hc0
      subst hz
      have g2 : G mh2 x (σ.w ts σ.bf [46, 46] σ.line) := ⟨h2, by
        have := (head_at g1'.h (c := 46) (r := ts) rfl).2.2
        show Lines σ.T ({ σ.w (46 :: ts) σ.bf [46] σ.line with rest := ts } : LS).pos σ.line
        rw [this]; exact lines_move g1'.h g1'.ln rfl rfl, by have := g1'.sz; have : 1 + (46 :: ts).length ≤ 1500 := this; simp only [List.length_cons] at this; show 2 + ts.length ≤ 1500; lia⟩
      have k12 := k1.trans k2
      try walk_at "d"; simp_arith only [wpBody]
      simp_all_arith only [l1, g2.h.own 116 343 rfl]
      cases ts with
      | nil =>
        refine c_keep_if S (by lia) g2.h (by show 2 < _; lia) (t := false) rfl (fun q => by cases q) ⟨fun u_ => ?_, fun q => by cases q⟩
        try walk_at "d"; simp_arith only [wpBody]
        walk_at "n"
        simp_all_arith only [wpBody]
        exact g_tok S (by lia) g2 k12 hQ
      | cons d u =>
        have d46 : (sg (d :: u) == 46) = decide (d = 46) := sgd (k := 46) (by lia)
        have hm : memV (.int (sg (d :: u))) (.tup [.int 46]) = some (decide (d = 46)) := by rw [m1, d46, Bool.or_false]
        refine c_keep_if S (by lia) g2.h (by show 2 < _; lia) hm (fun u_ => by show d :: u ≠ []; simp) ⟨fun hf2 => ?_, fun hf2 c0 r0 mh3 hc0 h3 k3 => ?_⟩
        · have hz2 : ¬ d = 46 := by simpa using hf2
          have hD : dotsF num (46 :: d :: u) = some (some (278, .none), d :: u) := by
            simp [dotsF, hz2]
          rw [hD] at hQ
          try walk_at "d"; simp_arith only [wpBody]
          walk_at "n"
          simp_all_arith only [wpBody]
          exact g_tok S (by lia) g2 k12 hQ
        · have hz2 : d = 46 := by simpa using hf2
          have hc0 : d :: u = c0 :: r0 := hc0
          cases hc0
          subst hz2
          have hD : dotsF num (46 :: 46 :: u) = some (some (279, .none), u) := rfl
          rw [hD] at hQ
          have g3 : G mh3 x (σ.w u σ.bf [46, 46, 46] σ.line) := ⟨h3, by
            have := (head_at g2.h (c := 46) (r := u) rfl).2.2
            show Lines σ.T ({ σ.w (46 :: u) σ.bf [46, 46] σ.line with rest := u } : LS).pos σ.line
            rw [this]; exact lines_move g2.h g2.ln rfl rfl, by have := g2.sz; have : 2 + (46 :: u).length ≤ 1500 := this; simp only [List.length_cons] at this; show 3 + u.length ≤ 1500; lia⟩
          try walk_at "d"; simp_arith only [wpBody]
          simp_all_arith only [wpBody]
          exact g_tok S (by lia) g3 (k12.trans k3) hQ
theorem g_read {n : Nat} (hn : 9 ≤ n) {mh : MH} {x : Ad} {σ : LS} (g : G mh x σ) {Q X} (hQ : ResQ mh x σ (lexR num σ.rest) Q X) : C n 364 [.ref x] mh Q X := by
  refine fn1 S (ps := p_Lexer_read) (b := b_Lexer_read) (by exact List.mem_of_getElem? (i := 31) rfl) (by lia) rfl fun m e => ?_
  dsimp only [p_Lexer_read, b_Lexer_read]; walk_at "d"; simp_arith only [wpBody]
  simp_all_arith only [g.h.own 88 350 rfl]
  refine g_clear S (by lia) g fun mh1 b g1 k1 => ?_
  have rest : ∀ {mh2 : MH} {rs : List UInt8} {bf : Ad} {line : Nat} {loc : Fs}, G mh2 x (σ.w rs bf [] line) → Kp mh σ.d σ.bf mh2 bf → loc 0 = some (.ref x) → blankL σ.rest = some rs → (∀ c r, rs = c :: r → isN c = false) →
      wpSs (Out.mk0 (C m) band) (tlS (tlS b_Lexer_read)) ⟨loc, mh2⟩ (retQ Q) (fun st => X st.mh) := by
    intro mh2 rs bf line loc g2 k2 h0 hB hnl
    unfold lexR at hQ
    rw [hB] at hQ
    have l4 : (4 : Nat) ≤ LIM := by rw [limN]; lia
    have l4' : (3 : Nat) + 1 ≤ LIM := by rw [limN]; lia
    simp only [tlS, b_Lexer_read]
    simp_all_arith only [h0, g2.h.a45, show (σ.w rs bf [] line).rest = rs from rfl]
    refine absG fun G_ hG_ => ?_
    cases rs with
    | nil =>
      refine hG_ ?_; clear hG_ G_
      have q : (sg [] == -1) = true := by decide
      simp_all_arith only [q]
      simp_all_arith only [wpBody]
      exact g_tok S (by lia) g2 k2 hQ
    | cons c r =>
      refine hG_ ?_; clear hG_ G_
      have cN := hnl c r rfl
      have hQ : ResQ mh x σ (lexT num c r) Q X := hQ
      have hQ2 : ∀ res, lexT num c r = res → ResQ mh2 x (σ.w (c :: r) bf [] line) res Q X := fun res h => by rw [← h]; exact hQ.step k2
      have hs : sg (c :: r) = (c.toNat : Int) := rfl
      have q1 : ((c.toNat : Int) == -1) = false := by rw [beq_eq_false_iff_ne]; lia
      have d34 : ((c.toNat : Int) == 34) = decide (c = 34) := u8eq (k := 34) (by lia)
      have d39 : ((c.toNat : Int) == 39) = decide (c = 39) := u8eq (k := 39) (by lia)
      have d91 : ((c.toNat : Int) == 91) = decide (c = 91) := u8eq (k := 91) (by lia)
      have d46 : ((c.toNat : Int) == 46) = decide (c = 46) := u8eq (k := 46) (by lia)
      have d45 : ((c.toNat : Int) == 45) = decide (c = 45) := u8eq (k := 45) (by lia)
      have d61 : ((c.toNat : Int) == 61) = decide (c = 61) := u8eq (k := 61) (by lia)
      have d60 : ((c.toNat : Int) == 60) = decide (c = 60) := u8eq (k := 60) (by lia)
      have d62 : ((c.toNat : Int) == 62) = decide (c = 62) := u8eq (k := 62) (by lia)
      have d126 : ((c.toNat : Int) == 126) = decide (c = 126) := u8eq (k := 126) (by lia)
      simp_all_arith only [hs, q1]
      walk_at "n"
      have eq34 : ((c.toNat : Int) == 34 || ((c.toNat : Int) == 39 || false)) = decide (c = 34 ∨ c = 39) := by
        rw [d34, d39]; by_cases a : c = 34 <;> by_cases b : c = 39 <;> simp [a, b]
      by_cases z1 : c = 34 ∨ c = 39
      · simp_all_arith only [hs, l2, eq34, z1]
        simp_all_arith only [h0, g2.h.own 92 448 rfl]
        refine g_string S (by lia) g2 rfl (c := c) (r := r) rfl cN ?_ ?_
        · intro h mh' kx
          rw [lt1 z1, h] at hQ
          exact hQ mh' (k2.kx kx)
        · intro r' acc h hl
          have := hQ2 _ (lt1 z1)
          rw [h] at this
          exact this
      simp_all_arith only [hs, l2, eq34, z1]
      walk_at "n"
      by_cases z2 : c = 91
      · subst z2
        simp_all_arith only [hs, d91]
        simp_all_arith only [h0, g2.h.own 94 420 rfl]
        exact g_bracket S (by lia) g2 rfl (hQ2 _ lt2)
      simp_all_arith only [hs, d91, z2]
      walk_at "n"
      by_cases z3 : c = 46
      · subst z3
        simp_all_arith only [hs, d46]
        simp_all_arith only [h0, g2.h.own 96 399 rfl]
        exact g_dots S hnum (by lia) g2 rfl rfl (hQ2 _ lt3)
      simp_all_arith only [hs, d46, z3]
      walk_at "n"
      simp_all_arith only [hs]
      refine c_is_digit S (by lia) ?_
      cases z4 : isDig (c.toNat : Int)
      rotate_left
      · walk_at "d"; simp_arith only [wpBody]
        simp_all_arith only [h0, g2.h.own 97 413 rfl]
        exact g_num' S hnum (by lia) g2 (hQ2 _ (lt4 z1 z2 z3 z4))
      walk_at "d"; simp_arith only [wpBody]
      walk_at "n"
      simp_all_arith only [wpBody]
      refine c_is_letter S (by lia) ?_
      cases z5 : isLet (c.toNat : Int)
      rotate_left
      · walk_at "d"; simp_arith only [wpBody]
        simp_all_arith only [h0, g2.h.own 98 406 rfl]
        exact g_word S (by lia) g2 rfl (hQ2 _ (lt5 z1 z2 z3 z4 z5))
      walk_at "d"; simp_arith only [wpBody]
      walk_at "n"
      by_cases z6 : c = 45
      · subst z6
        simp_all_arith only [hs, d45]
        simp_all_arith only [h0, g2.h.own 81 322 rfl]
        refine g_move S (by lia) g2 (c := 45) (r := r) rfl rfl fun mh3 g3 k3 => ?_
        simp_all_arith only [wpBody]
        exact g_tok S (by lia) (σ := σ) (r' := r) (bf := bf) (buf := []) (line := line) g3 (k2.trans k3) (by rw [lt6] at hQ; exact hQ)
      simp_all_arith only [hs, d45, z6]
      walk_at "n"
      have eq61 : ((c.toNat : Int) == 61 || ((c.toNat : Int) == 60 || ((c.toNat : Int) == 62 || ((c.toNat : Int) == 126 || false)))) = decide (c = 61 ∨ c = 60 ∨ c = 62 ∨ c = 126) := by
        rw [d61, d60, d62, d126]; by_cases a : c = 61 <;> by_cases b : c = 60 <;> by_cases d : c = 62 <;> by_cases e : c = 126 <;> simp [a, b, d, e]
      by_cases z7 : c = 61 ∨ c = 60 ∨ c = 62 ∨ c = 126
      · simp_all_arith only [hs, l4, l4', eq61, z7]
        simp_all_arith only [h0, g2.h.own 104 392 rfl]
        exact g_compared S (by lia) g2 (c := c) (r := r) rfl cN (hQ2 _ ((lt7 z1 z2 z3 z4 z5 z6).trans (if_pos z7)))
      simp_all_arith only [hs, l4, l4', eq61, z7]
      walk_at "n"
      simp_all_arith only [h0, g2.h.own 81 322 rfl]
      refine g_move S (by lia) g2 (c := c) (r := r) rfl cN fun mh3 g3 k3 => ?_
      simp_all_arith only [hs]
      exact g_tok S (by lia) (σ := σ) (r' := r) (bf := bf) (buf := []) (line := line) g3 (k2.trans k3) (by rw [(lt7 z1 z2 z3 z4 z5 z6).trans (if_neg z7)] at hQ; exact hQ)
  simp only [tlS, b_Lexer_read] at rest
  simp_all_arith only [wpBody]
  refine ⟨W_g_read x σ mh, ⟨_, by first | rfl | simp [Fs.set], σ.rest, b, σ.line, g1, k1, rfl, rfl⟩, ?_⟩
  intro n z1_ z2_; (refine absG fun G_ hG_ => ?_; (rcases z1_ with ⟨loc, mh2⟩) <;> (refine hG_ ?_; clear hG_ G_)); (refine absG fun G_ hG_ => ?_; (rcases z2_ with ⟨h0, ts, bf, line, g2, k2, e1, rfl⟩) <;> (refine hG_ ?_; clear hG_ G_))
  dsimp only at h0 g2 k2 ⊢
  walk_at "d"; simp_arith only [h0, g2.h.own 89 371 rfl]
  rw [blankL_eq ts] at e1
  refine g_blank S (by lia) g2 rfl ?_ ?_ ?_
  · intro h mh' kx
    have h : blk1 ts = none := h
    rw [h] at e1
    unfold lexR at hQ
    rw [e1] at hQ
    exact hQ mh' (k2.kx kx)
  · intro h hnl
    have h : blk1 ts = some none := h
    rw [h] at e1
    walk_at "d"; simp_arith only [wpBody]
    exact rest g2 k2 h0 e1 hnl
  · intro r' h hl mh3 bf' line' g3 k3
    have h : blk1 ts = some (some r') := h
    have hl : r'.length < ts.length := hl
    rw [h] at e1
    simp only [hl, dite_true] at e1
    walk_at "d"; simp_arith only [wpBody]
    simp_all_arith only [wpBody]
    walk_at "n"
    exact ⟨r'.length, hl, h0, r', bf', line', g3, k2.trans k3, e1, rfl⟩
end
end Lx
namespace Lx
theorem strL_lt {q : UInt8} : ∀ (n : Nat) (l acc r a : List UInt8), l.length ≤ n → strL q l acc = some (r, a) → r.length < l.length := by
  intro n
  induction n with
  | zero =>
    intro l acc r a hl h
    have : l = [] := List.eq_nil_of_length_eq_zero (by lia)
    subst this; rw [strL_nil] at h; cases h
  | succ n ih =>
    intro l acc r a hl h
    cases l with
    | nil => rw [strL_nil] at h; cases h
    | cons c t =>
      simp only [List.length_cons] at hl ⊢
      rw [strL_cons] at h
      by_cases h1 : c = q
      · rw [if_pos h1] at h; cases h; lia
      rw [if_neg h1] at h
      by_cases h2 : isN c = true
      · rw [if_pos h2] at h; cases h
      rw [if_neg h2] at h
      by_cases h3 : c = 92
      · rw [if_pos h3] at h
        cases he : escL t with
        | none => rw [he] at h; cases h
        | some p =>
          obtain ⟨r', bs⟩ := p
          rw [he] at h
          simp only at h
          by_cases h4 : r'.length ≤ t.length
          · rw [dif_pos h4] at h
            have := ih r' _ r a (by lia) h
            lia
          · rw [dif_neg h4] at h; cases h
      · rw [if_neg h3] at h
        have := ih t _ r a (by lia) h
        lia
theorem longL_lt {lev : Nat} {t : Bool} : ∀ (n : Nat) (l acc r a : List UInt8), l.length ≤ n → longL lev t l acc = some (r, a) → r.length < l.length := by
  intro n
  induction n with
  | zero =>
    intro l acc r a hl h
    have : l = [] := List.eq_nil_of_length_eq_zero (by lia)
    subst this; rw [longL_nil] at h; cases h
  | succ n ih =>
    intro l acc r a hl h
    cases l with
    | nil => rw [longL_nil] at h; cases h
    | cons c s =>
      have el : (eqsF s).2.length ≤ s.length := eqsF_le s
      have etl : (eqsF s).2.tail.length ≤ s.length := eqsF_tl s
      have la := afterNL_lt (l := c :: s) (by simp)
      simp only [List.length_cons] at hl la ⊢
      rw [longL_cons] at h
      by_cases h1 : c = 91
      · rw [if_pos h1] at h
        split at h
        · split at h
          · cases h
          · have := ih _ _ r a (by lia) h; lia
        · have := ih _ _ r a (by lia) h; lia
      rw [if_neg h1] at h
      by_cases h2 : c = 93
      · rw [if_pos h2] at h
        split at h
        · cases h; lia
        · have := ih _ _ r a (by lia) h; lia
      rw [if_neg h2] at h
      split at h
      · have := ih _ _ r a (by lia) h; lia
      · have := ih _ _ r a (by lia) h; lia
theorem begF_le {l : List UInt8} : (begF l).length ≤ l.length := by
  unfold begF; split
  · rename_i h
    have hne : l ≠ [] := by intro q; rw [q] at h; cases h
    exact Nat.le_of_lt (afterNL_lt hne)
  · exact Nat.le_refl _
theorem dw_le {p : UInt8 → Bool} {l : List UInt8} : (l.dropWhile p).length ≤ l.length := (List.dropWhile_sublist _).length_le
set_option tactic.hygienic true in
theorem blankL_le : ∀ (n : Nat) (l r : List UInt8), l.length ≤ n → blankL l = some r → r.length ≤ l.length := by
  intro n
  induction n with
  | zero =>
    intro l r hl h
    rw [blankL_eq] at h
    have : l = [] := List.eq_nil_of_length_eq_zero (by lia)
    subst this
    have : blk1 [] = some none := rfl
    rw [this] at h
    cases h; exact Nat.le_refl _
  | succ n ih =>
    intro l r hl h
    rw [blankL_eq] at h
    split at h
    · cases h
    · cases h; exact Nat.le_refl _
    · split at h
      · rename_i r' _ hlt
        have := ih r' r (by lia) h
        lia
      · cases h
theorem expL_le : ∀ l : List UInt8, (expL l).2.length ≤ l.length
  | [] => Nat.le_refl _
  | c :: r => by
    rw [expL]
    split
    · cases r with
      | nil => rw [expG]; simp
      | cons d u =>
        rw [expG]; split
        · simp; lia
        · simp
    · exact Nat.le_refl _
theorem numL_lt {c : UInt8} {r : List UInt8} (h : ddot c = true) : (numL (c :: r)).2.length ≤ r.length := by
  unfold numL
  simp only []
  rw [(tw_step (p := ddot) (r := r) h).2]
  exact Nat.le_trans dw_le (Nat.le_trans (expL_le _) dw_le)
theorem kinds_lt {w : List UInt8} {i : Int} (h : kindsL.lookup w = some (.int i)) : i < 287 := by
  have : ∀ p ∈ kindsL, ∃ i : Int, p.2 = .int i ∧ i < 287 := by
    intro p hp
    unfold kindsL at hp
    obtain ⟨i, hi, rfl⟩ := List.mem_map.mp hp
    have := List.mem_range.mp hi
    exact ⟨_, rfl, by lia⟩
  generalize kindsL = l at h this
  induction l with
  | nil => cases h
  | cons p r ih =>
    rw [List.lookup_cons] at h
    split at h
    · obtain ⟨i', h1, h2⟩ := this p (.head _)
      rw [h1] at h; cases h; exact h2
    · exact ih h fun q hq => this q (.tail _ hq)
set_option tactic.hygienic true in
theorem wordF_ne {w : List UInt8} : (wordF w).1 ≠ 287 := by
  unfold wordF
  split
  · rename_i i h; have := kinds_lt h; show i ≠ 287; lia
  · show (285 : Int) ≠ 287; decide
noncomputable def plainV (v : V) : Prop := v = .none ∨ (∃ i, v = .int i) ∨ ∃ b, v = .bytes b
theorem plain_vn {v : V} (h : VN v) : plainV v := by
  rcases h with h | h
  · exact .inl h
  · exact .inr (.inl h)
noncomputable def TG (num : List UInt8 → V) (n : Nat) (o : Option Tk) : Prop := ∀ t s, o = some (t, s) → ∃ k v, t = some (k, v) ∧ s.length ≤ n ∧ k ≠ 287 ∧ ((∀ b, VN (num b)) → plainV v)
theorem tg_none {num n} : TG num n none := fun u_ u_ h => by cases h
theorem tg_some {num n k v s} (h1 : s.length ≤ n) (h2 : k ≠ 287) (h3 : (∀ b, VN (num b)) → plainV v) : TG num n (some (some (k, v), s)) := fun t s' h => by
  cases h; exact ⟨_, _, rfl, h1, h2, h3⟩
theorem tg_ite {num n} {c : Prop} [Decidable c] {x y : Option Tk} (hx : c → TG num n x) (hy : ¬c → TG num n y) : TG num n (if c then x else y) := by
  by_cases h : c
  · rw [if_pos h]; exact hx h
  · rw [if_neg h]; exact hy h
theorem tg_map {num n} {o : Option (List UInt8 × List UInt8)} (h : ∀ a b, o = some (a, b) → a.length ≤ n) : TG num n (o.map fun p => (some (286, .bytes p.2), p.1)) := by
  cases o with
  | none => exact tg_none
  | some p => exact tg_some (h p.1 p.2 rfl) (by decide) fun u_ => .inr (.inr ⟨_, rfl⟩)
theorem p0 {num : List UInt8 → V} : (∀ b, VN (num b)) → plainV .none := fun u_ => .inl rfl
theorem tg_num {num : List UInt8 → V} {n : Nat} {b : List UInt8} {c : UInt8} {r : List UInt8} (h : ddot c = true) (hn : r.length ≤ n) : TG num n (numF num b (c :: r)) := by
  unfold numF
  exact tg_ite (fun u_ => tg_none) fun u_ => tg_some (Nat.le_trans (numL_lt h) hn) (by decide) fun q => plain_vn (q _)
theorem wordF_plain {w : List UInt8} : plainV (wordF w).2 := by
  unfold wordF
  split
  · exact .inl rfl
  · exact .inr (.inr ⟨_, rfl⟩)
set_option tactic.hygienic true in
theorem tg_brack {num : List UInt8 → V} {r : List UInt8} : TG num r.length (brackF r) := by
  unfold brackF
  have el := eqsF_len r
  split
  · rename_i r2 h2
    refine tg_map fun a b h => ?_
    have := longL_lt _ _ _ _ _ (Nat.le_refl _) h
    have := begF_le (l := r2)
    rw [h2] at el
    simp only [List.length_cons] at el
    lia
  · exact tg_ite (fun u_ => tg_some (by lia) (by decide) p0) fun u_ => tg_none
theorem tg_dots {num : List UInt8 → V} {r : List UInt8} : TG num r.length (dotsF num r) := by
  unfold dotsF
  split
  · exact tg_some (by simp only [List.length_cons]; lia) (by decide) p0
  · exact tg_some (by simp only [List.length_cons]; lia) (by decide) p0
  · exact tg_ite (fun hd => tg_num (by unfold ddot; rw [hd]; rfl) (by simp only [List.length_cons]; lia)) fun u_ => tg_some (Nat.le_refl _) (by decide) p0
  · exact tg_some (Nat.le_refl _) (by decide) p0
theorem tg_cmp {num : List UInt8 → V} {c : UInt8} {r : List UInt8} : TG num r.length (cmpF c r) := by
  unfold cmpF
  split
  · refine tg_some (by simp only [List.length_cons]; lia) ?_ p0
    split
    · decide
    · split
      · decide
      · split <;> decide
  · exact tg_some (Nat.le_refl _) (by have := c.toNat_lt; lia) p0
theorem lexT_all {num : List UInt8 → V} {c : UInt8} {r : List UInt8} : TG num r.length (lexT num c r) := by
  unfold lexT
  refine tg_ite (fun u_ => tg_map fun a b h => Nat.le_of_lt (strL_lt _ _ _ _ _ (Nat.le_refl _) h)) fun u_ => tg_ite (fun u_ => tg_brack) fun u_ => tg_ite (fun u_ => tg_dots) fun u_ => ?_
  refine tg_ite (fun hd => tg_num (by unfold ddot; rw [hd]; rfl) (Nat.le_refl _)) fun u_ => tg_ite (fun hl => ?_) fun u_ => tg_ite (fun u_ => tg_some (Nat.le_refl _) (by decide) p0) fun u_ => tg_ite (fun u_ => tg_cmp) fun u_ => tg_some (Nat.le_refl _) (by have := c.toNat_lt; lia) p0
  have hn : nam c = true := by unfold nam isNam; rw [hl]; rfl
  refine tg_some (k := (wordF ((c :: r).takeWhile nam)).1) (v := (wordF ((c :: r).takeWhile nam)).2) ?_ wordF_ne fun u_ => wordF_plain
  rw [(tw_step (p := nam) (r := r) hn).2]
  exact dw_le
theorem lexT_lt {num : List UInt8 → V} {c : UInt8} {r : List UInt8} {k : Int} {v : V} {s : List UInt8} (e : lexT num c r = some (some (k, v), s)) : s.length ≤ r.length ∧ k ≠ 287 := by
  obtain ⟨k', v', h, h1, h2, _⟩ := lexT_all _ _ e
  cases h
  exact ⟨h1, h2⟩
set_option tactic.hygienic true in
theorem lexR_lt {num : List UInt8 → V} {l : List UInt8} {k : Int} {v : V} {s : List UInt8} (e : lexR num l = some (some (k, v), s)) : s.length < l.length ∧ k ≠ 287 := by
  unfold lexR at e
  split at e
  · cases e
  · cases e
  · rename_i c r h
    have := blankL_le _ _ _ (Nat.le_refl _) h
    simp only [List.length_cons] at this
    have := lexT_lt e
    exact ⟨by lia, this.2⟩
set_option tactic.hygienic true in
theorem lexR_eos {num : List UInt8 → V} {l s : List UInt8} (e : lexR num l = some (none, s)) : s = [] := by
  unfold lexR at e
  split at e
  · cases e
  · cases e; rfl
  · rename_i c r h
    obtain ⟨_, _, h, _⟩ := lexT_all _ _ e
    cases h
noncomputable def lexAll (num : List UInt8 → V) (l : List UInt8) : List V × Bool := lenFix List.length (fun l rec => match lexR num l with
  | none => ([], true)
  | some (none, _) => ([], false)
  | some (some (k, v), r) => if h : r.length < l.length then (.tup [.int k, v] :: (rec r h).1, (rec r h).2) else ([], false)) l
theorem lexAll_eq (num : List UInt8 → V) (l : List UInt8) : lexAll num l = (match lexR num l with
  | none => ([], true)
  | some (none, _) => ([], false)
  | some (some (k, v), r) => if h : r.length < l.length then (.tup [.int k, v] :: (lexAll num r).1, (lexAll num r).2) else ([], false)) := lenFix_eq
theorem lexAll_err {num : List UInt8 → V} {l : List UInt8} (h : lexR num l = none) : lexAll num l = ([], true) := by rw [lexAll_eq, h]
theorem lexAll_eos {num : List UInt8 → V} {l s : List UInt8} (h : lexR num l = some (none, s)) : lexAll num l = ([], false) := by rw [lexAll_eq, h]
theorem lexAll_tok {num : List UInt8 → V} {l r : List UInt8} {k : Int} {v : V} (h : lexR num l = some (some (k, v), r)) : lexAll num l = (.tup [.int k, v] :: (lexAll num r).1, (lexAll num r).2) := by
  rw [lexAll_eq, h]; simp only [(lexR_lt h).1, dite_true]
theorem lexAll_len {num : List UInt8 → V} : ∀ (n : Nat) (l : List UInt8), l.length ≤ n → (lexAll num l).1.length ≤ l.length := by
  intro n
  induction n with
  | zero =>
    intro l hl
    cases h : lexR num l with
    | none => rw [lexAll_err h]; simp
    | some p =>
      obtain ⟨o, r⟩ := p
      cases o with
      | none => rw [lexAll_eos h]; simp
      | some kv => obtain ⟨k, v⟩ := kv; have := (lexR_lt h).1; lia
  | succ n ih =>
    intro l hl
    cases h : lexR num l with
    | none => rw [lexAll_err h]; simp
    | some p =>
      obtain ⟨o, r⟩ := p
      cases o with
      | none => rw [lexAll_eos h]; simp
      | some kv =>
        obtain ⟨k, v⟩ := kv
        have h1 := (lexR_lt h).1
        have := ih r (by lia)
        rw [lexAll_tok h]; simp only [List.length_cons]; lia
end Lx
namespace Lx
noncomputable def tkv : Option (Int × V) → Int × V
  | none => (287, .none)
  | some p => p
theorem G.last! {mh : MH} {x : Ad} {σ : LS} (g : G mh x σ) (v : V) {Q : MH → Prop} (hQ : ∀ mh', G mh' x σ → Kp mh σ.d σ.bf mh' σ.bf → Q mh') : setAttrP mh (.ref x) 65 v Q :=
  g.h.last! v fun mh' h k => hQ mh' ⟨h, g.ln, g.sz⟩ k
theorem G.cur! {mh : MH} {x : Ad} {σ : LS} (g : G mh x σ) (c : Ad) {Q : MH → Prop} (hQ : ∀ mh', G mh' x { σ with cur := c } → Kp mh σ.d σ.bf mh' σ.bf → Q mh') : setAttrP mh (.ref x) 67 (.ref c) Q :=
  g.h.cur! c fun mh' h k => hQ mh' ⟨h, g.ln, g.sz⟩ k
theorem G.ahead! {mh : MH} {x : Ad} {σ : LS} (g : G mh x σ) (v : V) {Q : MH → Prop} (hQ : ∀ mh', G mh' x { σ with ahead := v } → Kp mh σ.d σ.bf mh' σ.bf → Q mh') : setAttrP mh (.ref x) 70 v Q :=
  g.h.ahead! v fun mh' h k => hQ mh' ⟨h, g.ln, g.sz⟩ k
section
variable {C : Nat → Ad → List V → MH → (V → MH → Prop) → (MH → Prop) → Prop} {band : Int → Int → Int} (S : Sys C band)
include S
theorem c_lexer {n : Nat} (hn : 4 ≤ n) {T : List UInt8} (hT : T.length ≤ 1000) {lim : Ad} {mh : MH} (hl : LimOK mh lim) {Q X}
    (hQ : ∀ x mh' σ, mh x = none → Ext mh mh' → G mh' x σ → σ.T = T → σ.rest = T → σ.ahead = .none → mh σ.d = none → mh σ.bf = none → Q (.ref x) mh') : C n 465 [.bytes T, .bytes [61, 108, 97, 119], .ref lim] mh Q X := by
  obtain ⟨n, rfl⟩ : ∃ m, n = m + 2 := ⟨n - 2, by lia⟩
  refine S.lexer n _ _ _ mh Q X fun x d hx hd nx => ?_
  have e0 : (mh.set d (.flds fun u_ => none)).set x (.inst 465 d) x = some (.inst 465 d) := set_self
  have e1 : (mh.set d (.flds fun u_ => none)).set x (.inst 465 d) d = some (.flds fun u_ => none) := by rw [set_ne (Ne.symm nx), set_self]
  have base : Ext mh ((mh.set d (.flds fun u_ => none)).set x (.inst 465 d)) := (Ext.new hd).set hx
  generalize (mh.set d (.flds fun u_ => none)).set x (.inst 465 d) = m0 at e0 e1 base
  have stp : ∀ {m1 : MH} {f : Fs} {i : Nm} {v : V} {Q : MH → Prop}, m1 x = some (.inst 465 d) → m1 d = some (.flds f) → Q (m1.set d (.flds (f.set i v))) → setAttrP m1 (.ref x) i v Q := fun h1 h2 q => by
    unfold setAttrP; simp only [h1, h2]; exact q
  dsimp only [p_Lexer___init__, b_Lexer___init__]; walk_at "d"; simp_arith only [wpBody]
  simp_all_arith only [wpBody]; refine stp e0 e1 ?_
  simp_all_arith only [wpBody]; refine stp (by rw [set_ne nx]; exact e0) set_self ?_; rw [set_set]
  simp_all_arith only [wpBody]
  refine c_chunk_id S (by lia) ?_
  try walk_at "d"; simp_arith only [wpBody]
  refine stp (by rw [set_ne nx]; exact e0) set_self ?_; rw [set_set]
  simp_all_arith only [wpBody]; refine stp (by rw [set_ne nx]; exact e0) set_self ?_; rw [set_set]
  simp_all_arith only [wpBody]
  refine c_kinds S (by lia) fun kd m1 hkd x1 h1 => ?_
  have b1 : Ext mh m1 := (base.set hd).trans x1
  have i1 : m1 x = some (.inst 465 d) := x1 _ _ (by rw [set_ne nx]; exact e0)
  have f1 := x1 _ _ set_self
  have kdd : kd ≠ d := by rintro rfl; rw [f1] at h1; cases h1
  have kdn : mh kd = none := by
    cases q : mh kd with
    | none => rfl
    | some o => rw [(base.set hd) _ _ q] at hkd; cases hkd
  try walk_at "d"; simp_arith only [wpBody]
  refine stp i1 f1 ?_
  simp_all_arith only [wpBody]; refine stp (by rw [set_ne nx]; exact i1) set_self ?_; rw [set_set]
  have hsg : ∀ (O : Out) (mh : MH), (match decide (0 < (T.length : Int)) with
      | true => (match idxV O mh (.bytes T) (.int 0) with | some v => some v | none => none)
      | false => some (.int (-1))) = some (.int (sg T)) := fun O mh => by
    cases T with
    | nil => rfl
    | cons c r => simp [idxV, sg]
  have go : ∀ (Q' : V → Prop), Q' (.int (sg T)) → (match decide (0 < (T.length : Int)) with
      | true => (match idxV (Out.mk0 (C n) band) (m1.set d (.flds ((((((Fs.set (fun u_ => none) 10 (.bytes T)).set 38 (.bytes [61, 108, 97, 119])).set 60 (.bytes [108, 97, 119])).set 25 (.ref lim)).set 52 (.ref kd)).set 18 (.int 0)))) (.bytes T) (.int 0) with | some v => Q' v | none => False)
      | false => Q' (.int (-1))) := fun Q' h => by
    cases T with
    | nil => exact h
    | cons c r =>
      have : ((c :: r : List UInt8).length : Int) = ((r.length + 1 : Nat) : Int) := rfl
      have q : (0 : Int) < ((c :: r : List UInt8).length : Int) := by rw [this]; lia
      simp only [q, decide_true]
      have hi : ∀ (O : Out) (mh : MH), idxV O mh (.bytes (c :: r)) (.int 0) = some (.int (c.toNat : Int)) := fun O mh => by simp [idxV]
      rw [hi]; exact h
  simp_all_arith only [wpBody]
  refine go (fun v => setAttrP _ (.ref x) 45 v _) ?_
  refine stp (by rw [set_ne nx]; exact i1) set_self ?_; rw [set_set]
  simp_all_arith only [wpBody]; refine stp (by rw [set_ne nx]; exact i1) set_self ?_; rw [set_set]
  simp_all_arith only [wpBody]; refine stp (by rw [set_ne nx]; exact i1) set_self ?_; rw [set_set]
  simp_all_arith only [wpBody]
  intro b hb
  have bd : b ≠ d := by rintro rfl; rw [set_self] at hb; cases hb
  rw [set_ne bd] at hb
  have bx : b ≠ x := by rintro rfl; rw [i1] at hb; cases hb
  have bkd : b ≠ kd := by rintro rfl; rw [h1] at hb; cases hb
  have bn : mh b = none := by
    cases q : mh b with
    | none => rfl
    | some o => rw [b1 _ _ q] at hb; cases hb
  refine stp (by rw [set_ne (Ne.symm bx), set_ne nx]; exact i1) (by rw [set_ne (Ne.symm bd)]; exact set_self) ?_
  simp_all_arith only [wpBody]
  refine c_token S (by lia) fun tk td m2 htk x2 h2 h3 => ?_
  have pre : ∀ a o, m1 a = some o → a ≠ d → m2 a = some o := fun a o e n1 => x2 _ _ (by
    rw [set_ne n1, set_ne (by rintro rfl; rw [e] at hb; cases hb), set_ne n1]; exact e)
  have b2 : Ext mh m2 := fun a o e => pre a o (b1 a o e) (by rintro rfl; rw [hd] at e; cases e)
  have i2 : m2 x = some (.inst 465 d) := pre _ _ i1 nx
  have f2 := x2 _ _ set_self
  have kd2 : m2 kd = some (.bdict kindsL) := pre _ _ h1 kdd
  have bb2 : m2 b = some (.barr []) := x2 _ _ (by rw [set_ne bd]; exact set_self)
  try walk_at "d"; simp_arith only [wpBody]
  refine stp i2 f2 ?_
  simp_all_arith only [wpBody]; refine stp (by rw [set_ne nx]; exact i2) set_self ?_; rw [set_set]
  walk_at "n"
  refine hQ x _ ⟨T, T, [], 1, d, b, lim, kd, tk, .none⟩ hx (b2.set hd) ⟨⟨by show (m2.set d _) x = _; rw [set_ne nx]; exact i2, ⟨_, set_self, ?_⟩, by show (m2.set d _) b = _; rw [set_ne bd]; exact bb2, by show (m2.set d _) kd = _; rw [set_ne kdd]; exact kd2, hl.ext (b2.set hd), ?_, Nat.le_refl _, hT⟩, ?_, by show 0 + T.length ≤ 1500; lia⟩ rfl rfl rfl hd bn
  · have hp : (LS.pos ⟨T, T, [], 1, d, b, lim, kd, tk, .none⟩) = 0 := Nat.sub_self _
    refine ⟨by first | rfl | simp [Fs.set], by first | rfl | simp [Fs.set], by first | rfl | simp [Fs.set], by first | rfl | simp [Fs.set], by rw [hp]; simp [Fs.set], by first | rfl | simp [Fs.set], by first | rfl | simp [Fs.set], by first | rfl | simp [Fs.set], by first | rfl | simp [Fs.set], by first | rfl | simp [Fs.set], ?_⟩
    intro p hp
    have key : ∀ {f : Fs} {i : Nm} {v : V}, i ∈ fieldNames → f p.1 = none → (f.set i v) p.1 = none := fun hi h => by
      unfold Fs.set; rw [if_neg (mt_ne hi p hp)]; exact h
    exact key (by decide) (key (by decide) (key (by decide) (key (by decide) (key (by decide) (key (by decide) (key (by decide) (key (by decide) (key (by decide) (key (by decide) (key (by decide) (key (by decide) rfl)))))))))))
  · show T.drop (T.length - T.length) = T
    rw [Nat.sub_self]; rfl
  · show Lines T (T.length - T.length) 1
    rw [Nat.sub_self]; exact Lines.zero
variable {num : List UInt8 → V} (hnum : ∀ b : List UInt8, b.length ≤ LIM → VN (num b) ∧ ∀ {n : Nat} {mh : MH} {lim : Ad} {Q : V → MH → Prop} {X : MH → Prop}, 5 ≤ n → LimOK mh lim → Q (num b) mh → C n 138 [.bytes b, .ref lim] mh Q X)
include hnum
theorem g_next {n : Nat} (hn : 10 ≤ n) {mh : MH} {x : Ad} {σ : LS} (g : G mh x σ) (ha : σ.ahead = .none) {Q X}
    (hA : lexR num σ.rest = none → ∀ mh', Kx mh σ.d σ.bf mh' → X mh')
    (hB : ∀ o r', lexR num σ.rest = some (o, r') → ∀ mh' tk bf buf line, G mh' x { σ.w r' bf buf line with cur := tk } → Kp mh σ.d σ.bf mh' bf → mh tk = none → TokAt mh' tk (tkv o).1 (tkv o).2 → Q (.ref tk) mh') : C n 287 [.ref x] mh Q X := by
  refine fn1 S (ps := p_Lexer_next) (b := b_Lexer_next) (by exact List.mem_of_getElem? (i := 21) rfl) (by lia) rfl fun m e => ?_
  dsimp only [p_Lexer_next, b_Lexer_next]; walk_at "d"; simp_arith only [wpBody]
  simp_all_arith only [g.h.a43]
  refine g.last! _ fun mh1 g1 k1 => ?_
  simp_all_arith only [g1.h.a70, ha]
  simp_all_arith only [g1.h.own 71 364 rfl]
  refine g_read S hnum (by lia) g1 ?_
  have step : ∀ k v r', (∀ mh' tk bf buf line, G mh' x { σ.w r' bf buf line with cur := tk } → Kp mh σ.d σ.bf mh' bf → mh tk = none → TokAt mh' tk k v → Q (.ref tk) mh') →
      TokQ mh1 x σ k v r' (fun v mh => setAttrP mh (.ref x) 67 v fun mh => wpSs (Out.mk0 (C m) band) .nil ⟨Fs.set (fun u_ => none) 0 (.ref x), mh⟩ (fun f st => match f with
      | .next => wpSs (Out.mk0 (C m) band) (tlS (tlS b_Lexer_next)) st (retQ Q) (fun st => X st.mh)
      | .brk => retQ Q .brk st
      | .ret v => retQ Q (.ret v) st) (fun st => X st.mh)) := by
    intro k v r' h tk mh2 bf buf line g2 k2 hn t2
    refine g2.cur! tk fun mh3 g3 k3 => ?_
    have t3 := t2.keep g2.h k3
    walk_at "n"
    simp only [tlS, b_Lexer_next]
    simp_all_arith only [g3.h.a67]
    refine h mh3 tk bf buf line g3 (k1.trans (k2.trans k3)) ?_ t3
    cases q : mh tk with
    | none => rfl
    | some o => exact absurd hn (k1.alive tk (by rw [q]; simp))
  simp only [tlS, b_Lexer_next] at step
  cases hL : lexR num σ.rest with
  | none => exact fun mh' kx => hA hL mh' (k1.kx kx)
  | some p =>
    obtain ⟨o, r'⟩ := p
    have := hB o r' hL
    cases o with
    | none => exact step _ _ _ this
    | some kv => obtain ⟨k, v⟩ := kv; exact step _ _ _ this
theorem g_next_ahead {n : Nat} (hn : 10 ≤ n) {mh : MH} {x tk : Ad} {σ : LS} (g : G mh x σ) (ha : σ.ahead = .ref tk) {Q X}
    (hB : ∀ mh', G mh' x { σ with cur := tk, ahead := .none } → Kp mh σ.d σ.bf mh' σ.bf → Q (.ref tk) mh') : C n 287 [.ref x] mh Q X := by
  refine fn1 S (ps := p_Lexer_next) (b := b_Lexer_next) (by exact List.mem_of_getElem? (i := 21) rfl) (by lia) rfl fun m e => ?_
  dsimp only [p_Lexer_next, b_Lexer_next]; walk_at "d"; simp_arith only [wpBody]
  simp_all_arith only [g.h.a43]
  refine g.last! _ fun mh1 g1 k1 => ?_
  simp_all_arith only [g1.h.a70, ha]
  simp_all_arith only [g1.h.a70, ha]
  refine g1.cur! tk fun mh2 g2 k2 => ?_
  simp_all_arith only [wpBody]
  refine g2.ahead! .none fun mh3 g3 k3 => ?_
  walk_at "n"
  simp_all_arith only [g3.h.a67]
  exact hB mh3 g3 (k1.trans (k2.trans k3))
theorem g_look {n : Nat} (hn : 10 ≤ n) {mh : MH} {x : Ad} {σ : LS} (g : G mh x σ) (ha : σ.ahead = .none) {Q X}
    (hA : lexR num σ.rest = none → ∀ mh', Kx mh σ.d σ.bf mh' → X mh')
    (hB : ∀ o r', lexR num σ.rest = some (o, r') → ∀ mh' tk bf buf line, G mh' x { σ.w r' bf buf line with ahead := .ref tk } → Kp mh σ.d σ.bf mh' bf → mh tk = none → TokAt mh' tk (tkv o).1 (tkv o).2 → Q (.ref tk) mh') : C n 294 [.ref x] mh Q X := by
  refine fn1 S (ps := p_Lexer_lookahead) (b := b_Lexer_lookahead) (by exact List.mem_of_getElem? (i := 22) rfl) (by lia) rfl fun m e => ?_
  dsimp only [p_Lexer_lookahead, b_Lexer_lookahead]; walk_at "d"; simp_arith only [wpBody]
  simp_all_arith only [g.h.a70, ha]
  simp_all_arith only [g.h.own 71 364 rfl]
  refine g_read S hnum (by lia) g ?_
  have step : ∀ k v r', (∀ mh' tk bf buf line, G mh' x { σ.w r' bf buf line with ahead := .ref tk } → Kp mh σ.d σ.bf mh' bf → mh tk = none → TokAt mh' tk k v → Q (.ref tk) mh') →
      TokQ mh x σ k v r' (fun v mh => setAttrP mh (.ref x) 70 v fun mh => wpSs (Out.mk0 (C m) band) .nil ⟨Fs.set (fun u_ => none) 0 (.ref x), mh⟩ (fun f st => match f with
      | .next => wpSs (Out.mk0 (C m) band) (tlS b_Lexer_lookahead) st (retQ Q) (fun st => X st.mh)
      | .brk => retQ Q .brk st
      | .ret v => retQ Q (.ret v) st) (fun st => X st.mh)) := by
    intro k v r' h tk mh2 bf buf line g2 k2 hn t2
    refine g2.ahead! (.ref tk) fun mh3 g3 k3 => ?_
    have t3 := t2.keep g2.h k3
    walk_at "n"
    simp only [tlS, b_Lexer_lookahead]
    simp_all_arith only [g3.h.a70]
    exact h mh3 tk bf buf line g3 (k2.trans k3) hn t3
  simp only [tlS, b_Lexer_lookahead] at step
  cases hL : lexR num σ.rest with
  | none => exact fun mh' kx => hA hL mh' kx
  | some p =>
    obtain ⟨o, r'⟩ := p
    have := hB o r' hL
    cases o with
    | none => exact step _ _ _ this
    | some kv => obtain ⟨k, v⟩ := kv; exact step _ _ _ this
end
end Lx
namespace Lx
theorem G.list {mh : MH} {x a : Ad} {σ : LS} {vs ws : List V} (g : G mh x σ) (h : mh a = some (.list vs)) : G (mh.set a (.list ws)) x σ := by
  obtain ⟨fs, f1, f2⟩ := g.h.flds
  obtain ⟨dl, lf, l1, l2, l3, l4⟩ := g.h.limO
  have ne : ∀ b o, mh b = some o → (∀ l, o ≠ .list l) → b ≠ a := fun b o e n q => by subst q; rw [h] at e; cases e; exact n _ rfl
  have k : ∀ b o, mh b = some o → (∀ l, o ≠ .list l) → (mh.set a (.list ws)) b = some o := fun b o e n => by rw [set_ne (ne b o e n)]; exact e
  exact ⟨⟨k _ _ g.h.inst (by intro l q; cases q), ⟨fs, k _ _ f1 (by intro l q; cases q), f2⟩, k _ _ g.h.bufO (by intro l q; cases q), k _ _ g.h.kdO (by intro l q; cases q), ⟨dl, lf, k _ _ l1 (by intro l q; cases q), k _ _ l2 (by intro l q; cases q), l3, l4⟩, g.h.suf, g.h.len, g.h.small⟩, g.ln, g.sz⟩
theorem Kp.ext {m0 mh mh' : MH} {d bf bf' : Ad} (k : Kp mh d bf mh' bf') (x : Ext m0 mh) (hd : m0 d = none) (hb : m0 bf = none) : Ext m0 mh' := fun a o e => k.keep a o (x a o e) (by rintro rfl; rw [hd] at e; cases e) (by rintro rfl; rw [hb] at e; cases e)
theorem Kx.ext {m0 mh mh' : MH} {d bf : Ad} (k : Kx mh d bf mh') (x : Ext m0 mh) (hd : m0 d = none) (hb : m0 bf = none) : Ext m0 mh' := fun a o e => k a o (x a o e) (by rintro rfl; rw [hd] at e; cases e) (by rintro rfl; rw [hb] at e; cases e)
theorem Kp.none {m0 mh mh' : MH} {d bf bf' : Ad} (k : Kp mh d bf mh' bf') (x : Ext m0 mh) (hb : m0 bf = none) : m0 bf' = none := by
  rcases k.own with q | q
  · rw [q]; exact hb
  · cases e : m0 bf' with
    | none => rfl
    | some o => rw [x _ _ e] at q; cases q
theorem LX.ne_list {mh : MH} {x a : Ad} {σ : LS} {vs : List V} (g : LX mh x σ) (h : mh a = some (.list vs)) : a ≠ σ.d ∧ a ≠ σ.bf := by
  obtain ⟨fs, f1, f2⟩ := g.flds
  have b := g.bufO
  exact ⟨(by rintro rfl; rw [f1] at h; cases h), (by rintro rfl; rw [b] at h; cases h)⟩
noncomputable def tailL (num : List UInt8 → V) (o : Option (Int × V)) (r : List UInt8) : List V × Bool := match o with
  | none => ([], false)
  | some (k, v) => (.tup [.int k, v] :: (lexAll num r).1, (lexAll num r).2)
noncomputable def msr (o : Option (Int × V)) (r : List UInt8) : Nat := match o with
  | none => 0
  | some _ => r.length + 1
theorem lexAll_tail {num : List UInt8 → V} {l r : List UInt8} {o : Option (Int × V)} (h : lexR num l = some (o, r)) : lexAll num l = tailL num o r := by
  cases o with
  | none => exact lexAll_eos h
  | some p => obtain ⟨k, v⟩ := p; exact lexAll_tok h
noncomputable def HeapOK (mh : MH) (hp : Ad) (cs : List Int) (t : Nat) : Prop := ∃ c, mh hp = some (.list [.ref c, .int (t : Int)]) ∧ mh c = some (.list (cs.map V.int)) ∧ c ≠ hp
theorem HeapOK.ext {mh mh' : MH} {hp : Ad} {cs : List Int} {t : Nat} (h : HeapOK mh hp cs t) (e : Ext mh mh') : HeapOK mh' hp cs t := by
  obtain ⟨c, h1, h2, h3⟩ := h; exact ⟨c, e _ _ h1, e _ _ h2, h3⟩
inductive W_tokLoop (x : Ad) (a : Ad) (m0 : MH) (num : List UInt8 → V) (L : List V × Bool) (n : Nat) (st : St) : Prop
  | mk (i1 : st.loc 134 = some (.ref x)) (i2 : st.loc 20 = some (.ref a)) (tk : Ad) (σ : LS) (acc : List V) (o : Option (Int × V)) (i3 : st.loc 136 = some (.ref tk)) (i4 : G st.mh x σ) (i5 : σ.ahead = .none) (i6 : (∀ k v, o = some (k, v) → k ≠ 287)) (i7 : Ext m0 st.mh) (i8 : m0 σ.d = none) (i9 : m0 σ.bf = none) (i10 : st.mh a = some (.list acc)) (i11 : TokAt st.mh tk (tkv o).1 (tkv o).2) (i12 : (acc ++ (tailL num o σ.rest).1, (tailL num o σ.rest).2) = L) (i13 : acc.length + n ≤ 1001) (i14 : n = msr o σ.rest)
section
variable {C : Nat → Ad → List V → MH → (V → MH → Prop) → (MH → Prop) → Prop} {band : Int → Int → Int} (S : Sys C band)
include S
variable {num : List UInt8 → V} (hnum : ∀ b : List UInt8, b.length ≤ LIM → VN (num b) ∧ ∀ {n : Nat} {mh : MH} {lim : Ad} {Q : V → MH → Prop} {X : MH → Prop}, 5 ≤ n → LimOK mh lim → Q (num b) mh → C n 138 [.bytes b, .ref lim] mh Q X)
include hnum
theorem tokLoop {n : Nat} (hn : 10 ≤ n) {m0 mh : MH} {x a tk : Ad} {σ : LS} {acc : List V} {o : Option (Int × V)} {L : List V × Bool} {loc : Fs} (g : G mh x σ) (ha : σ.ahead = .none) (ho : ∀ k v, o = some (k, v) → k ≠ 287)
    (e0 : Ext m0 mh) (hd : m0 σ.d = none) (hb : m0 σ.bf = none) (a0 : m0 a = none) (hA : mh a = some (.list acc)) (t : TokAt mh tk (tkv o).1 (tkv o).2) (hL : (acc ++ (tailL num o σ.rest).1, (tailL num o σ.rest).2) = L) (hlen : acc.length + msr o σ.rest ≤ 1001)
    (h134 : loc 134 = some (.ref x)) (h20 : loc 20 = some (.ref a)) (h136 : loc 136 = some (.ref tk)) {P1 P2 P3 P4 P5 P6 P7 P8 P9 P10 P11 P12 P13 P14 P15 P16 P17 P18 P19 : P} {Q : Fl → St → Prop} {X : St → Prop} {kk : Nat}
    (hX : L.2 = true → ∀ loc' mh', loc' 20 = some (.ref a) → Ext m0 mh' → mh' a = some (.list L.1) → X ⟨loc', mh'⟩)
    (hQ : L.2 = false → ∀ loc' mh', loc' 20 = some (.ref a) → Ext m0 mh' → mh' a = some (.list L.1) → Q .next ⟨loc', mh'⟩) :
    wpS (Out.mk0 (C n) band) (.whil (.cmp1 (.attr (.loc 136 P1) 56 P2) .ne (.glob 69 (.int 287) P3) P4)
      (.cons (.expr (.meth (.loc 20 P5) 34 (.cons (.tup (.cons (.attr (.loc 136 P6) 56 P7) (.cons (.attr (.loc 136 P8) 11 P9) .nil)) kk P10) .nil) P11 P12) P13)
        (.cons (.assign 136 (.meth (.loc 134 P14) 137 .nil P15 P16) P17 P18) .nil)) P19) ⟨loc, mh⟩ Q X := by
  walk_at "d"; simp_arith only [h136]
  refine ⟨W_tokLoop x a m0 num L, ⟨_, h134, h20, tk, σ, acc, o, h136, g, ha, ho, e0, hd, hb, hA, t, hL, hlen, rfl⟩, ?_⟩
  clear g ha ho e0 hd hb hA t hL h134 h20 h136 hlen
  rintro n ⟨loc, mh⟩ ⟨h134, h20, tk, σ, acc, o, h136, g, ha, ho, e0, hd, hb, hA, t, hL, hlen, rfl⟩
  dsimp only at h134 h20 h136 g e0 hA t ⊢
  have l2 := l2
  cases o with
  | none =>
    have q : ((287 : Int) == 287) = true := rfl
    walk_at "d"; simp_arith only [h136, t.kind, tkv, q]
    rw [← hL] at hQ
    refine hQ rfl loc mh h20 e0 ?_
    show mh a = some (.list (acc ++ []))
    rw [List.append_nil]; exact hA
  | some p =>
    obtain ⟨k, v⟩ := p
    have k0 := ho k v rfl
    have q : (k == 287) = false := beq_eq_false_iff_ne.mpr k0
    have tk56 : attrV mh (.ref tk) 56 = some (.int k) := t.kind
    have tk11 : attrV mh (.ref tk) 11 = some v := t.value
    walk_at "d"; simp_arith only [h136, tk56, q]
    simp_all_arith only [h20, mk_lA hA, h136, tk56, tk11, l2, hA]
    refine ⟨by rw [limN]; lia, ?_⟩
    have g1 : G (mh.set a (.list (acc ++ [.tup [.int k, v]]))) x σ := g.list hA
    have e1 := e0.set (o := .list (acc ++ [.tup [.int k, v]])) a0
    have eL : ((acc ++ [.tup [.int k, v]]) ++ (lexAll num σ.rest).1, (lexAll num σ.rest).2) = L := by rw [← hL]; unfold tailL; simp
    simp_all_arith only [h134, g1.h.own 137 287 rfl]
    refine g_next S hnum (by lia) g1 ha ?_ ?_
    · intro hR mh' kx
      rw [lexAll_err hR, List.append_nil] at eL
      rw [← eL] at hX
      refine hX rfl loc mh' h20 (kx.ext e1 hd hb) ?_
      obtain ⟨n1, n2⟩ := g1.h.ne_list (a := a) set_self
      exact kx a _ set_self n1 n2
    · intro o' r' hR mh2 tk2 bf buf line g2 k2 hn2 t2
      rw [lexAll_tail hR] at eL
      walk_at "n"
      obtain ⟨n1, n2⟩ := g1.h.ne_list (a := a) set_self
      have lt : ∀ kv, o' = some kv → r'.length < σ.rest.length := fun kv h => by
        subst h; obtain ⟨k', v'⟩ := kv; exact (lexR_lt hR).1
      have le : r'.length ≤ σ.rest.length := by
        cases o' with
        | none => rw [lexR_eos hR]; exact Nat.zero_le _
        | some kv => exact Nat.le_of_lt (lt kv rfl)
      simp only [msr] at hlen
      refine ⟨_, ?_, by first | exact h134 | simp [Fs.set, h134], by first | exact h20 | simp [Fs.set, h20], tk2, _, acc ++ [V.tup [.int k, v]], o', by first | rfl | simp [Fs.set], g2, ha, ?_, k2.ext e1 hd hb, hd, k2.none e1 hb, k2.keep _ _ set_self n1 n2, t2, eL, ?_, rfl⟩
      · cases o' with
        | none => exact Nat.succ_pos _
        | some kv => have := lt kv rfl; exact Nat.succ_lt_succ this
      · rintro k' v' rfl; exact (lexR_lt hR).2
      · cases o' with
        | none => simp only [msr, List.length_append, List.length_cons, List.length_nil]; lia
        | some kv =>
          have := lt kv rfl
          show (acc ++ [V.tup [.int k, v]]).length + (r'.length + 1) ≤ 1001
          simp only [List.length_append, List.length_cons, List.length_nil]; lia
theorem c_told {n : Nat} (hn : 11 ≤ n) {U : List UInt8} (hU : U.length ≤ 1000) {mh : MH} {Q X} (hQ : ∀ a mh', mh a = none → Ext mh mh' → mh' a = some (.list (lexAll num U).1) → Q (.tup [.ref a, .bool (lexAll num U).2]) mh') : C n 490 [.bytes U] mh Q X := by
  refine fn1 S (ps := p_f_law_told) (b := b_f_law_told) (by exact List.mem_of_getElem? (i := 48) rfl) (by lia) rfl fun m e => ?_
  have l2 := l2
  dsimp only [p_f_law_told, b_f_law_told]; walk_at "d"; simp_arith only [wpBody]
  simp_all_arith only [wpBody]
  refine c_limits S (by lia) fun lim m1 hlim x1 hl => ?_
  try walk_at "d"; simp_arith only [wpBody]
  refine c_lexer S (by lia) hU hl fun x m2 σ hx x2 g2 eT eR eA hd hb => ?_
  walk_at "d"; simp_arith only [l2]
  refine ⟨Nat.zero_le _, fun a ha => ?_⟩
  have x12 := x1.trans x2
  have a0 : mh a = none := by
    cases q : mh a with
    | none => rfl
    | some o => rw [x12 _ _ q] at ha; cases ha
  have d0 : mh σ.d = none := by
    cases q : mh σ.d with
    | none => rfl
    | some o => rw [x1 _ _ q] at hd; cases hd
  have b0 : mh σ.bf = none := by
    cases q : mh σ.bf with
    | none => rfl
    | some o => rw [x1 _ _ q] at hb; cases hb
  have x3 : Ext m2 (m2.set a (.list [])) := Ext.new ha
  have g3 := g2.ext x3
  have e3 := x12.trans x3
  have hX : ∀ (loc : Fs) (mh' : MH), loc 20 = some (.ref a) → Ext mh mh' → mh' a = some (.list (lexAll num U).1) → (lexAll num U).2 = true → Q (.tup [.ref a, .bool true]) mh' := fun loc mh' h20 ee hA hb => by
    have := hQ a mh' a0 ee hA
    rw [hb] at this
    exact this
  have hF : ∀ (loc : Fs) (mh' : MH), loc 20 = some (.ref a) → Ext mh mh' → mh' a = some (.list (lexAll num U).1) → (lexAll num U).2 = false → Q (.tup [.ref a, .bool false]) mh' := fun loc mh' h20 ee hA hb => by
    have := hQ a mh' a0 ee hA
    rw [hb] at this
    exact this
  simp_all_arith only [l2]
  simp_all_arith only [g3.h.own 137 287 rfl]
  refine g_next S hnum (by lia) g3 eA ?_ ?_
  · intro hR mh' kx
    rw [eR] at hR
    obtain ⟨n1, n2⟩ := g3.h.ne_list (a := a) set_self
    exact hX (Fs.set (fun u_ => none) 20 (.ref a)) mh' (by first | rfl | simp [Fs.set]) (kx.ext e3 d0 b0) (by rw [lexAll_err hR]; exact kx a _ set_self n1 n2) (by rw [lexAll_err hR])
  · intro o r' hR mh2 tk bf buf line g4 k4 hn4 t4
    have hR' := hR
    rw [eR] at hR'
    obtain ⟨n1, n2⟩ := g3.h.ne_list (a := a) set_self
    have hlt : ∀ kv, o = some kv → r'.length < U.length := fun kv h => by
      subst h; obtain ⟨k', v'⟩ := kv; exact (lexR_lt hR').1
    walk_at "n"
    refine tokLoop S hnum (by lia) (m0 := mh) (acc := []) (o := o) (L := lexAll num U) g4 eA ?_ (k4.ext e3 d0 b0) d0 (k4.none e3 b0) a0 (k4.keep _ _ set_self n1 n2) t4 ?_ ?_ (by first | rfl | simp [Fs.set]) (by first | rfl | simp [Fs.set]) (by first | rfl | simp [Fs.set]) ?_ ?_
    · rintro k v rfl; exact (lexR_lt hR').2
    · rw [lexAll_tail hR']; rfl
    · cases o with
      | none => simp [msr]
      | some kv => have := hlt kv rfl; simp only [List.length_nil]; show 0 + (r'.length + 1) ≤ 1001; lia
    · intro hb loc' mh' h20 ee hA
      dsimp only
      rw [h20]
      exact hX loc' mh' h20 ee hA hb
    · intro hb loc' mh' h20 ee hA
      dsimp only
      walk_at "n"
      simp_all_arith only [h20, l2]
      exact hF loc' mh' h20 ee hA hb
theorem c_all {n : Nat} (hn : 11 ≤ n) {U : List UInt8} (hU : U.length ≤ 1000) (hf : (lexAll num U).2 = false) {lim : Ad} {mh : MH} (hl : LimOK mh lim) {Q X} (hQ : ∀ a mh', mh a = none → Ext mh mh' → mh' a = some (.list (lexAll num U).1) → Q (.ref a) mh') : C n 476 [.bytes U, .bytes [61, 108, 97, 119], .ref lim] mh Q X := by
  refine fn1 S (ps := p_all_tokens) (b := b_all_tokens) (by exact List.mem_of_getElem? (i := 46) rfl) (by lia) rfl fun m e => ?_
  have l2 := l2
  dsimp only [p_all_tokens, b_all_tokens]; walk_at "d"; simp_arith only [wpBody]
  simp_all_arith only [wpBody]
  refine c_lexer S (by lia) hU hl fun x m2 σ hx x2 g2 eT eR eA d0 b0 => ?_
  walk_at "d"; simp_arith only [l2]
  refine ⟨Nat.zero_le _, fun a ha => ?_⟩
  have a0 : mh a = none := by
    cases q : mh a with
    | none => rfl
    | some o => rw [x2 _ _ q] at ha; cases ha
  have x3 : Ext m2 (m2.set a (.list [])) := Ext.new ha
  have g3 := g2.ext x3
  have e3 := x2.trans x3
  simp_all_arith only [g3.h.own 137 287 rfl]
  refine g_next S hnum (by lia) g3 eA ?_ ?_
  · intro hR mh' kx
    rw [eR] at hR
    rw [lexAll_err hR] at hf; cases hf
  · intro o r' hR mh2 tk bf buf line g4 k4 hn4 t4
    have hR' := hR
    rw [eR] at hR'
    obtain ⟨n1, n2⟩ := g3.h.ne_list (a := a) set_self
    have hlt : ∀ kv, o = some kv → r'.length < U.length := fun kv h => by
      subst h; obtain ⟨k', v'⟩ := kv; exact (lexR_lt hR').1
    walk_at "n"
    refine tokLoop S hnum (by lia) (m0 := mh) (acc := []) (o := o) (L := lexAll num U) g4 eA ?_ (k4.ext e3 d0 b0) d0 (k4.none e3 b0) a0 (k4.keep _ _ set_self n1 n2) t4 ?_ ?_ (by first | rfl | simp [Fs.set]) (by first | rfl | simp [Fs.set]) (by first | rfl | simp [Fs.set]) ?_ ?_
    · rintro k v rfl; exact (lexR_lt hR').2
    · rw [lexAll_tail hR']; rfl
    · cases o with
      | none => simp [msr]
      | some kv => have := hlt kv rfl; simp only [List.length_nil]; show 0 + (r'.length + 1) ≤ 1001; lia
    · intro hb; rw [hf] at hb; cases hb
    · intro hb loc' mh' h20 ee hA
      dsimp only
      simp_all_arith only [h20]
      exact hQ a mh' a0 ee hA
end
inductive W_c_ends (mh : MH) (T : List UInt8) (n : Nat) (st : St) : Prop
  | mk (i1 : st.mh = mh) (i2 : st.loc 10 = some (.bytes T)) (a k : Nat) (i3 : st.loc 18 = some (.int (a : Int))) (i4 : st.loc 20 = some (.int (k : Int))) (i5 : Lines T a (k + 1)) (i6 : a ≤ T.length) (i7 : n = T.length - a)
section
variable {C : Nat → Ad → List V → MH → (V → MH → Prop) → (MH → Prop) → Prop} {band : Int → Int → Int} (S : Sys C band)
include S
theorem c_ends {n : Nat} (hn : 1 ≤ n) {T : List UInt8} (hT : T.length ≤ 1000) {mh : MH} {Q X} (hQ : ∀ k : Nat, Lines T T.length (k + 1) → Q (.int (k : Int)) mh) : C n 497 [.bytes T] mh Q X := by
  refine fn1 S (ps := p_f_law_ends) (b := b_f_law_ends) (by exact List.mem_of_getElem? (i := 49) rfl) (by lia) rfl fun m e => ?_
  have l2 := l2
  dsimp only [p_f_law_ends, b_f_law_ends]; walk_at "d"; simp_arith only [wpBody]
  simp_all_arith only [l2]
  simp_all_arith only [wpBody]
  refine ⟨W_c_ends mh T, ⟨_, rfl, by first | rfl | simp [Fs.set], 0, 0, by first | rfl | simp [Fs.set], by first | rfl | simp [Fs.set], Lines.zero, Nat.zero_le _, rfl⟩, ?_⟩
  rintro n ⟨loc, mh'⟩ ⟨rfl, h10, a, k, h18, h20, hL, ha, rfl⟩
  dsimp only at h10 h18 h20 hQ ⊢
  walk_at "d"; simp_arith only [h10, h18]
  by_cases q : a < T.length
  · have q' : (a : Int) < (T.length : Int) := by lia
    have e1 : (a : Int) + 1 = ((a + 1 : Nat) : Int) := by lia
    have e2 : (a : Int) + 2 = ((a + 2 : Nat) : Int) := by lia
    have ek : (k : Int) + 1 = ((k + 1 : Nat) : Int) := by lia
    have hc : T[a]? = some T[a] := List.getElem?_eq_getElem q
    have cut1 : cut T a (a + 1) = [T[a]] := by
      unfold cut
      rw [List.take_succ_eq_append_getElem q, List.drop_append_of_le_length (by simp; lia), List.drop_of_length_le (by rw [List.length_take]; exact Nat.min_le_left _ _)]; rfl
    have cut2 : cut T (a + 1) (a + 2) = (match T[a + 1]? with | some e => [e] | none => []) := by
      unfold cut
      by_cases z : a + 1 < T.length
      · rw [List.getElem?_eq_getElem z, List.take_succ_eq_append_getElem z, List.drop_append_of_le_length (by simp; lia), List.drop_of_length_le (by rw [List.length_take]; exact Nat.min_le_left _ _)]; rfl
      · rw [List.getElem?_eq_none_iff.mpr (Nat.not_lt.mp z), List.drop_of_length_le (by rw [List.length_take]; exact Nat.le_trans (Nat.min_le_right _ _) (Nat.not_lt.mp z))]
    have st := hL.step
    unfold stepL at st
    simp only [hc] at st
    walk_at "d"; simp_arith only [q']
    simp_all_arith only [h10, h18, e1, e2]
    refine slice_ft (by rw [limN]; lia) (by rw [limN]; lia) ?_
    try walk_at "d"; simp_arith only [h10, h18, e1, e2]
    refine slice_ft (by rw [limN]; lia) (by rw [limN]; lia) ?_
    rw [cut1, cut2]
    try walk_at "d"; simp_arith only [l2]
    have bN : ∀ c : UInt8, (([c] : List UInt8) == [10] || (([c] : List UInt8) == [13] || false)) = isN c := fun c => by
      have h1 : (([c] : List UInt8) == [10]) = ((c.toNat : Int) == 10) := by
        have d : ((c.toNat : Int) == 10) = decide (c = 10) := u8eq (k := 10) (by lia)
        rw [d]; by_cases z : c = 10 <;> simp [z]
      have h2 : (([c] : List UInt8) == [13]) = ((c.toNat : Int) == 13) := by
        have d : ((c.toNat : Int) == 13) = decide (c = 13) := u8eq (k := 13) (by lia)
        rw [d]; by_cases z : c = 13 <;> simp [z]
      rw [h1, h2, Bool.or_false]; rfl
    have bE : (([] : List UInt8) == [10] || (([] : List UInt8) == [13] || false)) = false := rfl
    simp_all_arith only [l2, bN]
    cases hN : isN T[a]
    · rw [hN] at st
      simp only [Bool.false_eq_true, if_false] at st
      walk_at "d"; simp_arith only [wpBody]
      walk_at "n"
      simp_all_arith only [h18, e1]
      walk_at "n"
      exact ⟨T.length - (a + 1), sl1 q, rfl, by first | exact h10 | simp [Fs.set, h10], a + 1, k, by first | rfl | simp [Fs.set], by first | exact h20 | simp [Fs.set, h20], st, q, rfl⟩
    · rw [hN] at st
      simp only [if_true] at st
      walk_at "d"; simp_arith only [wpBody]
      cases he : T[a + 1]? with
      | none =>
        rw [he] at st
        simp_all_arith only [h18, h20, ek, l2, bE]
        walk_at "n"
        have e0 : (a : Int) + 0 + 1 = ((a + 1 : Nat) : Int) := by lia
        simp_all_arith only [e0]
        walk_at "n"
        exact ⟨T.length - (a + 1), sl1 q, rfl, by first | exact h10 | simp [Fs.set, h10], a + 1, k + 1, by first | rfl | simp [Fs.set], by first | rfl | simp [Fs.set], st, q, rfl⟩
      | some f =>
        rw [he] at st
        have q2 : a + 1 < T.length := (List.getElem?_eq_some_iff.mp he).1
        have hne : (([f] : List UInt8) == [T[a]]) = (f == T[a]) := by
          by_cases z : f = T[a] <;> simp [z]
        simp_all_arith only [h18, h20, ek, l2, bN]
        simp only at st
        cases hf : isN f
        · rw [hf] at st
          simp only [Bool.false_and, Bool.false_eq_true, if_false] at st
          walk_at "d"; simp_arith only [l2, h18]
          walk_at "n"
          have e0 : (a : Int) + 0 + 1 = ((a + 1 : Nat) : Int) := by lia
          simp_all_arith only [e0]
          walk_at "n"
          exact ⟨T.length - (a + 1), sl1 q, rfl, by first | exact h10 | simp [Fs.set, h10], a + 1, k + 1, by first | rfl | simp [Fs.set], by first | rfl | simp [Fs.set], st, q, rfl⟩
        · rw [hf] at st
          walk_at "d"; simp_arith only [hne]
          cases hz : (f == T[a])
          · rw [hz] at st
            simp only [Bool.not_false, Bool.and_self, if_true] at st
            walk_at "d"; simp_arith only [l2, h18]
            walk_at "n"
            have e0 : (a : Int) + 1 + 1 = ((a + 2 : Nat) : Int) := by lia
            simp_all_arith only [e0]
            walk_at "n"
            exact ⟨T.length - (a + 2), sl2 q, rfl, by first | exact h10 | simp [Fs.set, h10], a + 2, k + 1, by first | rfl | simp [Fs.set], by first | rfl | simp [Fs.set], st, q2, rfl⟩
          · rw [hz] at st
            simp only [Bool.not_true, Bool.and_false, Bool.false_eq_true, if_false] at st
            walk_at "d"; simp_arith only [l2, h18]
            walk_at "n"
            have e0 : (a : Int) + 0 + 1 = ((a + 1 : Nat) : Int) := by lia
            simp_all_arith only [e0]
            walk_at "n"
            exact ⟨T.length - (a + 1), sl1 q, rfl, by first | exact h10 | simp [Fs.set, h10], a + 1, k + 1, by first | rfl | simp [Fs.set], by first | rfl | simp [Fs.set], st, q, rfl⟩
  · have q' : ¬ (a : Int) < (T.length : Int) := by lia
    walk_at "d"; simp_arith only [q']
    simp_all_arith only [h20]
    have : a = T.length := by lia
    subst this
    exact hQ k hL
theorem c_tossed {n : Nat} (hn : 1 ≤ n) {mh : MH} {hp : Ad} {cs : List Int} {t : Nat} (h : HeapOK mh hp cs t) (ht : t ≤ 100000) {many : Nat} (hm : 0 < many) {Q X}
    (hQ : ∀ k c, 0 ≤ k → k < (many : Int) → mh hp = some (.list [.ref c, .int (t : Int)]) → HeapOK (mh.set hp (.list [.ref c, .int ((t + 1 : Nat) : Int)])) hp cs (t + 1) → Q (.int k) (mh.set hp (.list [.ref c, .int ((t + 1 : Nat) : Int)]))) : C n 483 [.ref hp, .int (many : Int)] mh Q X := by
  refine fn1 S (ps := p_f_law_tossed) (b := b_f_law_tossed) (by exact List.mem_of_getElem? (i := 47) rfl) (by lia) rfl fun m e => ?_
  obtain ⟨c, h1, h2, h3⟩ := h
  have m0 : (0 : Int) < (many : Int) := by lia
  have et : (t : Int) + 1 = ((t + 1 : Nat) : Int) := by lia
  dsimp only [p_f_law_tossed, b_f_law_tossed]; walk_at "d"; simp_arith only [wpBody]
  simp_all_arith only [h1]
  have i1 : (1 : Int).toNat = 1 := rfl
  have z1 : (0 : Int) ≤ 1 := by decide
  have z2 : (1 : Nat) < 2 := by decide
  simp_all_arith only [h1, et, i1, z1, z2, List.set]
  have hh : HeapOK (mh.set hp (.list [.ref c, .int ((t + 1 : Nat) : Int)])) hp cs (t + 1) := ⟨c, set_self, by rw [set_ne h3]; exact h2, h3⟩
  have h2' : (mh.set hp (.list [.ref c, .int ((t + 1 : Nat) : Int)])) c = some (.list (cs.map V.int)) := by rw [set_ne h3]; exact h2
  by_cases q : t < cs.length
  · have q' : (t : Int) < ((cs.map V.int).length : Int) := by rw [List.length_map]; lia
    have hi : ∀ (O : Out), idxV O (mh.set hp (.list [.ref c, .int ((t + 1 : Nat) : Int)])) (.ref c) (.int (t : Int)) = some (.int cs[t]) := fun O => idx_l h2' (by simp [q])
    simp_all_arith only [h2', q', hi, m0]
    exact hQ _ c (Int.emod_nonneg _ (by lia)) (Int.emod_lt_of_pos _ m0) h1 hh
  · have q' : ¬ (t : Int) < ((cs.map V.int).length : Int) := by rw [List.length_map]; lia
    have n7 : (7 : Int).natAbs < 4611686018427387904 := by decide
    have nt : (t : Int).natAbs < 4611686018427387904 := by lia
    have n2 : (2 : Int).natAbs < 4611686018427387904 := by decide
    have z3 : (0 : Int) < 2 := by decide
    simp_all_arith only [h2', q', n7, nt, n2, z3, true_or, m0]
    exact hQ _ c (Int.emod_nonneg _ (by lia)) (Int.emod_lt_of_pos _ m0) h1 hh
end
end Lx
namespace Lx
theorem eqL_cons {f : V → V → Option Bool} {x y : V} {xs ys : List V} (h1 : f x y = some true) (h2 : eqL f xs ys = some true) : eqL f (x :: xs) (y :: ys) = some true := by
  show (f x y).bind _ = _
  rw [h1]
  show (eqL f xs ys).map _ = _
  rw [h2]; rfl
theorem eq0_int (i : Int) : eq0 (.int i) (.int i) = some true := congrArg some (beq_self_eq_true i)
theorem eq0_rflC {v : V} (h : plainV v) : eq0 v v = some true := by
  rcases h with rfl | ⟨i, rfl⟩ | ⟨b, rfl⟩
  · rfl
  · exact eq0_int i
  · exact congrArg some (beq_self_eq_true b)
theorem eq2_refl {mh : MH} {v : V} (h : plainV v) : eq2 mh v v = some true := by
  have e := eq0_rflC h
  rcases h with rfl | ⟨i, rfl⟩ | ⟨b, rfl⟩ <;> exact e
noncomputable def tokV (u : V) : Prop := ∃ k v, u = .tup [.int k, v] ∧ plainV v
theorem eq1_rflC {u : V} (h : tokV u) : eq1 u u = some true := by
  obtain ⟨k, v, rfl, hv⟩ := h
  exact eqL_cons (eq0_int k) (eqL_cons (eq0_rflC hv) rfl)
theorem eqLs_rflC {l : List V} (h : ∀ u ∈ l, tokV u) : eqLs eq1 l l = some true := by
  unfold eqLs
  rw [if_pos rfl]
  induction l with
  | nil => rfl
  | cons u r ih => exact eqL_cons (eq1_rflC (h u (.head _))) (ih fun v hv => h v (.tail _ hv))
section
variable {num : List UInt8 → V} (hvn : ∀ b, VN (num b))
include hvn
theorem lexR_plain {l : List UInt8} {k : Int} {v : V} {s : List UInt8} (e : lexR num l = some (some (k, v), s)) : plainV v := by
  unfold lexR at e
  split at e
  · cases e
  · cases e
  · obtain ⟨_, _, h, _, _, q⟩ := lexT_all _ _ e
    cases h
    exact q hvn
theorem lexAll_plain : ∀ (n : Nat) (l : List UInt8), l.length ≤ n → ∀ u ∈ (lexAll num l).1, tokV u := by
  intro n
  induction n with
  | zero =>
    intro l hl u hu
    have h1 := lexAll_len (num := num) 0 l hl
    have : (lexAll num l).1 = [] := List.eq_nil_of_length_eq_zero (by lia)
    rw [this] at hu; cases hu
  | succ n ih =>
    intro l hl u hu
    cases h : lexR num l with
    | none => rw [lexAll_err h] at hu; cases hu
    | some p =>
      obtain ⟨o, r⟩ := p
      cases o with
      | none => rw [lexAll_eos h] at hu; cases hu
      | some kv =>
        obtain ⟨k, v⟩ := kv
        rw [lexAll_tok h] at hu
        rcases List.mem_cons.mp hu with rfl | hu
        · exact ⟨k, v, rfl, lexR_plain hvn h⟩
        · exact ih r (by have := (lexR_lt h).1; lia) u hu
end
theorem pos_len {mh : MH} {x : Ad} {σ : LS} (h : LX mh x σ) : σ.pos ≤ 1000 ∧ σ.pos ≤ σ.T.length := by
  exact ⟨Nat.le_trans (Nat.sub_le _ _) h.small, Nat.sub_le _ _⟩
theorem drop_get {l : List V} {i : Nat} {u : V} {r : List V} (h : l.drop i = u :: r) : l[i]? = some u ∧ l.drop (i + 1) = r ∧ i < l.length := by
  refine ⟨?_, ?_, ?_⟩
  · have : (l.drop i)[0]? = some u := by rw [h]; rfl
    simpa using this
  · rw [← List.drop_drop, h]; rfl
  · apply Nat.lt_of_not_le; intro q; rw [List.drop_eq_nil_of_le q] at h; cases h
theorem HeapOK.keep {mh mh' : MH} {x hp : Ad} {σ : LS} {cs : List Int} {t : Nat} {bf' : Ad} (h : HeapOK mh hp cs t) (l : LX mh x σ) (k : Kp mh σ.d σ.bf mh' bf') : HeapOK mh' hp cs t := by
  obtain ⟨c, h1, h2, h3⟩ := h
  obtain ⟨n1, n2⟩ := l.ne_list h1
  obtain ⟨m1, m2⟩ := l.ne_list h2
  exact ⟨c, k.keep _ _ h1 n1 n2, k.keep _ _ h2 m1 m2, h3⟩
theorem list_keep {mh mh' : MH} {x a : Ad} {σ : LS} {vs : List V} {bf' : Ad} (h : mh a = some (.list vs)) (l : LX mh x σ) (k : Kp mh σ.d σ.bf mh' bf') : mh' a = some (.list vs) := by
  obtain ⟨n1, n2⟩ := l.ne_list h
  exact k.keep _ _ h n1 n2
structure Inv (num : List UInt8 → V) (T : List UInt8) (L : List V × Bool) (cs : List Int) (hp a x : Ad) (i far : Nat) (mh : MH) (σ : LS) (t : Nat) : Prop where
  g : G mh x σ
  tT : σ.T = T
  hk : HeapOK mh hp cs t
  ht : t ≤ 20 + i
  tl : mh a = some (.list L.1)
  ne : a ≠ hp
  far : far ≤ σ.pos
  pl : ∀ u ∈ L.1, tokV u
  st : (σ.ahead = .none ∧ lexAll num σ.rest = (L.1.drop i, L.2)) ∨ (∃ tk k v, σ.ahead = .ref tk ∧ TokAt mh tk k v ∧ L.1.drop i = .tup [.int k, v] :: (lexAll num σ.rest).1 ∧ (lexAll num σ.rest).2 = L.2)
section
variable {C : Nat → Ad → List V → MH → (V → MH → Prop) → (MH → Prop) → Prop} {band : Int → Int → Int} (S : Sys C band)
include S
variable {num : List UInt8 → V} (hnum : ∀ b : List UInt8, b.length ≤ LIM → VN (num b) ∧ ∀ {n : Nat} {mh : MH} {lim : Ad} {Q : V → MH → Prop} {X : MH → Prop}, 5 ≤ n → LimOK mh lim → Q (num b) mh → C n 138 [.bytes b, .ref lim] mh Q X) (hvn : ∀ b, VN (num b))
include hnum hvn
theorem law_next {n : Nat} (hn : 10 ≤ n) {T : List UInt8} {L : List V × Bool} {cs : List Int} {hp a x : Ad} {i far : Nat} {mh : MH} {σ : LS} {t : Nat} (I : Inv num T L cs hp a x i far mh σ t) (hi : i < L.1.length) {Q X}
    (hQ : ∀ mh' σ' tk k v, G mh' x σ' → σ'.T = T → HeapOK mh' hp cs t → mh' a = some (.list L.1) → σ.pos ≤ σ'.pos → σ'.ahead = .none → TokAt mh' tk k v → L.1[i]? = some (.tup [.int k, v]) → plainV v → lexAll num σ'.rest = (L.1.drop (i + 1), L.2) → Q (.ref tk) mh') : C n 287 [.ref x] mh Q X := by
  have hpl : ∀ k v, L.1[i]? = some (.tup [.int k, v]) → plainV v := fun k v h => by
    obtain ⟨k', v', e, p⟩ := I.pl _ (List.mem_of_getElem? h)
    cases e; exact p
  rcases I.st with ⟨ha, h⟩ | ⟨tk, k, v, ha, ht, h, h2⟩
  · refine g_next S hnum hn I.g ha ?_ ?_
    · intro hR
      rw [lexAll_err hR] at h
      have q := congrArg Prod.fst h
      simp only at q
      have := congrArg List.length q; simp at this; exact abs0 hi this
    · intro o r' hR mh' tk bf buf line g' k' _ t'
      cases o with
      | none =>
        rw [lexAll_eos hR] at h
        have q := congrArg Prod.fst h
        simp only at q
        have := congrArg List.length q; simp at this; exact abs0 hi this
      | some kv =>
        obtain ⟨k, v⟩ := kv
        rw [lexAll_tok hR] at h
        have q1 := congrArg Prod.fst h
        have q2 := congrArg Prod.snd h
        simp only at q1 q2
        obtain ⟨d1, d2, d3⟩ := drop_get q1.symm
        have lt := (lexR_lt hR).1
        refine hQ mh' _ tk k v g' I.tT (I.hk.keep I.g.h k') (list_keep I.tl I.g.h k') ?_ ha t' d1 (hpl _ _ d1) ?_
        · exact Nat.sub_le_sub_left (Nat.le_of_lt lt) _
        · show lexAll num r' = _
          rw [d2, ← q2]
  · obtain ⟨d1, d2, d3⟩ := drop_get h
    refine g_next_ahead S hnum hn I.g ha fun mh' g' k' => ?_
    refine hQ mh' _ tk k v g' I.tT (I.hk.keep I.g.h k') (list_keep I.tl I.g.h k') (Nat.le_refl _) rfl (ht.keep I.g.h k') d1 (hpl _ _ d1) ?_
    show lexAll num σ.rest = _
    rw [d2, ← h2]
end
end Lx
namespace Lx
noncomputable def whB : Ss → Ss
  | .cons (.whil _ b _) _ => b
  | _ => .nil
theorem eqL2 {mh : MH} {k : Int} {v : V} (h : plainV v) : eqL (eq2 mh) [.int k, v] [.int k, v] = some true := eqL_cons (eq0_int k) (eqL_cons (eq2_refl h) rfl)
theorem eqR {mh : MH} {a b : Ad} {l : List V} (ha : mh a = some (.list l)) (hb : mh b = some (.list l)) (h : ∀ u ∈ l, tokV u) : eq2 mh (.ref a) (.ref b) = some true := by
  show ((mh a).bind moList).bind _ = _
  rw [ha]
  show ((mh b).bind moList).bind _ = _
  rw [hb]
  exact eqLs_rflC h
theorem eqL3 {mh : MH} {a b : Ad} {l : List V} {f : Bool} (ha : mh a = some (.list l)) (hb : mh b = some (.list l)) (h : ∀ u ∈ l, tokV u) : eqL (eq2 mh) [.ref a, .bool f] [.ref b, .bool f] = some true :=
  eqL_cons (eqR ha hb h) (eqL_cons (congrArg some (beq_self_eq_true f)) rfl)
inductive LJ (num : List UInt8 → V) (T : List UInt8) (L : List V × Bool) (cs : List Int) (hp a x : Ad) (n : Nat) (st : St) : Prop
  | mk (i1 : st.loc 10 = some (.bytes T)) (i2 : st.loc 138 = some (.ref hp)) (i3 : st.loc 145 = some (.ref a)) (i4 : st.loc 146 = some (.bool L.2)) (i5 : st.loc 134 = some (.ref x)) (i far t : Nat) (σ : LS) (i6 : i ≤ L.1.length) (i7 : st.loc 124 = some (.int (i : Int))) (i8 : st.loc 149 = some (.int (far : Int))) (i9 : Inv num T L cs hp a x i far st.mh σ t) (i10 : n = L.1.length - i)
section
variable {C : Nat → Ad → List V → MH → (V → MH → Prop) → (MH → Prop) → Prop} {band : Int → Int → Int} (S : Sys C band)
include S
theorem ends_line {n : Nat} (hn : 1 ≤ n) {mh mh' : MH} {x : Ad} {σ : LS} (g : G mh x σ) {U : List UInt8} (hU : U = σ.T.take σ.pos) {Q X} (hQ : Q (.int ((σ.line : Int) - 1)) mh') : C n 497 [.bytes U] mh' Q X := by
  subst hU
  have hp := pos_len g.h
  have hlen : (σ.T.take σ.pos).length = σ.pos := by rw [List.length_take]; lia
  refine c_ends S hn (by rw [hlen]; lia) fun k hk => ?_
  rw [hlen] at hk
  have := (g.ln.take).unique hk
  have e : ((k : Nat) : Int) = (σ.line : Int) - 1 := by lia
  rw [e]; exact hQ
variable {num : List UInt8 → V} (hnum : ∀ b : List UInt8, b.length ≤ LIM → VN (num b) ∧ ∀ {n : Nat} {mh : MH} {lim : Ad} {Q : V → MH → Prop} {X : MH → Prop}, 5 ≤ n → LimOK mh lim → Q (num b) mh → C n 138 [.bytes b, .ref lim] mh Q X) (hvn : ∀ b, VN (num b))
include hnum
theorem law_check {n : Nat} (hn : 12 ≤ n) {L : List V × Bool} {a x : Ad} {mh : MH} {σ : LS} {i ah : Nat} {loc : Fs} (g : G mh x σ) (tl : mh a = some (.list L.1)) (pl : ∀ u ∈ L.1, tokV u) (hs : lexAll num σ.rest = (L.1.drop (i + ah), L.2)) (hi : i + ah ≤ 1001) (hLl : L.1.length ≤ 1000)
    (h10 : loc 10 = some (.bytes σ.T)) (h145 : loc 145 = some (.ref a)) (h146 : loc 146 = some (.bool L.2)) (h134 : loc 134 = some (.ref x)) (h124 : loc 124 = some (.int (i : Int))) (h70 : loc 70 = some (.int (ah : Int))) {Q : Fl → St → Prop} {X : St → Prop}
    (hQ : ∀ mh', Ext mh mh' → Q .next ⟨loc, mh'⟩) : wpSs (Out.mk0 (C n) band) (tlS (tlS (tlS (tlS (tlS (whB (tlS (tlS (tlS (tlS (tlS (tlS b_law))))))))))))  ⟨loc, mh⟩ Q X := by
  have l2 := l2
  have hp := pos_len g.h
  have ei : (i : Int) + (ah : Int) = ((i + ah : Nat) : Int) := by lia
  simp only [tlS, whB, b_law]
  simp_all_arith only [h10, h134, g.h.a18]
  refine slice_from (by rw [limN]; lia) ?_
  try walk_at "d"; simp_arith only [h10, h134, g.h.a18]
  rw [g.h.suf]
  refine c_told S hnum (by lia) (by have := g.h.len; have := g.h.small; lia) fun a2 m1 ha2 e1 h2 => ?_
  have g1 := g.ext e1
  have tl1 := e1 _ _ tl
  walk_at "d"; simp_arith only [h145, h124, h70, ei]
  refine sliceV_l tl1 (bound_n (by rw [limN]; lia)) (bound_none rfl) fun a3 ha3 => ?_
  rw [cutL]
  have e2 : Ext m1 (m1.set a3 (.list (L.1.drop (i + ah)))) := Ext.new ha3
  have g2 := g1.ext e2
  have h2' := e2 _ _ h2
  rw [hs] at h2'
  have hE : eqL (eq2 (m1.set a3 (.list (L.1.drop (i + ah))))) [.ref a2, .bool (lexAll num σ.rest).2] [.ref a3, .bool L.2] = some true := by
    rw [hs]
    exact eqL3 h2' set_self (fun u hu => pl u (List.mem_of_mem_drop hu))
  walk_at "d"; simp_arith only [h146, l2, hE, h134, g2.h.a43, h10, g2.h.a18]
  refine slice_to (by rw [limN]; lia) ?_
  try walk_at "d"; simp_arith only [h10]
  refine ends_line S (by lia) g2 rfl ?_
  have eq : ((σ.line : Int) == 1 + ((σ.line : Int) - 1)) = true := by rw [beq_iff_eq]; lia
  walk_at "d"; simp_arith only [eq]
  walk_at "n"; walk_at "n"
  exact hQ _ (e1.trans e2)
end
end Lx
namespace Lx
section
variable {C : Nat → Ad → List V → MH → (V → MH → Prop) → (MH → Prop) → Prop} {band : Int → Int → Int} (S : Sys C band)
include S
variable {num : List UInt8 → V} (hnum : ∀ b : List UInt8, b.length ≤ LIM → VN (num b) ∧ ∀ {n : Nat} {mh : MH} {lim : Ad} {Q : V → MH → Prop} {X : MH → Prop}, 5 ≤ n → LimOK mh lim → Q (num b) mh → C n 138 [.bytes b, .ref lim] mh Q X) (hvn : ∀ b, VN (num b))
include hnum hvn
theorem law_loop {n : Nat} (hn : 12 ≤ n) {T : List UInt8} (hT : T.length ≤ 1000) {L : List V × Bool} (hLT : L = lexAll num T) {cs : List Int} {hp a x : Ad} {mh : MH} {σ : LS} {t : Nat} (I : Inv num T L cs hp a x 0 0 mh σ t) {loc : Fs}
    (h10 : loc 10 = some (.bytes T)) (h138 : loc 138 = some (.ref hp)) (h145 : loc 145 = some (.ref a)) (h146 : loc 146 = some (.bool L.2)) (h134 : loc 134 = some (.ref x)) (h124 : loc 124 = some (.int 0)) (h149 : loc 149 = some (.int 0)) {Q : Fl → St → Prop} {X : St → Prop}
    (hQ : ∀ st, Q (.ret (.bool true)) st) : wpSs (Out.mk0 (C n) band) (tlS (tlS (tlS (tlS (tlS (tlS b_law)))))) ⟨loc, mh⟩ Q X := by
  have hLl : L.1.length ≤ 1000 := by rw [hLT]; exact Nat.le_trans (lexAll_len _ _ (Nat.le_refl _)) hT
  have chk := fun {L : List V × Bool} {a x : Ad} {mh : MH} {σ : LS} {i ah : Nat} {loc : Fs} (g : G mh x σ) tl pl hs hi hLl h10 h145 h146 h134 h124 h70 {Q : Fl → St → Prop} {X : St → Prop} hQ => law_check S hnum hn (L := L) (a := a) (mh := mh) (i := i) (ah := ah) (loc := loc) (Q := Q) (X := X) g tl pl hs hi hLl h10 h145 h146 h134 h124 h70 hQ
  simp only [tlS, whB, b_law] at chk ⊢
  simp_all_arith only [wpBody]
  refine ⟨LJ num T L cs hp a x, ⟨_, h10, h138, h145, h146, h134, 0, 0, t, σ, Nat.zero_le _, h124, h149, I, rfl⟩, ?_⟩
  clear h10 h138 h145 h146 h134 h124 h149 I
  rintro n' ⟨loc, mh⟩ ⟨h10, h138, h145, h146, h134, i, far, t, σ, hi, h124, h149, I, rfl⟩
  dsimp only at h10 h138 h145 h146 h134 h124 h149 I ⊢
  have l2 := l2
  walk_at "d"; simp_arith only [h124, h145, I.tl]
  by_cases q : i < L.1.length
  rotate_left
  · -- behind the last token
    have q' : ¬ (i : Int) < (L.1.length : Int) := by lia
    have hd : L.1.drop i = [] := List.drop_eq_nil_of_le (by lia)
    walk_at "d"; simp_arith only [q']
    cases hb : L.2
    rotate_left
    · simp_all_arith only [h146, hb]
      exact hQ _
    · have st : σ.ahead = .none ∧ lexAll num σ.rest = ([], false) := by
        rcases I.st with ⟨h1, h2⟩ | ⟨tk, k, v, h1, h2, h3, h4⟩
        · rw [hd, hb] at h2; exact ⟨h1, h2⟩
        · rw [hd] at h3; cases h3
      have hR : ∃ r, lexR num σ.rest = some (none, r) := by
        cases h : lexR num σ.rest with
        | none => have := st.2; rw [lexAll_err h] at this; cases this
        | some p =>
          obtain ⟨o, r⟩ := p
          cases o with
          | none => exact ⟨r, rfl⟩
          | some kv => obtain ⟨k, v⟩ := kv; have := st.2; rw [lexAll_tok h] at this; cases this
      obtain ⟨r, hR⟩ := hR
      simp_all_arith only [h146, hb, h134, I.g.h.own 137 287 rfl]
      refine g_next S hnum (by lia) I.g st.1 ?_ ?_
      · intro h; rw [hR] at h; cases h
      · intro o r' h mh' tk bf buf line g' k' _ t'
        rw [hR] at h; cases h
        have e1 : ((287 : Int) == 287) = true := rfl
        have t56 : attrV mh' (.ref tk) 56 = some (.int 287) := t'.kind
        have er : r = [] := lexR_eos hR
        subst er
        have hpos : σ.T.length - 0 = T.length := by rw [I.tT]; rfl
        have ep : (((σ.T.length - 0 : Nat) : Int) == (T.length : Int)) = true := by rw [hpos]; simp
        have a18 : attrV mh' (.ref x) 18 = some (.int ((σ.T.length - 0 : Nat) : Int)) := g'.h.a18
        have a43 : attrV mh' (.ref x) 43 = some (.int (line : Int)) := g'.h.a43
        walk_at "d"; simp_arith only [t56, e1, h134, a18, a43, h10, ep]
        refine ends_line S (by lia) g' (by show T = σ.T.take (σ.T.length - 0); rw [I.tT]; simp) ?_
        have eq : ((line : Int) == 1 + (((σ.w [] bf buf line).line : Int) - 1)) = true := by rw [beq_iff_eq]; show (line : Int) = 1 + ((line : Int) - 1); lia
        walk_at "d"; simp_arith only [eq]
        exact hQ _
  · -- a turn
    have q' : (i : Int) < (L.1.length : Int) := by lia
    have ei : (i : Int) + 1 = ((i + 1 : Nat) : Int) := by lia
    walk_at "d"; simp_arith only [q']
    simp_all_arith only [h134, I.g.h.own 137 287 rfl]
    refine law_next S hnum hvn (by lia) I q fun mh1 σ1 tk k v g1 eT hk1 tl1 hfar eA t1 d1 hv hs => ?_
    have hfr := I.far
    have ht := I.ht
    have nf : ¬ ((σ1.pos : Int) < (far : Int)) := by lia
    have e0 := eqL2 (mh := mh1) (k := k) hv
    simp_all_arith only [t1.kind, t1.value, l2, h145, h124, idx_l tl1 d1, e0, h134, g1.h.a18, h149, nf]
    walk_at "n"
    simp_all_arith only [h124, h134, g1.h.a18, l2, ei]
    have goA : ∀ (mh2 : MH) (t2 : Nat), G mh2 x σ1 → HeapOK mh2 hp cs t2 → t2 ≤ 20 + (i + 1) → mh2 a = some (.list L.1) → ∀ loc2 : Fs, loc2 10 = some (.bytes T) → loc2 138 = some (.ref hp) → loc2 145 = some (.ref a) → loc2 146 = some (.bool L.2) → loc2 134 = some (.ref x) → loc2 124 = some (.int ((i + 1 : Nat) : Int)) → loc2 149 = some (.int (σ1.pos : Int)) → loc2 70 = some (.int 0) →
        wpSs (Out.mk0 (C n) band) (tlS (tlS (tlS (tlS (whB (tlS (tlS (tlS (tlS (tlS (tlS b_law))))))))))) ⟨loc2, mh2⟩ (fun f st => match f with
          | .next => ∃ m, m < L.1.length - i ∧ LJ num T L cs hp a x m st
          | .brk => wpSs (Out.mk0 (C n) band) (tlS (tlS (tlS (tlS (tlS (tlS (tlS b_law))))))) st Q X
          | .ret v => Q (.ret v) st) X := by
      intro mh2 t2 g2 hk2 ht2 tl2 loc2 j10 j138 j145 j146 j134 j124 j149 j70
      simp only [tlS, whB, b_law]
      have z : ((0 : Int) == 1) = false := rfl
      simp_all_arith only [j70, z]
      walk_at "n"
      refine chk (ah := 0) g2 tl2 I.pl hs (by lia) hLl (by rw [eT]; exact j10) j145 j146 j134 j124 j70 fun mh3 e3 => ?_
      exact ⟨L.1.length - (i + 1), sl1 q, j10, j138, j145, j146, j134, i + 1, σ1.pos, t2, σ1, q, j124, j149, ⟨g2.ext e3, eT, hk2.ext e3, ht2, e3 _ _ tl2, I.ne, Nat.le_refl _, I.pl, .inl ⟨eA, hs⟩⟩, rfl⟩
    simp only [tlS, whB, b_law] at goA
    by_cases q1 : i + 1 < L.1.length
    rotate_left
    · have q1' : ¬ (((i + 1 : Nat) : Int) < (L.1.length : Int)) := by lia
      simp_all_arith only [h145, tl1, q1']
      exact goA mh1 t g1 hk1 (by lia) tl1 _ (by first | exact h10 | simp [Fs.set, h10]) (by first | exact h138 | simp [Fs.set, h138]) (by first | exact h145 | simp [Fs.set, h145]) (by first | exact h146 | simp [Fs.set, h146]) (by first | exact h134 | simp [Fs.set, h134]) (by first | rfl | simp [Fs.set]) (by first | rfl | simp [Fs.set]) (by first | rfl | simp [Fs.set])
    have q1' : ((i + 1 : Nat) : Int) < (L.1.length : Int) := by lia
    simp_all_arith only [h145, tl1, q1', h138]
    refine c_tossed S (many := 3) (by lia) hk1 (by lia) (by lia) fun kt c k0 k3 hc1 hk2 => ?_
    have g2 : G (mh1.set hp (.list [.ref c, .int ((t + 1 : Nat) : Int)])) x σ1 := g1.list hc1
    have tl2 : (mh1.set hp (.list [.ref c, .int ((t + 1 : Nat) : Int)])) a = some (.list L.1) := by rw [set_ne I.ne]; exact tl1
    generalize mh1.set hp (.list [.ref c, .int ((t + 1 : Nat) : Int)]) = mh2 at g2 tl2 hk2
    have dk : (kt == 0) = decide (kt = 0) := rfl
    by_cases z : kt = 0
    rotate_left
    · walk_at "d"; simp_arith only [dk, z]
      exact goA mh2 (t + 1) g2 hk2 (by lia) tl2 _ (by first | exact h10 | simp [Fs.set, h10]) (by first | exact h138 | simp [Fs.set, h138]) (by first | exact h145 | simp [Fs.set, h145]) (by first | exact h146 | simp [Fs.set, h146]) (by first | exact h134 | simp [Fs.set, h134]) (by first | rfl | simp [Fs.set]) (by first | rfl | simp [Fs.set]) (by first | rfl | simp [Fs.set])
    walk_at "d"; simp_arith only [dk, z]
    have z1 : ((1 : Int) == 1) = true := rfl
    simp_all_arith only [z1, h134, g2.h.own 151 294 rfl]
    have hR : ∃ k2 v2 r2, lexR num σ1.rest = some (some (k2, v2), r2) ∧ L.1[i + 1]? = some (.tup [.int k2, v2]) ∧ lexAll num r2 = (L.1.drop (i + 1 + 1), L.2) := by
      cases h : lexR num σ1.rest with
      | none =>
        rw [lexAll_err h] at hs
        have e := congrArg List.length (congrArg Prod.fst hs)
        simp at e; exact abs0 q1 e
      | some p =>
        obtain ⟨o, r⟩ := p
        cases o with
        | none =>
          rw [lexAll_eos h] at hs
          have e := congrArg List.length (congrArg Prod.fst hs)
          simp at e; exact abs0 q1 e
        | some kv =>
          obtain ⟨k2, v2⟩ := kv
          rw [lexAll_tok h] at hs
          have e1 := congrArg Prod.fst hs
          have e2 := congrArg Prod.snd hs
          simp only at e1 e2
          obtain ⟨f1, f2, f3⟩ := drop_get e1.symm
          exact ⟨k2, v2, r, rfl, f1, by rw [f2, ← e2]⟩
    obtain ⟨k2, v2, r2, hR, f1, hs2⟩ := hR
    refine g_look S hnum (by lia) g2 eA ?_ ?_
    · intro h; rw [hR] at h; cases h
    · intro o r' h mh3 tk3 bf buf line g3 k3 n3 t3
      rw [hR] at h; cases h
      have tl3 := list_keep tl2 g2.h k3
      have hk3 := hk2.keep g2.h k3
      have t56 : attrV mh3 (.ref tk3) 56 = some (.int k2) := t3.kind
      have i0 : ∀ O, idxV O mh3 (.tup [.int k2, v2]) (.int 0) = some (.int k2) := fun O => rfl
      have ek : (k2 == k2) = true := beq_self_eq_true k2
      walk_at "d"; simp_arith only [t56, h145, idx_l tl3 f1, i0, ek]
      walk_at "n"
      have lt := (lexR_lt hR).1
      refine chk (ah := 1) g3 tl3 I.pl hs2 (by lia) hLl (by show _ = some (V.bytes σ1.T); rw [eT]; simp [Fs.set, h10]) (by first | exact h145 | simp [Fs.set, h145]) (by first | exact h146 | simp [Fs.set, h146]) (by first | exact h134 | simp [Fs.set, h134]) (by first | rfl | simp [Fs.set]) (by first | rfl | simp [Fs.set]) fun mh4 e4 => ?_
      refine ⟨L.1.length - (i + 1), sl1 q, by first | exact h10 | simp [Fs.set, h10], by first | exact h138 | simp [Fs.set, h138], by first | exact h145 | simp [Fs.set, h145], by first | exact h146 | simp [Fs.set, h146], by first | exact h134 | simp [Fs.set, h134], i + 1, σ1.pos, t + 1, _, q, by first | rfl | simp [Fs.set], by first | rfl | simp [Fs.set], ⟨g3.ext e4, eT, hk3.ext e4, by lia, e4 _ _ tl3, I.ne, ?_, I.pl, .inr ⟨tk3, k2, v2, rfl, t3.ext e4, ?_, ?_⟩⟩, rfl⟩
      · exact Nat.sub_le_sub_left (Nat.le_of_lt lt) _
      · show _ = _ :: (lexAll num r2).1
        rw [hs2, List.drop_eq_getElem_cons q1]
        congr 1
        have := List.getElem?_eq_getElem q1
        rw [f1] at this; exact (Option.some.inj this).symm
      · show (lexAll num r2).2 = L.2
        rw [hs2]
theorem law_rest {n : Nat} (hn : 12 ≤ n) {T : List UInt8} (hT : T.length ≤ 1000) {cs : List Int} {hp : Ad} {mh : MH} {t : Nat} (hk : HeapOK mh hp cs t) (ht : t ≤ 20) {loc : Fs} (h10 : loc 10 = some (.bytes T)) (h138 : loc 138 = some (.ref hp)) {Q : Fl → St → Prop} {X : St → Prop}
    (hQ : ∀ st, Q (.ret (.bool true)) st) : wpSs (Out.mk0 (C n) band) (tlS (tlS (tlS b_law))) ⟨loc, mh⟩ Q X := by
  have loop := fun {L : List V × Bool} {cs : List Int} {hp a x : Ad} {mh : MH} {σ : LS} {t : Nat} hLT I {loc : Fs} h10 h138 h145 h146 h134 h124 h149 => law_loop S hnum hvn hn hT (L := L) (cs := cs) (hp := hp) (a := a) (x := x) (mh := mh) (σ := σ) (t := t) hLT I (loc := loc) h10 h138 h145 h146 h134 h124 h149 (Q := Q) (X := X) hQ
  have l2 := l2
  simp only [tlS, b_law] at loop ⊢
  have pl := lexAll_plain hvn _ T (Nat.le_refl _)
  simp_all_arith only [h10]
  refine c_told S hnum (by lia) hT fun a m1 ha e1 h1 => ?_
  try walk_at "d"; simp_arith only [wpBody]
  have hp1 := e1
  have hk1 := hk.ext e1
  have ne : a ≠ hp := by
    obtain ⟨c, q, _⟩ := hk
    rintro rfl; rw [ha] at q; cases q
  have go : ∀ mh2, Ext m1 mh2 → ∀ loc2 : Fs, loc2 10 = some (.bytes T) → loc2 138 = some (.ref hp) → loc2 145 = some (.ref a) → loc2 146 = some (.bool (lexAll num T).2) →
      wpSs (Out.mk0 (C n) band) (tlS (tlS (tlS (tlS (tlS b_law))))) ⟨loc2, mh2⟩ Q X := by
    intro mh2 e2 loc2 j10 j138 j145 j146
    simp only [tlS, b_law]
    have l3 : (3 : Nat) ≤ LIM := by rw [limN]; lia
    simp_all_arith only [j10]
    refine c_limits S (by lia) fun lim m3 hlim e3 hl => ?_
    try walk_at "d"; simp_arith only [j10]
    refine c_lexer S (by lia) hT hl fun x m4 σ hx e4 g4 eT eR eA d0 b0 => ?_
    try walk_at "d"; simp_arith only [l3]
    refine loop rfl ⟨g4, eT, hk1.ext (e2.trans (e3.trans e4)), by lia, (e2.trans (e3.trans e4)) _ _ h1, ne, Nat.zero_le _, pl, .inl ⟨eA, by rw [eR]; rfl⟩⟩ (by first | exact j10 | simp [Fs.set, j10]) (by first | exact j138 | simp [Fs.set, j138]) (by first | exact j145 | simp [Fs.set, j145]) (by first | exact j146 | simp [Fs.set, j146]) (by first | rfl | simp [Fs.set]) (by first | rfl | simp [Fs.set]) (by first | rfl | simp [Fs.set])
  simp only [tlS, b_law] at go
  cases hb : (lexAll num T).2
  · simp_all_arith only [hb, h10]
    refine c_limits S (by lia) fun lim m3 hlim e3 hl => ?_
    try walk_at "d"; simp_arith only [h10]
    refine c_all S hnum (by lia) hT hb hl fun a2 m4 ha2 e4 h4 => ?_
    have e34 := e3.trans e4
    have hE := eqR h4 (e34 _ _ h1) pl
    walk_at "d"; simp_arith only [hE]
    walk_at "n"
    exact go m4 e34 _ (by first | exact h10 | simp [Fs.set, h10]) (by first | exact h138 | simp [Fs.set, h138]) (by first | rfl | simp [Fs.set]) (by first | exact hb | simp [Fs.set, hb])
  · simp_all_arith only [hb]
    walk_at "n"
    exact go m1 Ext.refl _ (by first | exact h10 | simp [Fs.set, h10]) (by first | exact h138 | simp [Fs.set, h138]) (by first | rfl | simp [Fs.set]) (by first | exact hb | simp [Fs.set, hb])
end
end Lx
namespace Lx
open PySem PySem.W PySem.Calls PyProof.Rows PySem.Spec
section
variable {W : Wd} {X : Cx} {st st₀ : St} {s s₀ : Shared} {n : Nat}
theorem swap_nxt (c : CxOK X) (hW : W.H.StaysIn s₀.heap) (N : Nxt W X st₀ s₀ st s) {S : List Addr} {h' : Heap} {tk : Nat} (k : ∀ b o, s.heap.get? b = some o → b ∉ S → h'.get? b = some o)
    (hS : ∀ a ∈ S, s₀.heap.get? a = none ∧ st.mh a = none ∧ a ∉ (X.env :: X.outer).filterMap (·.frame) ∧ ∃ o, s.heap.get? a = some o ∧ (∀ xs n, o.data ≠ .seq xs n) ∧ ∀ v, o.data ≠ .cell v) : Nxt W X st₀ s₀ st { s with heap := h', toks := tk } := by
  have R := N.rep
  have nS : ∀ b o, s.heap.get? b = some o → ((∃ xs n, o.data = .seq xs n) ∨ ∃ v, o.data = .cell v) → b ∉ S := fun b o e d hb => by
    obtain ⟨_, _, _, o', e', d1, d2⟩ := hS b hb
    rw [e] at e'; cases e'
    rcases d with ⟨xs, n, d⟩ | ⟨v, d⟩
    · exact d1 _ _ d
    · exact d2 _ d
  have up : ∀ b o xs n, s.heap.get? b = some o → st.mh b = none → o.data = .seq xs n → st.mh b = none ∧ ∃ sl, h'.get? b = some { o with slots := sl } := fun b o xs n e m d => ⟨m, o.slots, k b o e (nS b o e (.inl ⟨xs, n, d⟩))⟩
  have objk : ∀ a mo, st.mh a = some mo → ∀ o, s.heap.get? a = some o → h'.get? a = some o := fun a mo e o ho => k a o ho fun ha => by rw [(hS a ha).2.1] at e; cases e
  have frk : ∀ b ∈ (X.env :: X.outer).filterMap (·.frame), ∀ o, s.heap.get? b = some o → h'.get? b = some o := fun b hb o ho => k b o ho fun ha => (hS b ha).2.2.1 hb
  have hL : X.L ∈ (X.env :: X.outer).filterMap (·.frame) := by rw [List.filterMap_cons, c.frame]; exact .head _
  refine ⟨⟨fun b o e => k b o (R.stays b o e) fun ha => ?_, ?_, fun a o e => ⟨orep_mono up (objk a o e) (R.objs a o e).1, (R.objs a o e).2⟩, funFrames_on R.ff fun b hb o ho => ⟨o, frk b hb o ho, rfl⟩, R.fr, fun p hp => ?_, R.gens, R.os⟩,
    ⟨fun a o e m l f => k a o (N.stp.keep a o e m l f) fun ha => ?_, fun a o e m l => ?_, N.stp.fresh, fun a o e => ?_⟩⟩
  · have := (hS b ha).1; rw [hW b o e] at this; cases this
  · obtain ⟨m, ⟨oL, es, ep, eL, rL⟩, q⟩ := R.ns
    refine ⟨m, ⟨oL, es, ep, frk _ hL _ eL, rL⟩, fun i v hi hv => ?_⟩
    obtain ⟨rv, ⟨l1, l2⟩, vr⟩ := q i v hi hv
    refine ⟨rv, ⟨l1, fun hc => ?_⟩, vrep_mono up vr⟩
    obtain ⟨cc, o, e1, e2, e3⟩ := l2 hc
    exact ⟨cc, o, e1, k _ _ e2 (nS _ _ e2 (.inr ⟨_, e3⟩)), e3⟩
  · obtain ⟨m, o, v, e, d⟩ := R.cel p hp
    exact ⟨m, o, v, k _ _ e (nS _ _ e (.inr ⟨_, d⟩)), d⟩
  · have := (hS a ha).1; rw [e] at this; cases this
  · obtain ⟨sl, e'⟩ := N.stp.slots a o e m l
    exact ⟨sl, k _ _ e' fun ha => by have := (hS a ha).1; rw [e] at this; cases this⟩
  · obtain ⟨o', e'⟩ := N.stp.alive a o e
    by_cases ha : a ∈ S
    · have := (hS a ha).1; rw [e] at this; cases this
    · exact ⟨o', k _ _ e' ha⟩
theorem cellAssign_ok (w : WOK W) (c : CxOK X) (hn : n ≤ X.n) {e : E} {i : Nm} {ip p : P} {cc : Addr} {tt : PySem.Stmt} (htt : tt = .Assign [.Name (nm i) (toP ip)] (toE e) (toP p)) (ok : okE X.env.scope e = true) (hi : i < NN) (hk : X.env.kindOf (nm i) = some .cell) (hl : X.env.cells.lookup (nm i) = some cc) (hap : X.env.cells.Pairwise fun x y => x.2 ≠ y.2)
    (hH : W.H.get? cc = none) (hout : X.outer = []) (hin : ∀ i j, nm i = nm j → i < NN → j < NN → i = j) {st : St} {P : V → St → Prop}
    (h : wpE (Ot W n) e st P fun u_ => False) (s : Shared) (R : Rep W X st s) {Qr : Flow → Shared → Prop} {Er}
    (hQ : ∀ v st' s', P v st' → Rep W X { st' with loc := st'.loc.set i v } s' → Qr .next s') : wpF (M W) X.A (exec tt X.env) Qr Er s := by
  subst htt
  refine fAssignName (sndE w c hn e st _ _ ok h s R _ _ (fun v st₁ rv s₁ h₁ N₁ r₁ => ?_) fun u_ u_ u_ x => x.elim) (swaps_toE _ _ _ _)
  exact wpF_any (storeCell_ok c N₁.rep hi hk hl hap r₁ hH hout hin fun s' R' u_ => hQ v st₁ s' h₁ R')
theorem statSlice_ok (w : WOK W) (c : CxOK X) (R : Rep W X st s) {a : Ad} {items : List Value} {vs : List V} {t : Tok} (hl : s.heap.IsList a items.toArray) (hv : ∀ mh h, VReps mh h vs items) (hlim : items.length ≤ LIM) {eo : E} {l u : Option PySem.Expr} {p : Pos}
    {Qr : Value → Shared → Prop} {Er} (hQ : ∀ b s', st.mh b = none → Nxt W X st s { st with mh := st.mh.set b (.list (cut vs 0 40)) } s' → Qr (.ref b) s') :
    wpAny (M W) X.A (newFields "slice" [.none, .int 40 t, .none]) (fun i s₂ => wpAny (M W) X.A (subscriptTail (toE eo) (.Slice l u none p) (.ref a) i) Qr Er s₂) Er s := by
  unfold newFields
  refine wpAny_newObj_type ?_ (by show 3 ≤ sizeLine + 2; rw [sizeLine_eq]; decide)
  have N := R.push { cls := .type "slice", data := .fields [Value.none, .int 40 t, Value.none].toArray } s.toks
  have hS : (s.heap.push { cls := .type "slice", data := .fields [Value.none, .int 40 t, Value.none].toArray }).IsSliceOf s.heap.objs.size .none (.int 40 t) .none := Heap.IsSliceOf.new _ _ _ _
  have hs : ∀ o i, ∃ z, subscripted (.Slice l u none p) false o i = operate z (getItem o i) := fun o i => ⟨_, rfl⟩
  obtain ⟨plo, pl, ql⟩ := part_ok (mh := st.mh) (h := s.heap) (v := .none) (n := 0) (x := 0) .none rfl
  obtain ⟨phi, ph, qh⟩ := part_ok (mh := st.mh) (h := s.heap) (v := .int 40) (n := vs.length) (x := 40) (.int 40 t) rfl
  obtain ⟨o, ho, hc, m, hdat⟩ := id hl
  have hr := hv st.mh s.heap
  have hlen := hr.1
  rw [← hlen] at qh
  have hcl := cut_len items 0 40
  have hcut : slicePick items.toArray plo phi none = (cut items 0 40).toArray := by
    unfold slicePick
    have := sliced_cut items ql qh
    rw [List.size_toArray, this]
  have ho' := Heap.get?_push_of_some ({ cls := .type "slice", data := .fields [Value.none, .int 40 t, Value.none].toArray }) ho
  refine tail_ok (T := "list") ⟨o, ho', hc⟩ PySem.slot_list_getitem.lookup (wpAny_getItem_list_slice ⟨o, ho', hc, m, hdat⟩ hS pl ph .none (by simp) ?_ ?_) (hs _ _)
  · rw [hcut]
    have nn := mh_none N.rep (dead_size _)
    refine hQ _ _ nn (N.trans (N.rep.new (tk := s.toks) c rfl ⟨_, cut items 0 40, 0, Heap.get?_push_size _ rfl, rfl, rfl, rfl, rfl, ?_, ?_⟩))
    · exact vreps_cut (hv _ _) 0 40
    · have := cut_len vs 0 40
      lia
  · rw [List.size_toArray, sizeLine_eq]; unfold LIM at hlim; lia
end
end Lx
namespace Lx
open PySem PySem.W PySem.Calls PyProof.Rows PySem.Spec
noncomputable def pieces : List (List UInt8) := [[120], [101, 110, 100], [32], [55], [13, 10], [34, 97, 92, 10, 34], [39, 92, 13, 10, 92, 48, 54, 53, 39], [91, 91, 13, 10, 107, 10, 13, 93, 93], [91, 61, 91, 93, 93, 10, 93, 61, 93], [45, 45, 122, 10], [45, 45, 91, 91, 10, 10, 93, 93], [46, 46], [46], [61], [126], [45], [10], [13], [34], [91], [92], [48, 120]]
noncomputable def compSc : Scope := { kind := .function, names := [(PySem.Str.ofString ".0", .local), (PySem.Str.ofString "turn", .local), (nm 150, .globalImplicit), (nm 153, .free), (nm 138, .free)], isGenerator := false, isCoroutine := false }
noncomputable def compSc' : Scope := { compSc with names := [(PySem.Str.ofString ".0", .local), (PySem.Str.ofString "turn", .local), (nm 150, .globalImplicit), (nm 153, .cell), (nm 138, .cell)] }
noncomputable def eToss (many : Nat) (p1 p2 p3 p4 : P) : E := .call (.glob 150 (.stat 483) p1) (.cons (.cel 138 p2) (.cons (.c (.int many) p3) .nil)) p4
noncomputable def ePick (p1 p2 p3 p4 p5 p6 : P) : E := .idx (.cel 153 p5) (eToss 22 p1 p2 p3 p4) p6
section
variable {W : Wd} {X : Cx} {st st₀ : St} {s s₀ : Shared} {n : Nat} {band : Int → Int → Int}
structure TE (env : Env) (c2 : Addr) : Prop where
  kind : env.scope.kind = .function
  globals : env.globals = mainGlobals
  toss : env.scope.names.lookup (nm 150) = some .globalImplicit
  k138 : env.kindOf (nm 138) = some .cell
  l138 : env.cells.lookup (nm 138) = some c2
theorem toss_ok (w : WOK W) (S : Sys (Calls W) band) (c : CxOK X) (hn : 1 ≤ X.n) {env : Env} {c2 : Addr} (te : TE env c2) (R : Rep W X st s) {hp : Ad} (hcell : s.heap.IsCell c2 (some (.ref hp))) {cs : List Int} {t : Nat} (hK : HeapOK st.mh hp cs t) (ht : t ≤ 100000) {many : Nat} (hm : 0 < many)
    {p1 p2 p3 p4 : P} {Qr : Value → Shared → Prop} {Er : Value → Shared → Prop}
    (hQ : ∀ k c tk s', 0 ≤ k → k < (many : Int) → st.mh hp = some (.list [.ref c, .int (t : Int)]) → HeapOK (st.mh.set hp (.list [.ref c, .int ((t + 1 : Nat) : Int)])) hp cs (t + 1) → Nxt W X st s { st with mh := st.mh.set hp (.list [.ref c, .int ((t + 1 : Nat) : Int)]) } s' → Qr (.int k tk) s') :
    wpF (M W) X.A (eval (toE (eToss many p1 p2 p3 p4)) env) Qr Er s := by
  obtain ⟨pp, loose, mg, mb, T⟩ := w.top
  obtain ⟨rv, g1, g2⟩ := w.kf.glob (150, .stat 483) (List.mem_of_getElem? (i := 60) rfl)
  have hrv : rv = .ref 483 := by cases g2 st.mh s.heap; rfl
  subst hrv
  unfold eToss
  simp only [te_c, te_loc, te_cel, te_glob, te_blt, te_attr, te_bin, te_neg, te_not, te_and, te_or, te_cmp1, te_cmp2, te_ite, te_tup, te_list, te_idx, te_slice, te_dict0, te_no, te_call, te_meth]
  refine fCall (wpF_any (Name_function_global te.kind te.toss (loadGlobal_global (by rw [te.globals]; exact T.g.keeps R.stays) (mg_of w.kin T.g g1) ?_) (by decide +kernel))) rfl
  refine callWith_any w (rf := .ref 483) (first := []) (.inl ⟨483, rfl, w.kf.keep 483 (List.mem_of_getElem? (i := 23) rfl)⟩) ?_
  rw [tes_cons, star_toE]; simp only [te_c, te_loc, te_cel, te_glob, te_blt, te_attr, te_bin, te_neg, te_not, te_and, te_or, te_cmp1, te_cmp2, te_ite, te_tup, te_list, te_idx, te_slice, te_dict0, te_no, te_call, te_meth]
  refine fArgsCons (wpF_any (wpAny_Name (wpAny_loadName_cell te.kind te.k138 te.l138 hcell ?_) (by decide +kernel)))
  rw [tes_cons, star_toE]; simp only [te_c, te_loc, te_cel, te_glob, te_blt, te_attr, te_bin, te_neg, te_not, te_and, te_or, te_cmp1, te_cmp2, te_ite, te_tup, te_list, te_idx, te_slice, te_dict0, te_no, te_call, te_meth]
  refine fArgsCons ?_
  show wpF _ _ (eval (.Constant (.int (many : Int)) 0 (toP p3)) env) _ _ _
  refine wpF_any (wpAny_Constant_int (wpF_any (args_nil ?_)))
  have N := R.tk (s.toks + 1)
  refine ⟨w.kin.keeps N.rep.stays, ?_⟩
  have call := c_tossed S hn hK ht hm (Q := fun v m => ∃ k c, v = .int k ∧ 0 ≤ k ∧ k < (many : Int) ∧ st.mh hp = some (.list [.ref c, .int (t : Int)]) ∧ m = st.mh.set hp (.list [.ref c, .int ((t + 1 : Nat) : Int)]) ∧ HeapOK m hp cs (t + 1)) (X := fun u_ => False)
    (fun k c h1 h2 h3 h4 => ⟨k, c, rfl, h1, h2, h3, rfl, h4⟩)
  refine call X st.loc _ _ c (Nat.le_refl _) N.rep (vreps_cons (.ref hp) (vreps_cons (.int _ _) vreps_nil)) _ _ (fun v mh' rv s' q N' r => ?_) fun u_ u_ u_ x => x.elim
  obtain ⟨k, cc, rfl, h1, h2, h3, rfl, h4⟩ := q
  cases r
  exact hQ k cc _ s' h1 h2 h3 h4 (N.trans N')
theorem pick_ok (w : WOK W) (S : Sys (Calls W) band) (c : CxOK X) (hn : 1 ≤ X.n) {env : Env} {c1 c2 : Addr} (te : TE env c2) (k153 : env.kindOf (nm 153) = some .cell) (l153 : env.cells.lookup (nm 153) = some c1) (R : Rep W X st s) {hp pl : Ad} (hcell : s.heap.IsCell c2 (some (.ref hp)))
    (hcell1 : s.heap.IsCell c1 (some (.ref pl))) (hpl : st.mh pl = some (.list (pieces.map .bytes))) (hne : pl ≠ hp) {cs : List Int} {t : Nat} (hK : HeapOK st.mh hp cs t) (ht : t ≤ 100000)
    {p1 p2 p3 p4 p5 p6 : P} {Qr : Value → Shared → Prop} {Er : Value → Shared → Prop}
    (hQ : ∀ b c rv s', b ∈ pieces → st.mh hp = some (.list [.ref c, .int (t : Int)]) → HeapOK (st.mh.set hp (.list [.ref c, .int ((t + 1 : Nat) : Int)])) hp cs (t + 1) → Nxt W X st s { st with mh := st.mh.set hp (.list [.ref c, .int ((t + 1 : Nat) : Int)]) } s' → VRep (st.mh.set hp (.list [.ref c, .int ((t + 1 : Nat) : Int)])) s'.heap (.bytes b) rv → Qr rv s') :
    wpF (M W) X.A (eval (toE (ePick p1 p2 p3 p4 p5 p6)) env) Qr Er s := by
  unfold ePick
  simp only [te_c, te_loc, te_cel, te_glob, te_blt, te_attr, te_bin, te_neg, te_not, te_and, te_or, te_cmp1, te_cmp2, te_ite, te_tup, te_list, te_idx, te_slice, te_dict0, te_no, te_call, te_meth]
  refine fSubscript (value := toE (.cel 153 p5)) (slice := toE (eToss 22 p1 p2 p3 p4)) (wpF_any ?_)
  simp only [te_c, te_loc, te_cel, te_glob, te_blt, te_attr, te_bin, te_neg, te_not, te_and, te_or, te_cmp1, te_cmp2, te_ite, te_tup, te_list, te_idx, te_slice, te_dict0, te_no, te_call, te_meth]
  refine wpAny_Name (wpAny_loadName_cell te.kind k153 l153 hcell1 ?_) (by decide +kernel)
  refine toss_ok w S c hn te R hcell hK ht (by decide) fun k cc tk s' h1 h2 h3 hK' N => ?_
  have hpl' : (st.mh.set hp (.list [.ref cc, .int ((t + 1 : Nat) : Int)])) pl = some (.list (pieces.map .bytes)) := by rw [set_ne hne]; exact hpl
  obtain ⟨⟨o, items, m, ho, hc, hd, hsl, hdat, hr, hlim⟩, _⟩ := N.rep.objs pl _ hpl'
  have hl := hr.1
  have hl2 : (pieces.map V.bytes).length = 22 := by decide
  rw [hl2] at hl
  have hk : k.toNat < 22 := (Int.toNat_lt h1).mpr h2
  have hx : items[k.toNat]? = some items[k.toNat] := List.getElem?_eq_getElem (by rw [hl]; exact hk)
  refine wpF_any ?_
  refine idx_list (eo := .cel 153 p5) (ei := eToss 22 p1 p2 p3 p4) ⟨o, ho, hc, m, hdat⟩ h1 (by rw [hl]; decide) hx ?_
  have hv : (pieces.map V.bytes)[k.toNat]? = some (.bytes (pieces[k.toNat]'(by have : pieces.length = 22 := by decide
                                                                               lia))) := by
    rw [List.getElem?_map, List.getElem?_eq_getElem (by have : pieces.length = 22 := by decide
                                                        lia)]; rfl
  exact hQ _ cc _ s' (List.getElem_mem _) h3 hK' N (hr.2 _ _ _ hv hx)
end
end Lx
namespace Lx
open PySem PySem.W PySem.Calls PyProof.Rows PySem.Spec
section
variable {W : Wd} {X : Cx} {st st₀ : St} {s s₀ : Shared} {n : Nat} {band : Int → Int → Int}
theorem cell_of (R : Rep W X st s) {i : Nm} {cc a : Addr} (hi : i < NN) (hk : X.env.kindOf (nm i) = some .cell) (hl : X.env.cells.lookup (nm i) = some cc) (h : st.loc i = some (.ref a)) : s.heap.IsCell cc (some (.ref a)) := by
  obtain ⟨m, hm, q⟩ := R.ns
  obtain ⟨rv, ⟨_, l2⟩, vr⟩ := q i _ hi h
  obtain ⟨c', o, e1, e2, e3⟩ := l2 hk
  rw [hl] at e1; cases e1
  cases vr
  exact ⟨o, e2, e3⟩
theorem closure_ok {env : Env} {c1 c2 : Addr} (l138 : env.cells.lookup (nm 138) = some c2) (l153 : env.cells.lookup (nm 153) = some c1) : closureFor compSc env = pure [(nm 138, c2), (nm 153, c1)] := by
  have e1 : cellOf env (nm 153) = pure c1 := by unfold cellOf; rw [l153]
  have e2 : cellOf env (nm 138) = pure c2 := by unfold cellOf; rw [l138]
  unfold closureFor compSc
  simp only [List.forIn_cons, List.forIn_nil, e1, e2, pure_bind, bind_assoc]
  rfl
theorem relabel_ok {env : Env} (hk : env.scope.kind = .function) (k138 : env.kindOf (nm 138) = some .cell) (k153 : env.kindOf (nm 153) = some .cell) : relabel compSc env = compSc' := by
  unfold relabel compSc compSc' compSc
  simp only [List.map_cons, List.map_nil, hk, k138, k153]
  rfl
theorem comp_ok (w : WOK W) (S : Sys (Calls W) band) (c : CxOK X) (hn : 1 ≤ X.n) (hout : X.outer = []) {c1 c2 : Addr} (te : TE X.env c2) (hrng : X.env.scope.names.lookup (PySem.Str.ofString "range") = some .globalImplicit)
    (k153 : X.env.kindOf (nm 153) = some .cell) (l153 : X.env.cells.lookup (nm 153) = some c1) (R₀ : Rep W X st₀ s₀) {hp pl : Ad} (h138 : st₀.loc 138 = some (.ref hp)) (h153 : st₀.loc 153 = some (.ref pl))
    (hpl : st₀.mh pl = some (.list (pieces.map .bytes))) (hne : pl ≠ hp) {cs : List Int} {t : Nat} (hK : HeapOK st₀.mh hp cs t) (ht : t ≤ 1000) {q1 q2 q3 q4 p1 p2 p3 p4 p5 p6 : P} {px pr pc pos : Pos} {Qr : Value → Shared → Prop} {Er : Value → Shared → Prop}
    (hQ : ∀ acc vs st' s' t', (∀ v ∈ vs, ∃ b ∈ pieces, v = V.bytes b) → vs.length ≤ 8 → st'.loc = st₀.loc → st'.mh acc = some (.list vs) → HeapOK st'.mh hp cs t' → t' ≤ t + 9 → Nxt W X st₀ s₀ st' s' → Qr (.ref acc) s') :
    wpF (M W) X.A (eval (.ListComp (toE (ePick p1 p2 p3 p4 p5 p6)) [⟨.Name (PySem.Str.ofString "turn") px, .Call (.Name (PySem.Str.ofString "range") pr) [toE (eToss 9 q1 q2 q3 q4)] [] pc, [], 0⟩] compSc pos) X.env) Qr Er s₀ := by
  (refine absG fun G_ hG_ => ?_; (rcases w.top with ⟨pp, loose, mg, mb, T⟩) <;> (refine hG_ ?_; clear hG_ G_))
  have hF : X.F = [] := by unfold Cx.F; rw [hout]; rfl
  have hfr : (X.env :: X.outer).filterMap (·.frame) = [X.L] := by rw [hout, List.filterMap_cons, c.frame]; rfl
  have Ldict : ∀ {st : St} {s : Shared}, Rep W X st s → ∃ o es ep, s.heap.get? X.L = some o ∧ o.data = .dict es ep := fun R => by
    (refine absG fun G_ hG_ => ?_; (rcases R.ns with ⟨m, ⟨oL, es, ep, eL, dL, _⟩, _⟩) <;> (refine hG_ ?_; clear hG_ G_))
    exact ⟨oL, es, ep, eL, dL⟩
  refine fListComp (closure_ok te.l138 l153) rfl (by decide +kernel) (fun u_ => rfl) ?_
  refine fCall (wpF_any (Name_function_global c.kind hrng (loadGlobal_builtin (mb := mb) (by rw [c.globals]; exact T.g.keeps R₀.stays) (mg_none_of w.kin T.g (w.kf.blt .range)) (by rw [c.builtins]; exact T.b.keeps R₀.stays) ((T.builtins _ (by decide)).trans (by decide +kernel : _ = some (Value.type "range"))) ?_) (by decide))) rfl
  refine callWith_any (es := .cons (eToss 9 q1 q2 q3 q4) .nil) (p := ⟨pc.line, pc.col, pc.endLine, pc.endCol⟩) (rf := .type "range") (first := []) w (.inr fun a q => by cases q) ?_
  rw [toEs, star_toE]
  refine fArgsCons (toss_ok w S c hn te R₀ (cell_of R₀ (by decide) te.k138 te.l138 h138) hK (by lia) (by decide) fun k cc tk s₁ hk0 hk9 u_ hK₁ N₁ => wpF_any (args_nil ?_))
  refine ⟨w.kin.keeps N₁.rep.stays, ?_⟩
  generalize hst1 : ({ st₀ with mh := st₀.mh.set hp (.list [.ref cc, .int ((t + 1 : Nat) : Int)]) } : St) = st₁ at N₁
  have e1m : st₁.mh = st₀.mh.set hp (.list [.ref cc, .int ((t + 1 : Nat) : Int)]) := by rw [← hst1]
  have e1l : st₁.loc = st₀.loc := by rw [← hst1]
  rw [← e1m] at hK₁
  have hpl₁ : st₁.mh pl = some (.list (pieces.map .bytes)) := by rw [e1m, set_ne hne]; exact hpl
  refine wpF_any (call_range_1 ?_)
  have N₂ := N₁.trans (N₁.rep.push { cls := .type "range", data := .fields #[.int 0 s₁.toks, .int k tk, .int 1 (s₁.toks + 1)] } (s₁.toks + 1 + 1))
  generalize hs2 : ({ s₁ with heap := s₁.heap.push { cls := .type "range", data := .fields #[.int 0 s₁.toks, .int k tk, .int 1 (s₁.toks + 1)] }, toks := s₁.toks + 1 + 1 } : Shared) = s₂ at N₂
  have hr2 : IsRange s₂.heap s₁.heap.objs.size 0 k 1 s₁.toks tk (s₁.toks + 1) := by rw [← hs2]; exact IsRange.new _ _ _ _ _ _ _
  refine wpF_any (wpAny_pyIter_range hr2 (small_one (by decide) (by decide) (by lia) (by lia)) ?_)
  have hsz : Builtin.Range.rangeSize 0 k 1 = k := by rw [rangeSize_one]; split <;> lia
  rw [hsz]
  have N₃ := N₂.trans (N₂.rep.push { cls := .type "range_iterator", data := .fields #[rawInt 0, rawInt k, rawInt 1] } s₂.toks)
  generalize hs3 : ({ s₂ with heap := s₂.heap.push { cls := .type "range_iterator", data := .fields #[rawInt 0, rawInt k, rawInt 1] } } : Shared) = s₃ at N₃
  have hit3 : IsRangeIter s₃.heap s₂.heap.objs.size 0 k 1 := by rw [← hs3]; exact Heap.get?_push_size _ rfl
  have d3 : s₀.heap.get? s₂.heap.objs.size = none := dead_back N₂.stp (dead_size s₂)
  generalize s₂.heap.objs.size = it at hit3 d3
  refine wpF_any (newList_ok c N₃.rep vreps_nil (Nat.zero_le _) fun acc s₄ hacc N₄' => ?_)
  have N₄ := N₃.trans N₄'
  have hit4 : IsRangeIter s₄.heap it 0 k 1 := rec_keeps c N₃.rep N₄' hit3 rfl rfl
  generalize hst4 : ({ st₁ with mh := st₁.mh.set acc (.list []) } : St) = st₄ at N₄
  have e4m : st₄.mh = st₁.mh.set acc (.list []) := by rw [← hst4]
  have e4l : st₄.loc = st₀.loc := by rw [← hst4]; exact e1l
  have aPl : acc ≠ pl := fun q => by rw [q, hpl₁] at hacc; cases hacc
  have hpl₄ : st₄.mh pl = some (.list (pieces.map .bytes)) := by rw [e4m, set_ne (Ne.symm aPl)]; exact hpl₁
  (refine absG fun G_ hG_ => ?_; (rcases id hK₁ with ⟨cx, hK1, hK2, hK3⟩) <;> (refine hG_ ?_; clear hG_ G_))
  have aHp : acc ≠ hp := fun q => by rw [q, hK1] at hacc; cases hacc
  have aCx : acc ≠ cx := fun q => by rw [q, hK2] at hacc; cases hacc
  have hK₄1 : st₄.mh hp = some (.list [.ref cx, .int ((t + 1 + 0 : Nat) : Int)]) := by rw [e4m, set_ne (Ne.symm aHp)]; exact hK1
  have hK₄2 : st₄.mh cx = some (.list (cs.map V.int)) := by rw [e4m, set_ne (Ne.symm aCx)]; exact hK2
  have hacc₄ : st₄.mh acc = some (.list []) := by rw [e4m]; exact set_self
  refine wpF_any (wpAny_newFunctionEnv (by decide +kernel) (by intro x hx; cases hx) (fun h₅ hns₅ hsb₅ => ?_) rfl)
  have hk5 : ∀ b o, s₄.heap.get? b = some o → h₅.get? b = some o := fun b o e => hsb₅.extBut b o (Nat.ne_of_lt (Heap.lt_size e)) (Heap.get?_push_of_some _ e)
  have N₅ : Nxt W X st₀ s₀ st₄ { s₄ with heap := h₅, toks := s₄.toks + ([] : List (PySem.Str × Value)).length } := N₄.trans (N₄.rep.grow hk5 rfl rfl)
  have hit5 : IsRangeIter h₅ it 0 k 1 := hk5 _ _ hit4
  have dC : s₀.heap.get? s₄.heap.objs.size = none := dead_back N₄.stp (dead_size s₄)
  have mC : st₄.mh s₄.heap.objs.size = none := mh_none N₄.rep (dead_size s₄)
  have hitC : it ≠ s₄.heap.objs.size := Nat.ne_of_lt (Heap.lt_size hit4)
  generalize hCC : s₄.heap.objs.size = C at hns₅ hsb₅ dC mC hitC ⊢
  generalize hs5 : ({ s₄ with heap := h₅, toks := s₄.toks + ([] : List (PySem.Str × Value)).length } : Shared) = s₅ at N₅ ⊢
  have hh5 : s₅.heap = h₅ := by rw [← hs5]
  rw [← hh5] at hit5 hns₅
  clear hsb₅ hs5 hk5 hh5
  show codeF (M W) X.A (.compStart _ 0 (.ref it) (.ref acc) { compEnvC compSc [(nm 138, c2), (nm 153, c1)] C X.env with scope := relabel compSc X.env }) _ s₅
  rw [relabel_ok c.kind te.k138 k153]
  generalize hce : ({ compEnvC compSc [(nm 138, c2), (nm 153, c1)] C X.env with scope := compSc' } : Env) = ce
  have ceL : ce.locals = C := by rw [← hce]; rfl
  have ceT : TE ce c2 := by
    rw [← hce]
    refine ⟨rfl, te.globals, ?_, ?_, ?_⟩
    · show compSc'.names.lookup (nm 150) = _; decide +kernel
    · show compSc'.names.lookup (nm 138) = _; decide +kernel
    · show List.lookup (nm 138) [(nm 138, c2), (nm 153, c1)] = some c2
      simp [List.lookup_cons]
  have ce153 : ce.kindOf (nm 153) = some .cell := by rw [← hce]; show compSc'.names.lookup (nm 153) = _; decide +kernel
  have ceturn : ce.kindOf (PySem.Str.ofString "turn") = some .local := by rw [← hce]; show compSc'.names.lookup _ = _; decide +kernel
  have cel153 : ce.cells.lookup (nm 153) = some c1 := by
    rw [← hce]
    show List.lookup (nm 153) [(nm 138, c2), (nm 153, c1)] = some c1
    have : (nm 153 == nm 138) = false := by decide +kernel
    simp [List.lookup_cons, this]
  have cek : ce.scope.kind = .function := by rw [← hce]; rfl
  let I : Nat → Shared → Prop := fun kk s' => ∃ (i : Nat) (vs : List V) (st' : St), (i : Int) ≤ k ∧ kk = 9 - i ∧ vs.length = i ∧ (∀ v ∈ vs, ∃ b ∈ pieces, v = V.bytes b) ∧ st'.loc = st₀.loc ∧ st'.mh pl = some (.list (pieces.map .bytes)) ∧ st'.mh hp = some (.list [.ref cx, .int ((t + 1 + i : Nat) : Int)]) ∧ st'.mh cx = some (.list (cs.map V.int)) ∧
    st'.mh acc = some (.list vs) ∧ st'.mh C = none ∧ Nxt W X st₀ s₀ st' s' ∧ IsRangeIter s'.heap it (i : Int) (k - i) 1 ∧ ∃ m, s'.heap.Ns C m
  have swap : ∀ {st' : St} {s' : Shared} {h' : Heap} {tk : Nat} {x l : Int} {m : PySem.Str → Option Value}, Nxt W X st₀ s₀ st' s' → IsRangeIter s'.heap it x l 1 → s'.heap.Ns C m → st'.mh C = none → (∀ b o, s'.heap.get? b = some o → b ≠ it → b ≠ C → h'.get? b = some o) → Nxt W X st₀ s₀ st' { s' with heap := h', toks := tk } := fun {st' s' h' tk x l m} N hit hns hC hkeep => by
    refine swap_nxt (S := [it, C]) c R₀.stays N (fun b o e hb => ?_) fun a ha => ?_
    · simp only [List.mem_cons, List.not_mem_nil, or_false, not_or] at hb
      exact hkeep b o e hb.1 hb.2
    · (refine absG fun G_ hG_ => ?_; (rcases Ldict N.rep with ⟨oL, esL, epL, eL, dL⟩) <;> (refine hG_ ?_; clear hG_ G_))
      rw [hfr]
      simp only [List.mem_cons, List.not_mem_nil, or_false] at ha ⊢
      (refine absG fun G_ hG_ => ?_; (rcases ha with rfl | rfl) <;> (refine hG_ ?_; clear hG_ G_))
      · refine ⟨d3, rec_none N.rep hit rfl rfl, fun q => ?_, _, hit, fun u_ u_ q => (by cases q), fun u_ q => (by cases q)⟩
        rw [← q, hit] at eL; cases eL; cases dL
      · (refine absG fun G_ hG_ => ?_; (rcases hns with ⟨oC, es, ep, eC, dC', _⟩) <;> (refine hG_ ?_; clear hG_ G_))
        refine ⟨dC, hC, fun q => ?_, _, eC, fun u_ u_ q => (by rw [dC'] at q; cases q), fun u_ q => (by rw [dC'] at q; cases q)⟩
        (refine absG fun G_ hG_ => ?_; (rcases Ldict R₀ with ⟨oL', _, _, eL', _⟩) <;> (refine hG_ ?_; clear hG_ G_))
        rw [← q, dC] at eL'; cases eL'
  have loop : codeF (M W) X.A (.compLoop (.ListComp (toE (ePick p1 p2 p3 p4 p5 p6)) [⟨.Name (PySem.Str.ofString "turn") px, .Call (.Name (PySem.Str.ofString "range") pr) [toE (eToss 9 q1 q2 q3 q4)] [] pc, [], 0⟩] compSc pos) 0 (.ref it) (.ref acc) ce) (fun r s' => match r with
        | .ok _ => ∃ m, s'.heap.Ns C m ∧ ∀ h', Heap.SameBut C s'.heap h' → Qr (.ref acc) { s' with heap := h' }
        | .error _ => False) s₅ := by
    refine codeF_compLoop I (fun kk s' hI => ?_) 9 ⟨0, [], st₄, by simpa using hk0, rfl, rfl, (fun v hv => by cases hv), e4l, hpl₄, hK₄1, hK₄2, hacc₄, mC, N₅, by simpa using hit5, _, hns₅⟩ fun v => rfl
    (refine absG fun G_ hG_ => ?_; (rcases hI with ⟨i, vs, st', hi, rfl, hlen, hvs, hloc, hpl', hK'1, hK'2, hacc', hC', N', hit', m, hns'⟩) <;> (refine hG_ ?_; clear hG_ G_))
    have hK' : HeapOK st'.mh hp cs (t + 1 + i) := ⟨cx, hK'1, hK'2, hK3⟩
    by_cases hlt : (i : Int) < k
    · refine wpAny_pyNext_range_item hit' (by lia) fun h₁ hit₁ hs₁ => ?_
      refine wpAny_assign_Name (wpAny_storeName_local ceturn (m := m) (by rw [ceL]; exact hns'.sameBut hs₁ (Ne.symm hitC)) (fun h₂ hn₂ hs₂ => ?_) (by rw [cek]; rfl))
      rw [ceL] at hn₂ hs₂
      have hit₂ : IsRangeIter h₂ it ((i : Int) + 1) (k - i - 1) 1 := (hs₂.2 it hitC).trans hit₁
      have Na := swap (h' := h₂) (tk := s'.toks + 1 + 1) N' hit' hns' hC' (fun b o e b1 b2 => (hs₂.2 b b2).trans ((hs₁.2 b b1).trans e))
      have g138 : st'.loc 138 = some (.ref hp) := by rw [hloc]; exact h138
      have g153 : st'.loc 153 = some (.ref pl) := by rw [hloc]; exact h153
      refine pick_ok w S c hn ceT ce153 cel153 Na.rep (cell_of Na.rep (by decide) te.k138 te.l138 g138) (cell_of Na.rep (by decide) k153 l153 g153) hpl' hne hK' (by lia) fun b cc' rv s₆ hb h₆ hK₆ N₆ r₆ => ?_
      have hacc₆ : (st'.mh.set hp (.list [.ref cc', .int ((t + 1 + i + 1 : Nat) : Int)])) acc = some (.list vs) := by rw [set_ne aHp]; exact hacc'
      refine lappend_ok c N₆.rep hacc₆ r₆ (by unfold LIM; lia) fun s₇ N₇ => ?_
      have N₆₇ := N₆.trans N₇
      have ecx : cc' = cx := by
        rw [hK'1] at h₆
        cases h₆; rfl
      subst ecx
      refine ⟨9 - (i + 1), sl1 (by lia), i + 1, vs ++ [.bytes b], ⟨st'.loc, (st'.mh.set hp (.list [.ref cc', .int ((t + 1 + i + 1 : Nat) : Int)])).set acc (.list (vs ++ [.bytes b]))⟩, by push_cast; lia, rfl, by simp [hlen], ?_, hloc, ?_, ?_, ?_, set_self, ?_, Na.trans N₆₇, ?_, ?_⟩
      · intro v hv
        (refine absG fun G_ hG_ => ?_; (rcases List.mem_append.mp hv with h | h) <;> (refine hG_ ?_; clear hG_ G_))
        · exact hvs v h
        · exact ⟨b, hb, by simpa using h⟩
      · show (MH.set _ acc _) pl = _
        rw [set_ne (Ne.symm aPl), set_ne hne]; exact hpl'
      · show (MH.set _ acc _) hp = _
        rw [set_ne (Ne.symm aHp)]
        rw [show t + 1 + (i + 1) = t + 1 + i + 1 from by lia]
        exact set_self
      · show (MH.set _ acc _) cc' = _
        rw [set_ne (Ne.symm aCx), set_ne hK3]; exact hK'2
      · (refine absG fun G_ hG_ => ?_; (rcases hn₂ with ⟨oC, _, _, eC, _⟩) <;> (refine hG_ ?_; clear hG_ G_))
        exact N₆₇.stp.stays eC hC'
      · have := rec_keeps c Na.rep N₆₇ hit₂ rfl rfl
        show IsRangeIter s₇.heap it ((i + 1 : Nat) : Int) (k - ((i + 1 : Nat) : Int)) 1
        rw [show ((i + 1 : Nat) : Int) = (i : Int) + 1 from by push_cast; rfl, show k - ((i : Int) + 1) = k - i - 1 from by lia]
        exact this
      · (refine absG fun G_ hG_ => ?_; (rcases hn₂ with ⟨oC, es, ep, eC, dC', rC⟩) <;> (refine hG_ ?_; clear hG_ G_))
        refine ⟨_, oC, es, ep, N₆₇.stp.keep C oC eC hC' ?_ (by rw [hF]; simp), dC', rC⟩
        intro z1_; (refine absG fun G_ hG_ => ?_; (rcases z1_ with rfl) <;> (refine hG_ ?_; clear hG_ G_))
        (refine absG fun G_ hG_ => ?_; (rcases Ldict R₀ with ⟨oL', _, _, eL', _⟩) <;> (refine hG_ ?_; clear hG_ G_))
        rw [dC] at eL'; cases eL'
    · refine wpAny_pyNext_range_end c.handled hit' (by lia) fun h₁ he₁ => ?_
      have hns₁ : h₁.Ns C m := hns'.extBut he₁ (Ne.symm hitC)
      refine ⟨m, hns₁, fun h₂ hs₂ => ?_⟩
      refine hQ acc vs st' _ _ hvs (by lia) hloc hacc' hK' (by lia) ?_
      show Nxt W X st₀ s₀ st' { s' with heap := h₂, toks := s'.toks }
      exact swap (h' := h₂) (tk := s'.toks) N' hit' hns' hC' fun b o e b1 b2 => (hs₂.2 b b2).trans (he₁ b o b1 e)
  exact codeF_compStart loop (wpAny_pyIter_rangeiter hit5 loop)
end
end Lx
namespace Lx
open PySem PySem.W PySem.Calls PyProof.Rows PySem.Spec
noncomputable def ePieces : E := .list (.cons (.c (.bytes [120]) ⟨466, 19, 466, 23⟩) (.cons (.c (.bytes [101, 110, 100]) ⟨466, 25, 466, 31⟩) (.cons (.c (.bytes [32]) ⟨466, 33, 466, 37⟩) (.cons (.c (.bytes [55]) ⟨466, 39, 466, 43⟩) (.cons (.c (.bytes [13, 10]) ⟨466, 45, 466, 52⟩)
  (.cons (.c (.bytes [34, 97, 92, 10, 34]) ⟨466, 54, 466, 64⟩) (.cons (.c (.bytes [39, 92, 13, 10, 92, 48, 54, 53, 39]) ⟨466, 66, 466, 82⟩) (.cons (.c (.bytes [91, 91, 13, 10, 107, 10, 13, 93, 93]) ⟨466, 84, 466, 100⟩) (.cons (.c (.bytes [91, 61, 91, 93, 93, 10, 93, 61, 93]) ⟨466, 102, 466, 115⟩)
  (.cons (.c (.bytes [45, 45, 122, 10]) ⟨466, 117, 466, 125⟩) (.cons (.c (.bytes [45, 45, 91, 91, 10, 10, 93, 93]) ⟨466, 127, 466, 140⟩) (.cons (.c (.bytes [46, 46]) ⟨466, 142, 466, 147⟩) (.cons (.c (.bytes [46]) ⟨466, 149, 466, 153⟩) (.cons (.c (.bytes [61]) ⟨466, 155, 466, 159⟩)
  (.cons (.c (.bytes [126]) ⟨466, 161, 466, 165⟩) (.cons (.c (.bytes [45]) ⟨466, 167, 466, 171⟩) (.cons (.c (.bytes [10]) ⟨466, 173, 466, 178⟩) (.cons (.c (.bytes [13]) ⟨466, 180, 466, 185⟩) (.cons (.c (.bytes [34]) ⟨466, 187, 466, 191⟩) (.cons (.c (.bytes [91]) ⟨466, 193, 466, 197⟩)
  (.cons (.c (.bytes [92]) ⟨466, 199, 466, 204⟩) (.cons (.c (.bytes [48, 120]) ⟨466, 206, 466, 211⟩) .nil)))))))))))))))))))))) ⟨466, 18, 466, 212⟩
noncomputable def sPieces : PySem.Stmt := .Assign [.Name (nm 153) (toP ⟨466, 4, 466, 15⟩)] (toE ePieces) (toP ⟨466, 4, 466, 212⟩)
noncomputable def ePart : E := .slice (.loc 144 ⟨467, 12, 467, 18⟩) .no (.c (.int 40) ⟨467, 20, 467, 22⟩) ⟨467, 19, 467, 22⟩ ⟨467, 12, 467, 23⟩
noncomputable def sHeap : PySem.Stmt := .Assign [.Name (nm 138) (toP ⟨467, 4, 467, 8⟩)] (toE (.list (.cons ePart (.cons (.c (.int 0) ⟨467, 25, 467, 26⟩) .nil)) ⟨467, 11, 467, 27⟩)) (toP ⟨467, 4, 467, 27⟩)
noncomputable def xComp : PySem.Expr := .ListComp (toE (ePick ⟨468, 33, 468, 44⟩ ⟨468, 45, 468, 49⟩ ⟨468, 51, 468, 53⟩ ⟨468, 33, 468, 54⟩ ⟨468, 21, 468, 32⟩ ⟨468, 21, 468, 55⟩))
  [⟨.Name (PySem.Str.ofString "turn") (toP ⟨468, 60, 468, 64⟩), .Call (.Name (PySem.Str.ofString "range") (toP ⟨468, 68, 468, 73⟩)) [toE (eToss 9 ⟨468, 74, 468, 85⟩ ⟨468, 86, 468, 90⟩ ⟨468, 92, 468, 93⟩ ⟨468, 74, 468, 94⟩)] [] (toP ⟨468, 68, 468, 95⟩), [], 0⟩] compSc (toP ⟨468, 20, 468, 96⟩)
noncomputable def sText : PySem.Stmt := .Assign [.Name (nm 10) (toP ⟨468, 4, 468, 8⟩)] (.Call (.Attribute (.Constant (.bytes []) 0 (toP ⟨468, 11, 468, 14⟩)) (PySem.Str.ofString "join") (toP ⟨468, 11, 468, 19⟩)) [xComp] [] (toP ⟨468, 11, 468, 97⟩)) (toP ⟨468, 4, 468, 97⟩)
noncomputable def lawRest : Ss := tlS (tlS (tlS b_law))
noncomputable def lawChk (K : Frag) : Bool :=
  isFunc K 502 && codeIn K (fdOf K 502).code (fdOf K 502).qualname && (fdOf K 502).globals == mainGlobals && (fdOf K 502).builtins == builtinsNs && (fdOf K 502).closure.isEmpty && (fdOf K 502).scope.kind == .function && !(fdOf K 502).scope.isCoroutine && !(fdOf K 502).scope.isGenerator &&
    okSs (fdOf K 502).scope lawRest && okE (fdOf K 502).scope ePieces && okLoc (fdOf K 502).scope 10 && okLoc (fdOf K 502).scope 144 && (fdOf K 502).scope.names.lookup (nm 150) == some .globalImplicit && (fdOf K 502).scope.names.lookup (PySem.Str.ofString "range") == some .globalImplicit &&
    (fdOf K 502).scope.names.lookup (nm 138) == some .cell && (fdOf K 502).scope.names.lookup (nm 153) == some .cell && okE (fdOf K 502).scope (.loc 144 ⟨467, 12, 467, 18⟩)
theorem nm_inj' : ∀ i j, nm i = nm j → i < NN → j < NN → i = j := fun i j h hi hj => nm_inj hi hj h
end Lx
namespace Lx
open PySem PySem.W PySem.Calls PyProof.Rows PySem.Spec
section
variable {W : Wd} {X : Cx} {st st₀ : St} {s s₀ : Shared} {n : Nat} {band : Int → Int → Int}
theorem pieces_wp {O : Out} {st : St} {P : V → St → Prop} {Xc : St → Prop} (h : ∀ a, st.mh a = none → P (.ref a) { st with mh := st.mh.set a (.list (pieces.map .bytes)) }) : wpE O ePieces st P Xc := by
  unfold ePieces
  simp only [we_c, we_loc, we_cel, we_glob, we_blt, we_attr, we_bin, we_neg, we_not, we_and, we_or, we_cmp1, we_cmp2, we_ite, we_tup, we_list, we_idx, we_slice, we_dict0, we_no, we_call, we_meth, wes_nil, wes_cons]
  refine ⟨by decide, fun a ha => h a ha⟩
theorem piecesS_ok (w : WOK W) (c : CxOK X) (hn : n ≤ X.n) {tt : PySem.Stmt} (htt : tt = sPieces) {cc : Addr} (ok : okE X.env.scope ePieces = true) (hk : X.env.kindOf (nm 153) = some .cell) (hl : X.env.cells.lookup (nm 153) = some cc) (hap : X.env.cells.Pairwise fun x y => x.2 ≠ y.2)
    (hH : W.H.get? cc = none) (hout : X.outer = []) (R : Rep W X st s) {Qr : Flow → Shared → Prop} {Er}
    (hQ : ∀ pl s', Rep W X ⟨st.loc.set 153 (.ref pl), st.mh.set pl (.list (pieces.map .bytes))⟩ s' → Qr .next s') : wpF (M W) X.A (exec tt X.env) Qr Er s := by
  refine cellAssign_ok (e := ePieces) (i := 153) (n := n) (ip := ⟨466, 4, 466, 15⟩) (p := ⟨466, 4, 466, 212⟩) w c hn htt ok (by decide) hk hl hap hH hout nm_inj' (P := fun v st' => ∃ pl, v = .ref pl ∧ st' = { st with mh := st.mh.set pl (.list (pieces.map .bytes)) }) (pieces_wp fun a u_ => ⟨a, rfl, rfl⟩) s R fun v st' s' h R' => ?_
  obtain ⟨pl, rfl, rfl⟩ := h
  exact hQ pl s' R'
theorem heap_ok (w : WOK W) (c : CxOK X) (hX : 1 ≤ X.n) {tt : PySem.Stmt} (htt : tt = sHeap) (hout : X.outer = []) {c2 : Addr} (te : TE X.env c2) (hap : X.env.cells.Pairwise fun x y => x.2 ≠ y.2) (hH : W.H.get? c2 = none) (ok144 : okE X.env.scope (.loc 144 ⟨467, 12, 467, 18⟩) = true)
    {a0 : Ad} {items : List Value} {cs : List Int} (hs : ∀ s' : Shared, W.H.StaysIn s'.heap → s'.heap.IsList a0 items.toArray) (hv : ∀ mh h, VReps mh h (cs.map V.int) items) (hlim : items.length ≤ LIM) (R : Rep W X st s) (h144 : st.loc 144 = some (.stat a0))
    {Qr : Flow → Shared → Prop} {Er : Value → Shared → Prop}
    (hQ : ∀ b hp s', st.mh b = none → st.mh hp = none → hp ≠ b → Rep W X ⟨st.loc.set 138 (.ref hp), (st.mh.set b (.list (cut (cs.map V.int) 0 40))).set hp (.list [.ref b, .int 0])⟩ s' → Qr .next s') : wpF (M W) X.A (exec tt X.env) Qr Er s := by
  subst htt
  unfold sHeap
  refine fAssignName ?_ (swaps_toE _ _ _ _)
  simp only [te_c, te_loc, te_cel, te_glob, te_blt, te_attr, te_bin, te_neg, te_not, te_and, te_or, te_cmp1, te_cmp2, te_ite, te_tup, te_list, te_idx, te_slice, te_dict0, te_no, te_call, te_meth]
  refine fList ?_
  rw [tes_cons, star_toE]
  refine fArgsCons ?_
  unfold ePart
  simp only [te_c, te_loc, te_cel, te_glob, te_blt, te_attr, te_bin, te_neg, te_not, te_and, te_or, te_cmp1, te_cmp2, te_ite, te_tup, te_list, te_idx, te_slice, te_dict0, te_no, te_call, te_meth]
  refine fSubscript (value := toE (.loc 144 ⟨467, 12, 467, 18⟩)) (sndE w c hX (.loc 144 ⟨467, 12, 467, 18⟩) st (fun v st' => v = .stat a0 ∧ st' = st) (fun u_ => False) ok144 (by simp [we_c, we_loc, we_cel, we_glob, we_blt, we_attr, we_bin, we_neg, we_not, we_and, we_or, we_cmp1, we_cmp2, we_ite, we_tup, we_list, we_idx, we_slice, we_dict0, we_no, we_call, we_meth, h144]) s R _ _ (fun v st₁ rv s₁ h₁ N₁ r₁ => ?_) fun u_ u_ u_ x => x.elim)
  obtain ⟨rfl, rfl⟩ := h₁
  cases r₁
  rw [slice_arm]
  refine wpF_bind (sndO w c hX .no st₁ (fun v st' => v = .none ∧ st' = st₁) (fun u_ => False) rfl (by simp [we_c, we_loc, we_cel, we_glob, we_blt, we_attr, we_bin, we_neg, we_not, we_and, we_or, we_cmp1, we_cmp2, we_ite, we_tup, we_list, we_idx, we_slice, we_dict0, we_no, we_call, we_meth]) s₁ N₁.rep _ _ (fun l st₂ rl s₂ h₂ N₂ r₂ => ?_) fun u_ u_ u_ x => x.elim)
  obtain ⟨rfl, rfl⟩ := h₂
  cases r₂
  refine wpF_bind (wpF_holding (sndO w c hX (.c (.int 40) ⟨467, 20, 467, 22⟩) st₂ (fun v st' => v = .int 40 ∧ st' = st₂) (fun u_ => False) rfl (by simp [we_c, we_loc, we_cel, we_glob, we_blt, we_attr, we_bin, we_neg, we_not, we_and, we_or, we_cmp1, we_cmp2, we_ite, we_tup, we_list, we_idx, we_slice, we_dict0, we_no, we_call, we_meth]) s₂ N₂.rep _ _ (fun u st₃ ru s₃ h₃ N₃ r₃ => ?_) fun u_ u_ u_ x => x.elim))
  obtain ⟨rfl, rfl⟩ := h₃
  cases r₃
  refine wpF_bind (wpF_holding (wpF_pure ?_))
  refine wpF_any (wpAny_mono (statSlice_ok w c N₃.rep (hs s₃ N₃.rep.stays) hv hlim (fun b s₄ hb N₄ => ?_)) (fun u_ u_ z => wpF_any z) fun u_ u_ x => x)
  rw [tes_cons, star_toE]
  refine fArgsCons ?_
  show wpF _ _ (eval (.Constant (.int 0) 0 (toP ⟨467, 25, 467, 26⟩)) X.env) _ _ _
  refine wpF_any (wpAny_Constant_int (wpF_any (args_nil ?_)))
  have N₅ := N₄.rep.tk (s₄.toks + 1)
  refine wpF_any (newList_ok c N₅.rep (vreps_cons (.ref b) (vreps_cons (.int 0 _) vreps_nil)) (by show 2 ≤ LIM; unfold LIM; decide) fun hp s₅ hhp N₆ => ?_)
  have hne : hp ≠ b := fun q => by
    have hhp : (st₃.mh.set b (.list (cut (cs.map V.int) 0 40))) hp = none := hhp
    rw [q] at hhp
    have : (st₃.mh.set b (.list (cut (cs.map V.int) 0 40))) b = some (.list (cut (cs.map V.int) 0 40)) := set_self
    rw [this] at hhp; cases hhp
  have hhp' : st₃.mh hp = none := by
    have h : (st₃.mh.set b (.list (cut (cs.map V.int) 0 40))) hp = none := hhp
    rw [set_ne hne] at h; exact h
  exact wpF_any (storeCell_ok c N₆.rep (by decide) te.k138 te.l138 hap (.ref hp) hH hout nm_inj' fun s' R' u_ => hQ b hp s' hb hhp' hne R')
theorem text_ok (w : WOK W) (S : Sys (Calls W) band) (c : CxOK X) (hX : 1 ≤ X.n) {tt : PySem.Stmt} (htt : tt = sText) (hout : X.outer = []) {c1 c2 : Addr} (te : TE X.env c2) (hrng : X.env.scope.names.lookup (PySem.Str.ofString "range") = some .globalImplicit)
    (k153 : X.env.kindOf (nm 153) = some .cell) (l153 : X.env.cells.lookup (nm 153) = some c1) (ok10 : okLoc X.env.scope 10 = true) (R : Rep W X st s) {hp pl : Ad} (h138 : st.loc 138 = some (.ref hp)) (h153 : st.loc 153 = some (.ref pl))
    (hpl : st.mh pl = some (.list (pieces.map .bytes))) (hne : pl ≠ hp) {cs : List Int} {t : Nat} (hK : HeapOK st.mh hp cs t) (ht : t ≤ 1000) {Qr : Flow → Shared → Prop} {Er : Value → Shared → Prop}
    (hQ : ∀ T st' s' t', T.length ≤ 1000 → st'.loc = st.loc.set 10 (.bytes T) → HeapOK st'.mh hp cs t' → t' ≤ t + 9 → Rep W X st' s' → Qr .next s') : wpF (M W) X.A (exec tt X.env) Qr Er s := by
  subst htt
  unfold sText
  refine fAssignName ?_ rfl
  rw [arm_eval_Call]
  show wpF _ _ (eval (.Constant (.bytes []) 0 (toP ⟨468, 11, 468, 14⟩)) X.env >>= _) _ _ _
  refine wpF_bind (wpF_any (const_bytes (Nat.zero_le _) fun tk0 tk => wpF_standAt ?_))
  have N₀ := R.tk tk
  unfold methodCall
  refine wpF_bind (wpF_holding (wpF_any ?_))
  show wpAny _ _ (getMethod (.bytes #[] tk0) _ _) _ _ _
  refine getMethod_builtin (typeIs_bytes _ _ _) FB.plainAttrs_bytes slot_bytes_join type_bytes_join (fun a q => by cases q) ?_
  dsimp only
  refine wpF_bind (wpF_eq (u := pure (toP ⟨468, 11, 468, 97⟩)) rfl (wpF_pure ?_))
  refine fCallWith (P := fun u_ => True) rfl (fun h' u_ => ⟨.machine, .inr (.inl rfl), .now⟩) ?_
  refine fEvalArgs (rest := []) ?_
  refine fArgsCons ?_
  refine comp_ok w S c hX hout te hrng k153 l153 N₀.rep h138 h153 hpl hne hK ht fun acc vs st' s' t' hvs hlen hloc hacc hK' ht' N => wpF_any (args_nil (env := X.env) (pos := toP ⟨468, 11, 468, 97⟩) ⟨trivial, wpF_any ?_⟩)
  obtain ⟨⟨o, items, m, ho, hc, hd, hsl, hdat, hr, hlim⟩, _⟩ := N.rep.objs acc _ hacc
  have hl := hr.1
  refine join_call (a := acc) (items := items.toArray) (t := tk0) ⟨o, ho, hc, m, hdat⟩ (fun i x hx => ?_) (by rw [List.size_toArray]; lia) fun b u tk' hb => ?_
  · have hx' : items[i]? = some x := by simpa using hx
    have hi : i < items.length := (List.getElem?_eq_some_iff.mp hx').1
    have hv : vs[i]? = some vs[i] := List.getElem?_eq_getElem (by lia)
    obtain ⟨bb, hbb, e⟩ := hvs vs[i] (List.getElem_mem _)
    have r := hr.2 i _ x hv hx'
    rw [e] at r
    cases r
    refine ⟨_, _, rfl, ?_⟩
    have : ∀ b ∈ pieces, b.length ≤ 20 := by decide
    simpa using this bb hbb
  · have Ne := N.rep.tk tk'
    have rb : VRep st'.mh s'.heap (.bytes b.toList) (.bytes b u) := by
      have := VRep.bytes (mh := st'.mh) (h := s'.heap) b.toList u (by have : b.toList.length = b.size := by simp
                                                                      unfold LIM; lia)
      simpa using this
    refine wpF_any (store_ok c Ne.rep ok10 rb fun s'' N' => ?_)
    exact hQ b.toList ⟨st'.loc.set 10 (.bytes b.toList), st'.mh⟩ s'' t' (by simpa using hb) (by show Fs.set _ _ _ = _; rw [hloc]) hK' ht' N'.rep
end
end Lx
namespace Lx
open PySem PySem.W PySem.Calls PyProof.Rows PySem.Spec
noncomputable def numOf {C : Nat → Ad → List V → MH → (V → MH → Prop) → (MH → Prop) → Prop} {band : Int → Int → Int} (S : Sys C band) (b : List UInt8) : V := open Classical in if h : b.length ≤ LIM then Classical.choose (c_stn S h) else .none
theorem numOf_spec {C : Nat → Ad → List V → MH → (V → MH → Prop) → (MH → Prop) → Prop} {band : Int → Int → Int} (S : Sys C band) (b : List UInt8) (h : b.length ≤ LIM) :
    VN (numOf S b) ∧ ∀ {n : Nat} {mh : MH} {lim : Ad} {Q : V → MH → Prop} {X : MH → Prop}, 5 ≤ n → LimOK mh lim → Q (numOf S b) mh → C n 138 [.bytes b, .ref lim] mh Q X := by
  unfold numOf
  rw [dif_pos h]
  exact Classical.choose_spec (c_stn S h)
theorem numOf_vn {C : Nat → Ad → List V → MH → (V → MH → Prop) → (MH → Prop) → Prop} {band : Int → Int → Int} (S : Sys C band) (b : List UInt8) : VN (numOf S b) := by
  by_cases h : b.length ≤ LIM
  · exact (numOf_spec S b h).1
  · unfold numOf
    rw [dif_neg h]
    first | exact .none | trivial | simp [VN]
structure LawAt (K : Frag) (fd : FuncData) : Prop where
  look : ∃ oc od osl, K.lookup 502 = some ⟨oc, od, .func fd, osl⟩
  code : codeIn K fd.code fd.qualname = true
  globals : fd.globals = mainGlobals
  builtins : fd.builtins = builtinsNs
  closure : fd.closure = []
  kind : fd.scope.kind = .function
  co : fd.scope.isCoroutine = false
  gen : fd.scope.isGenerator = false
  rest : okSs fd.scope lawRest = true
  pieces : okE fd.scope ePieces = true
  ok10 : okLoc fd.scope 10 = true
  ok144 : okLoc fd.scope 144 = true
  toss : fd.scope.names.lookup (nm 150) = some .globalImplicit
  range : fd.scope.names.lookup (PySem.Str.ofString "range") = some .globalImplicit
  k138 : fd.scope.names.lookup (nm 138) = some .cell
  k153 : fd.scope.names.lookup (nm 153) = some .cell
  e144 : okE fd.scope (.loc 144 ⟨467, 12, 467, 18⟩) = true
  body : fd.body = .stmts (sPieces :: sHeap :: sText :: toSs opq0 lawRest)
  cells : ∀ n, cellsFrom n fd.scope.names [] = [(nm 138, n + 1), (nm 153, n)]
  bind : ∀ v, bindArgs fd ⟨[v], []⟩ = pure [(nm 144, v)]
theorem lawAt_of {K : Frag} (h : lawChk K = true) (b : (fdOf K 502).body = .stmts (sPieces :: sHeap :: sText :: toSs opq0 lawRest)) (cl : ∀ n, cellsFrom n (fdOf K 502).scope.names [] = [(nm 138, n + 1), (nm 153, n)]) (bd : ∀ v, bindArgs (fdOf K 502) ⟨[v], []⟩ = pure [(nm 144, v)]) :
    LawAt K (fdOf K 502) := by
  simp only [lawChk, Bool.and_eq_true, beq_iff_eq, Bool.not_eq_true', List.isEmpty_iff] at h
  obtain ⟨⟨⟨⟨⟨⟨⟨⟨⟨⟨⟨⟨⟨⟨⟨⟨h1, h2⟩, h3⟩, h4⟩, h5⟩, h6⟩, h7⟩, h8⟩, h9⟩, h10⟩, h11⟩, h12⟩, h13⟩, h14⟩, h15⟩, h16⟩, h17⟩ := h
  exact ⟨look_of h1, h2, h3, h4, h5, h6, h7, h8, h9, h10, h11, h12, h13, h14, h15, h16, h17, b, cl, bd⟩
section
variable {W : Wd} {s₁ : Shared}
theorem law_ok (w : WOK W) (S : Sys (Calls W) PySem.Builtin.bitAnd) {fd : FuncData} (LA : LawAt W.K fd) (e1 : s₁.heap = W.H) (e2 : s₁.gens = W.G) (e3 : s₁.os = W.O) {a0 : Ad} {items : List Value} {cs : List Int} (hl : s₁.heap.IsList a0 items.toArray)
    (hv : ∀ mh h, VReps mh h (cs.map V.int) items) (hlim : items.length ≤ LIM) {E : Value → Shared → Prop} :
    wpF (M W) callerA (call (.ref 502) [.ref a0]) (fun v s' => v = .bool true ∧ W.H.StaysIn s'.heap ∧ s'.gens = W.G ∧ s'.os = W.O) E s₁ := by
  obtain ⟨⟨oc, od, osl, hlook⟩, h2, h3, h4, h5, h6, h7, h8, h9, h10, h11, h12, h13, h14, h15, h16, h17, hbody, hcl, hbd⟩ := LA
  obtain ⟨t1, t2, t3, aa, hbody', ht1, ht2, ht3, haa⟩ : ∃ t1 t2 t3 aa, fd.body = .stmts (t1 :: t2 :: t3 :: toSs opq0 aa) ∧ t1 = sPieces ∧ t2 = sHeap ∧ t3 = sText ∧ aa = lawRest := ⟨_, _, _, _, hbody, rfl, rfl, rfl, rfl⟩
  obtain ⟨pp, loose, mg, mb, T⟩ := w.top
  have ho := w.kin 502 _ hlook
  have hcr : W.H.CodeRec fd.code fd.qualname := codeRec_of w.kin h2
  rw [← e1] at ho hcr
  have hl144 : fd.scope.names.lookup (nm 144) = some .local := by
    simp only [okLoc, Bool.and_eq_true, decide_eq_true_eq, beq_iff_eq] at h12
    exact h12.2
  refine wpF_call (codeF_call_cells (fd := fd) (by decide) ho rfl (by rw [e1]; exact T.nolimit) hcr hbody' (BindsTo.of_eq (hbd _)) h5 (fun x hx => .inl (by
    have : x = (nm 144, Value.ref a0) := by simpa using hx
    rw [this]; exact hl144)) (fun s₂ hin => ?_) h7 h8 h6)
  have hcells : (callEnvC fd s₁.heap.objs.size 502).cells = [(nm 138, s₁.heap.objs.size + 1 + 1), (nm 153, s₁.heap.objs.size + 1)] := hcl _
  have hscope : (callEnvC fd s₁.heap.objs.size 502).scope = fd.scope := rfl
  generalize henv : callEnvC fd s₁.heap.objs.size 502 = env at hin hcells hscope ⊢
  have hloc : env.locals = s₁.heap.objs.size := by rw [← henv]; rfl
  have hfr : env.frame = some s₁.heap.objs.size := by rw [← henv]; rfl
  have hgl : env.globals = mainGlobals := by rw [← henv]; exact h3
  have hbu : env.builtins = builtinsNs := by rw [← henv]; exact h4
  let X : Cx := ⟨callerA.deeper env, env, s₁.heap.objs.size, [], 40⟩
  have c : CxOK X := by
    refine ⟨Around.frames_deeper (show callerA.frames = some [] from rfl), rfl, hfr, hloc, hgl, hbu, by show env.scope.kind = _; rw [hscope]; exact h6, ?_, ?_⟩
    · show callerA.depth + 1 + 2 * 40 < recursionLimit
      decide
    · show callerA.units + 3 + 20 * 40 + 20 < cLine
      decide
  have dead : ∀ a, s₁.heap.objs.size ≤ a → W.H.get? a = none := fun a ha => by
    rw [← e1]
    cases q : s₁.heap.get? a with
    | none => rfl
    | some o => exact absurd (Heap.lt_size q) (Nat.not_lt.mpr ha)
  have ne : (nm 153 == nm 138) = false := by decide +kernel
  have l138 : env.cells.lookup (nm 138) = some (s₁.heap.objs.size + 1 + 1) := by rw [hcells]; simp [List.lookup_cons]
  have l153 : env.cells.lookup (nm 153) = some (s₁.heap.objs.size + 1) := by rw [hcells]; simp [List.lookup_cons, ne]
  have k138 : env.kindOf (nm 138) = some .cell := by show env.scope.names.lookup _ = _; rw [hscope]; exact h15
  have k153 : env.kindOf (nm 153) = some .cell := by show env.scope.names.lookup _ = _; rw [hscope]; exact h16
  have k144 : env.kindOf (nm 144) = some .local := by show env.scope.names.lookup _ = _; rw [hscope]; exact hl144
  have te : TE X.env (s₁.heap.objs.size + 1 + 1) := ⟨c.kind, hgl, by show env.scope.names.lookup _ = _; rw [hscope]; exact h13, k138, l138⟩
  have hap : X.env.cells.Pairwise fun x y => x.2 ≠ y.2 := hin.apart
  obtain ⟨hp', tk', hs2, hkeep⟩ := hin.done
  have R₀ : Rep W X ⟨fun i => if i = 144 then some (.stat a0) else none, fun u_ => none⟩ s₂ := by
    have hst : W.H.StaysIn s₂.heap := fun b o e => by rw [hs2]; exact hkeep b o (by rw [e1]; exact e)
    have hns := hin.toInCall.ns
    rw [hloc] at hns
    refine ⟨hst, ⟨_, hns, fun i v hi hv' => ?_⟩, fun a o e => (by cases e), ?_, fun b hb => rfl, fun q hq => ⟨rfl, ?_⟩, by rw [hs2]; exact e2, by rw [hs2]; exact e3⟩
    · by_cases q : i = 144
      · subst q
        simp only [if_true] at hv'
        cases hv'
        refine ⟨.ref a0, ⟨fun u_ => ?_, fun hc => ?_⟩, .stat a0⟩
        · show bindL env.kindOf [(nm 144, Value.ref a0)] _ _ = _
          simp [bindL, k144]
        · rw [k144] at hc; cases hc
      · simp only [if_neg q] at hv'; cases hv'
    · obtain ⟨o, es, ep, e, d, r⟩ := hns
      exact ⟨by show env.scope.kind ≠ .module; rw [hscope, h6]; decide, ⟨_, o, hfr, dead _ (Nat.le_refl _), e, fun vs q => by rw [d] at q; cases q⟩, trivial⟩
    · have hq' : q ∈ env.cells := hq
      rw [hcells] at hq'
      simp only [List.mem_cons, List.not_mem_nil, or_false] at hq'
      rcases hq' with rfl | rfl
      · obtain ⟨o, ho, hd⟩ := hin.cell _ _ l138
        exact ⟨o, _, ho, hd⟩
      · obtain ⟨o, ho, hd⟩ := hin.cell _ _ l153
        exact ⟨o, _, ho, hd⟩
  show wpF (M W) X.A (execs _ X.env) _ _ s₂
  refine fExecsCons (piecesS_ok w c (n := 12) (by show 12 ≤ 40; decide) ht1 (by show okE env.scope _ = _; rw [hscope]; exact h10) k153 l153 hap (dead _ (Nat.le_succ _)) rfl R₀ fun pl s₃ R₃ => ?_)
  dsimp only
  refine fExecsCons (heap_ok w c (by show 1 ≤ 40; decide) ht2 rfl te hap (dead _ (Nat.le_trans (Nat.le_succ _) (Nat.le_succ _))) (by show okE env.scope _ = _; rw [hscope]; exact h17) (a0 := a0) (items := items) (cs := cs) (fun s' hs' => ?_) hv hlim R₃ rfl fun b hp s₄ hb hhp hne R₄ => ?_)
  · rw [e1] at hl
    obtain ⟨o, ho, hc, m, hd⟩ := hl
    exact ⟨o, hs' _ _ ho, hc, m, hd⟩
  dsimp only
  have bpl : b ≠ pl := fun q => by
    have : (MH.set (fun u_ => none) pl (.list (pieces.map .bytes))) b = none := hb
    rw [q, set_self] at this; cases this
  have hpl : hp ≠ pl := fun q => by
    have : (MH.set (fun u_ => none) pl (.list (pieces.map .bytes))) hp = none := hhp
    rw [q, set_self] at this; cases this
  have hcut : cut (cs.map V.int) 0 40 = (cut cs 0 40).map V.int := by unfold cut; simp [List.map_take]
  refine fExecsCons (text_ok w S c (by show 1 ≤ 40; decide) ht3 rfl te (by show env.scope.names.lookup _ = _; rw [hscope]; exact h14) k153 l153 (by show okLoc env.scope 10 = _; rw [hscope]; exact h11) R₄ (hp := hp) (pl := pl) rfl rfl ?_ (Ne.symm hpl) (cs := cut cs 0 40) (t := 0) ?_ (Nat.zero_le _) fun Tx st₅ s₅ t₅ hT hl5 hK₅ ht₅ R₅ => ?_)
  · show (MH.set (MH.set _ b _) hp _) pl = _
    rw [set_ne (Ne.symm hpl), set_ne (Ne.symm bpl)]; exact set_self
  · refine ⟨b, set_self, ?_, Ne.symm hne⟩
    show (MH.set (MH.set _ b _) hp _) b = _
    rw [set_ne (Ne.symm hne), ← hcut]; exact set_self
  dsimp only
  have rest := law_rest S (fun b hb => numOf_spec S b hb) (numOf_vn S) (n := 12) (Nat.le_refl _) hT (cs := cut cs 0 40) (hp := hp) (mh := st₅.mh) (t := t₅) hK₅ (by lia) (loc := st₅.loc) (by rw [hl5]; rfl) (by rw [hl5]; rfl) (Q := fun f u_ => f = .ret (.bool true)) (X := fun u_ => False) (fun u_ => rfl)
  refine sndSs w c (n := 12) (by show 12 ≤ 40; decide) opq0 aa ⟨st₅.loc, st₅.mh⟩ (fun f u_ => f = .ret (.bool true)) (fun u_ => False) (by show okSs env.scope _ = _; rw [hscope, haa]; exact h9) (by rw [haa]; exact rest) s₅ R₅ _ _ (fun fl st' g s' q N' r => ?_) fun u_ u_ u_ x => x.elim
  subst q
  cases g <;> first | exact r.elim | skip
  cases r
  exact ⟨rfl, N'.rep.stays, N'.rep.gens, N'.rep.os⟩
end
end Lx
namespace Lx
open PySem PySem.W PySem.Calls PyProof.Rows PySem.Spec
theorem ints_rep {mh : MH} {h : Heap} : ∀ {items : List Value} {cs : List Int}, IntsAre items cs → VReps mh h (cs.map V.int) items := fun q => by
  induction q with
  | nil => exact vreps_nil
  | cons n t r ih => exact vreps_cons (.int n t) ih
theorem law_end {prog pp : Program} {w : World} {s₁ : Shared} {loose : List PySem.Str} {mg mb : PySem.Str → Option Value} {K : Frag} (Y : K.In s₁.heap) (k : KOK K) (L : LawAt K (fdOf K 502)) (kl : nsIn K mainGlobals (PySem.Str.ofString "law") = some (some (.ref 502))) (T : TopRead pp loose mg mb s₁.heap) {a a0 : Ad} (ha : mg (PySem.Str.ofString "law") = some (.ref a)) {items : List Value} {cs : List Int}
    (hl : s₁.heap.IsList a0 items.toArray) (hI : IntsAre items cs) (hn : cs.length ≤ 63) {E : Value → Shared → Prop} :
    wpF (model prog w) callerA (call (.ref a) [.ref a0]) (fun v s' => v = .bool true ∧ s₁.heap.StaysIn s'.heap ∧ s'.gens = s₁.gens ∧ s'.os = s₁.os) E s₁ := by
  have e := mg_of Y T.g kl
  rw [ha] at e
  cases e
  have main : ∃ o, s₁.heap.get? mainGlobals = some o := by
    obtain ⟨o, _, _, h, _⟩ := T.g
    exact ⟨o, h⟩
  have wok : WOK ⟨prog, w, K, s₁.heap, s₁.gens, s₁.os, main⟩ := ⟨Y, kf_of k Y, ⟨_, _, _, _, T⟩⟩
  have hv : ∀ (mh : MH) (h : Heap), VReps mh h (cs.map V.int) items := fun mh h => ints_rep hI
  have hlim : items.length ≤ LIM := by
    have := (hv (fun u_ => none) {}).1
    rw [List.length_map] at this
    unfold LIM; lia
  exact law_ok wok (sys_of wok k) L rfl rfl rfl hl hv hlim
end Lx
namespace Lx
open PySem PySem.W PySem.Calls PyProof.Rows PySem.Spec
noncomputable def AS : List Ad := [465, 464, 262, 261, 53, 52, 87, 86, 74, 73, 2, 3, 181, 182, 29, 36, 35, 71, 70, 96, 95, 103, 102, 110, 109, 117, 116, 124, 123, 131, 130, 138, 137, 145, 144, 152, 151, 159, 158, 166, 165, 173, 172, 180, 179, 189, 188, 196, 195, 203, 202, 210, 209, 217, 216, 224, 223, 231, 230, 238, 237, 245, 244, 259, 258, 280, 279, 287, 286, 294, 293, 301, 300, 308, 307, 315, 314, 322, 321, 329, 328, 336, 335, 343, 342, 350, 349, 357, 356, 364, 363, 371, 370, 378, 377, 385, 384, 392, 391, 399, 398, 406, 405, 413, 412, 420, 419, 427, 426, 434, 433, 441, 440, 448, 447, 455, 454, 462, 461, 476, 475, 483, 482, 490, 489, 497, 496, 502, 501]
noncomputable def fragT (s : SharedT) : List Ad → Frag
  | [] => []
  | a :: as => match Nat.blt a s.n with
    | true => (match s.tree.get a with
      | some o => (match alive o with
        | some o' => (a, o') :: fragT s as
        | none => fragT s as)
      | none => fragT s as)
    | false => fragT s as
set_option tactic.hygienic true in
theorem fragT_in {s : SharedT} : ∀ as, (fragT s as).In s.abs.heap
  | [], _, _, e => by cases e
  | b :: as, a, o, e => by
    unfold fragT at e
    split at e
    · rename_i hb
      split at e
      · rename_i o1 h1
        split at e
        · rename_i o2 h2
          rw [List.lookup_cons] at e
          split at e
          · rename_i q
            cases e
            rw [beq_iff_eq.mp q]
            exact (abs_get (Nat.blt_eq.mp hb) h1).trans h2
          · exact fragT_in as a o e
        · exact fragT_in as a o e
      · exact fragT_in as a o e
    · exact fragT_in as a o e
noncomputable def topRunT (tb : String → Option Builtin) (p : Program) (w : World) (n₀ : Nat) (ann : Option Value) : Nat → SharedT → Thread → Option SharedT
  | 0, _, _ => none
  | n + 1, s, t => match through t with
    | true => some s
    | false => match stepOk n₀ ann t with
      | false => none
      | true => match stepT (denote tb) p w s t with
        | some (s', t') => topRunT tb p w n₀ ann n s' t'
        | none => none
theorem topRun_of {tb : String → Option Builtin} {p : Program} {w : World} {n₀ : Nat} {ann : Option Value} : ∀ {n : Nat} {s s' : SharedT} {t : Thread}, topRunT tb p w n₀ ann n s t = some s' → topRun tb p w n₀ ann n s.abs t = some s'.abs
  | 0, _, _, _, h => by cases h
  | n + 1, s, s', t, h => by
    unfold topRunT at h
    unfold topRun
    cases he : through t with
    | true => rw [he] at h; cases h; rfl
    | false =>
      rw [he] at h
      cases hk : stepOk n₀ ann t with
      | false => rw [hk] at h; cases h
      | true =>
        rw [hk] at h
        cases hs : stepT (denote tb) p w s t with
        | none => rw [hs] at h; cases h
        | some r => obtain ⟨s₂, t₂⟩ := r; rw [hs] at h; rw [stepT_spec hs]; exact topRun_of h
noncomputable def buildC : List Obj → BT → Nat → Option BT
  | [], t, _ => some t
  | o :: l, t, n => match ((t.ins n o).get n).isSome with
    | true => buildC l (t.ins n o) (n + 1)
    | false => none
theorem buildC_abs {life : Life} : ∀ {l : List Obj} {t t' : BT} {n : Nat}, buildC l t n = some t' → absHeap t' (n + l.length) life = ⟨(absHeap t n life).objs ++ l.toArray, life⟩
  | [], t, t', n, h => by cases h; simp [absHeap]
  | o :: l, t, t', n, h => by
    unfold buildC at h
    cases g : ((t.ins n o).get n).isSome with
    | false => rw [g] at h; cases h
    | true =>
      rw [g] at h
      have e := buildC_abs (life := life) h
      rw [absHeap_ins g] at e
      rw [List.length_cons, Nat.add_comm l.length 1, ← Nat.add_assoc, e]
      show Heap.mk _ _ = Heap.mk _ _
      congr 1
      show (absHeap t n life).objs.push o ++ l.toArray = _
      simp
noncomputable def openT (p : Program) (w : World) (N : Nat) : Option SharedT := match fencedOpening treeTable p w N with
  | none => none
  | some s₀ => match s₀.heap.isNs mainGlobals && s₀.gens.size == 0 with
    | false => none
    | true => match buildC s₀.heap.objs.toList .nil 0 with
      | none => none
      | some T => match topRunT treeTable p w s₀.heap.objs.size (s₀.heap.nsMap mainGlobals "__annotations__") N ⟨T, s₀.heap.objs.size, s₀.heap.life, s₀.gens, s₀.drawn, s₀.toks, s₀.os⟩ (topStub p) with
        | none => none
        | some s₁ => match staticsOk (importedModules p.main.body) s₀.heap s₁.abs.heap && namesBound p s₁.abs.heap && gensDone s₁.abs && laidKept s₀.heap s₁.abs.heap with
          | true => some s₁
          | false => none
theorem openT_spec {p : Program} {w : World} {N : Nat} {s : SharedT} (h : openT p w N = some s) : openEnds treeTable p w N = some s.abs := by
  unfold openT at h
  unfold openEnds
  cases h0 : fencedOpening treeTable p w N with
  | none => rw [h0] at h; cases h
  | some s₀ =>
    rw [h0] at h
    show topFrom treeTable p w N s₀ = _
    unfold topFrom
    dsimp only at h
    cases h1 : (s₀.heap.isNs mainGlobals && s₀.gens.size == 0) with
    | false => rw [h1] at h; cases h
    | true =>
      rw [h1] at h
      dsimp only at h ⊢
      cases h2 : buildC s₀.heap.objs.toList .nil 0 with
      | none => rw [h2] at h; cases h
      | some T =>
        rw [h2] at h
        dsimp only at h
        have e : (⟨T, s₀.heap.objs.size, s₀.heap.life, s₀.gens, s₀.drawn, s₀.toks, s₀.os⟩ : SharedT).abs = s₀ := by
          have := buildC_abs (life := s₀.heap.life) h2
          rw [Nat.zero_add] at this
          obtain ⟨⟨objs, life⟩, g, d, t, os⟩ := s₀
          show Shared.mk (absHeap T objs.size life) _ _ _ _ = _
          have e2 : absHeap T objs.size life = ⟨objs, life⟩ := by
            rw [← Array.length_toList]
            refine this.trans ?_
            show Heap.mk _ _ = Heap.mk _ _
            congr 1
            show (#[] : Array Obj) ++ objs.toList.toArray = objs
            simp
          rw [e2]
        cases h3 : topRunT treeTable p w s₀.heap.objs.size (s₀.heap.nsMap mainGlobals "__annotations__") N ⟨T, s₀.heap.objs.size, s₀.heap.life, s₀.gens, s₀.drawn, s₀.toks, s₀.os⟩ (topStub p) with
        | none => rw [h3] at h; cases h
        | some s₁ =>
          rw [h3] at h
          dsimp only at h
          have h4 := topRun_of h3
          rw [e] at h4
          rw [h4]
          show (match _ with | true => some s₁.abs | false => none) = _
          cases h5 : (staticsOk (importedModules p.main.body) s₀.heap s₁.abs.heap && namesBound p s₁.abs.heap && gensDone s₁.abs && laidKept s₀.heap s₁.abs.heap) with
          | false => rw [h5] at h; cases h
          | true => rw [h5] at h; cases h; rfl
abbrev Obs := List FuncBody × List ((Nat → Value) → Sem (List (PySem.Str × Value))) × (Setting → Value → Option (List (PySem.Str × Value))) × FuncBody × (Nat → List (PySem.Str × Addr)) × (Value → Sem (List (PySem.Str × Value)))
noncomputable def obsK (K : Frag) : Obs :=
  (FN5.map (fun f => (fdOf K f.1).body),
   FN4.map (fun f => fun v : Nat → Value => bindArgs (fdOf K f.1) ⟨(List.range f.2.1.length).map v, []⟩), (fun (S : Setting) (self : Value) => peek K S (bindArgs (fdOf K 36) ⟨[self], []⟩)),
   (fdOf K 502).body, (fun n => cellsFrom n (fdOf K 502).scope.names []), fun v => bindArgs (fdOf K 502) ⟨[v], []⟩)
noncomputable def valK : Obs :=
  (FN5.map (fun f => FuncBody.stmts (toSs opq0 f.2.2)), FN4.map (fun f => fun v : Nat → Value => pure ((f.2.1.map nm).zip ((List.range f.2.1.length).map v))), (fun u_ self => some ((p_Limits___init__.map nm).zip (self :: limC))),
   .stmts (sPieces :: sHeap :: sText :: toSs opq0 lawRest), (fun n => [(nm 138, n + 1), (nm 153, n)]), fun v => pure [(nm 144, v)])
noncomputable def factsK (K : Frag) : Bool := facts1 K && facts2 K && lawChk K && nsIn K mainGlobals (PySem.Str.ofString "law") == some (some (.ref 502))
noncomputable def tops : Stmt → List PySem.Str
  | .FunctionDef n .. | .ClassDef n .. => [n]
  | .Assign [.Name n _] _ _ => [n]
  | _ => []
noncomputable abbrev pp : Program := PySem.Challenge.pw_sm0066_01
noncomputable def qq : Program := { pp with main := { pp.main with body := pp.main.body.drop 69 } }
noncomputable def loo : List PySem.Str := (pp.main.body.take 69).flatMap tops
theorem leftA (w : World) : (openT pp w 6670).map (fun s => (openSeen qq loo (importedModules pp.main.body) (fun s => xlAt qq [] s && recOk [] s) true s.abs, obsK (fragT s AS))) = some (openGood qq loo, valK) := by kernel_rfl
theorem leftB (w : World) : (openT pp w 6670).map (fun s => factsK (fragT s AS)) = some true := by kernel_rfl
end Lx
namespace Lx
open PySem PySem.W PySem.Calls PyProof.Rows PySem.Spec
noncomputable def Says (h : Heap) : Prop := ∃ K : Frag, K.In h ∧ KOK K ∧ LawAt K (fdOf K 502) ∧ nsIn K mainGlobals (PySem.Str.ofString "law") = some (some (.ref 502))
theorem says_of {s : SharedT} (e1 : obsK (fragT s AS) = valK) (e2 : factsK (fragT s AS) = true) : Says s.abs.heap := by
  have hin := fragT_in (s := s) AS
  generalize fragT s AS = K at e1 e2 hin
  refine ⟨K, hin, ?_⟩
  simp only [factsK, Bool.and_eq_true, beq_iff_eq] at e2
  obtain ⟨⟨⟨f1, f2⟩, f3⟩, f4⟩ := e2
  obtain ⟨o1, e1⟩ := Prod.mk.inj e1
  obtain ⟨o2, e1⟩ := Prod.mk.inj e1
  obtain ⟨o3, e1⟩ := Prod.mk.inj e1
  obtain ⟨o4, e1⟩ := Prod.mk.inj e1
  obtain ⟨o5, o6⟩ := Prod.mk.inj e1
  exact ⟨⟨f1, f2, o1, o2, o3⟩, lawAt_of f3 o4 (fun n => congrFun o5 n) (fun v => congrFun o6 v), f4⟩
theorem left : LeftO pp qq loo (fun s => xlAt qq [] s && recOk [] s) (fun s => Says s.heap) (fun u_ => True) 6670 := fun w => by
  have a := leftA w
  have b := leftB w
  cases h : openT pp w 6670 with
  | none => rw [h] at a; cases a
  | some s =>
    rw [h] at a b
    obtain ⟨a1, a2⟩ := Prod.mk.inj (Option.some.inj a)
    have b := Option.some.inj b
    rw [openT_spec h]
    show some (_, Says s.abs.heap) = some (_, True)
    rw [a1, eq_true (says_of a2 b)]
theorem says_keeps {h h' : Heap} (s : Says h) (k : ∀ b o, h.get? b = some o → h'.get? b = some o) : Says h' := by
  obtain ⟨K, a, b⟩ := s
  exact ⟨K, a.keeps k, b⟩
theorem d_some : (defOf qq (PySem.Str.ofString "law")).isSome = true := by kernel_rfl
noncomputable def dd : DefRec × List (PySem.Str × PySem.Expr) := (defOf qq (PySem.Str.ofString "law")).get d_some
theorem hdef : defOf qq (PySem.Str.ofString "law") = some (dd.1, dd.2) := (Option.some_get d_some).symm
theorem hp : pp.theDef (PySem.Str.ofString "law") = some (dd.1.params, dd.1.body, dd.1.scope) := by kernel_rfl
theorem hk : kwWritten? dd.1.params.kwonlyargs dd.1.params.kw_defaults = some dd.2 := by kernel_rfl
abbrev rr : OpenRow := PySem.Challenge.rw_sm0066_01.row
theorem left' : LeftO rr.toRowW.prog qq loo (fun s => xlAt qq [] s && recOk (RowW.records rr.toRowW) s) (fun s => Says s.heap) (fun u_ => True) 6670 := left
theorem hp' : rr.toRowW.prog.theDef rr.toRowW.name = some (dd.1.params, dd.1.body, dd.1.scope) := hp
theorem hdef' : defOf qq rr.toRowW.name = some (dd.1, dd.2) := hdef
theorem ok' : (chainsOk qq && opensWell rr.prog && (frees rr.toRowW && rr.within.isEmpty)) = true := by decide +kernel
theorem bare' : rr.prog.bare := ⟨rfl, rfl, rfl, rfl, rfl, by decide +kernel⟩
theorem prom' : rr.toRowW.promised := by
  w_on
  w_witness2
theorem wr' : (!rr.writes || (RowW.records rr.toRowW).isEmpty) = true := by rfl
theorem ws' : PySem.Challenge.rw_sm0066_01.wellSaid = true := by kernel_rfl
set_option tactic.hygienic true in
theorem fin : PySem.Challenge.rw_sm0066_01.Holds := by
  w_on
  refine holds_law ws' fun said => ?_
  refine LxH.PySem.W.holds_open (r := rr) (q := qq) (loose := loo) (Xt := fun s => xlAt qq [] s && recOk (RowW.records rr.toRowW) s) (XP := XL qq []) (Yf := fun s => Says s.heap) (Ya := fun u_ => True) (YP := fun u_ h => Says h) (d := dd.1) (kwd := dd.2) (N := 6670)
    left' (fun w s e => of_eq_true e) (fun w h h' s k => says_keeps s k) (fun s e => xl_of s (Bool.and_eq_true_iff.mp e).1) XL.keeps hdef' hp' hk (fun s e => recFacts_of (Bool.and_eq_true_iff.mp e).2) wr' said ok' bare' prom' ?hc
  case hc =>
    intro w s₀ s₁ mg mb G Y a o pm cd doc dV kV ho hd hcd hdf hmg hgens args vals as hpre hlay hrd hwl hlo
    clear hcd hd hdf
    wrow_args hpre hlay hrd hwl hlo
    rename_i cs hs hlay0 hL hr hl2 w4 w3 a0 items w1 hl ra wl r0 hI hr2 hc1 hc2
    obtain ⟨K, k1, k2, k3, k4⟩ := Y
    refine wpF_mono (E := fun u_ u_ => False) (law_end (cs := cs) k1 k2 k3 k4 (topRead_of G.T) hmg hl hI (by omega)) (fun v s' h => ?_) fun e s' h => h.elim
    obtain ⟨rfl, hst, hg, hos⟩ := h
    exact GoodW.toG ⟨.inl ⟨_, .bool true, [], rfl, fun u_ => rfl, .bool true, by kernel_rfl, fun u_ => ⟨List.nodup_nil, fun u_ h => by cases h⟩⟩, hst, hos, hg.trans hgens⟩
end Lx
theorem PySem.Challenge.cw_sm0066_01_holds : PySem.Challenge.rw_sm0066_01.Holds :=
  Lx.fin
