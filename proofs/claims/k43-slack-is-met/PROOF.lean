import PyProof.Rows.All
import Wide.All
import OpenK.AllK
import Wide.FinOn
import HandS.ForMost
import HandS.Wide
import HandS.IsInst
import HandS.EndBits
import HandS.Flow
import HandS.Defaults
import HandS.MakeKwOnly
import HandS.Exc
import HandS.ExcOwn
import HandS.WordsExc
import HandS.TryOnly
import HandS.HotCalls
import HandS.Small
import HandS.ExcField
import KE.KExcIs
import HandS.ExcIs
import HandS.CallSlots
import HandS.MakeKw
import HandS.Walk
import PySem.Challenge.RW_slotwright_k43_whole_slack_is_met
set_option Elab.async false
set_option linter.all false
set_option maxRecDepth 100000
set_option maxHeartbeats 4000000

namespace SW
open PySem L2
/-! ### heaps by a view: U is what never changes, H is all -/
theorem same_new {U : Hp} {p : Addr} {o : HO} (h : U p = none) : Same U (upd U p o) := fun b x e => by
  rw [upd_ne (ne_of_none e h)]
  exact e
theorem same_mut {U H : Hp} {p : Addr} {o : HO} (e : Same U H) (h : U p = none) : Same U (upd H p o) := fun a u ha => by
  rw [upd_ne (ne_of_none ha h)]
  exact e a u ha
theorem same_back {U H : Hp} {p : Addr} (e : Same U H) (h : H p = none) : U p = none := e.free h
theorem upd_get {H : Hp} {p a : Addr} {o x : HO} (n : H p = none) (h : H a = some x) : upd H p o a = some x := by
  rw [upd_ne (ne_of_none h n)]
  exact h
structure Gr (M : List Addr) (U H U' H' : Hp) : Prop where
  vv : Same U U'
  vh : Same U' H'
  hh : ∀ a o, a ∉ M → H a = some o → H' a = some o
  dom : ∀ a, H a ≠ none → H' a ≠ none
  fr : ∀ a, U a = none → H a ≠ none → U' a = none
theorem Gr.refl {M : List Addr} {U H : Hp} (e : Same U H) : Gr M U H U H := ⟨Same.refl _, e, fun _ _ _ h => h, fun _ h => h, fun _ h _ => h⟩
theorem Gr.trans {M : List Addr} {U0 H0 U1 H1 U2 H2 : Hp} (a : Gr M U0 H0 U1 H1) (b : Gr M U1 H1 U2 H2) : Gr M U0 H0 U2 H2 :=
  ⟨a.vv.trans b.vv, b.vh, fun x o m h => b.hh x o m (a.hh x o m h), fun x h => b.dom x (a.dom x h), fun x h k => b.fr x (a.fr x h k) (a.dom x k)⟩
theorem Gr.weak {M N : List Addr} {U0 H0 U1 H1 : Hp} (a : Gr M U0 H0 U1 H1) (s : ∀ x, x ∈ M → x ∈ N) : Gr N U0 H0 U1 H1 :=
  ⟨a.vv, a.vh, fun x o m h => a.hh x o (fun z => m (s x z)) h, a.dom, a.fr⟩
theorem Gr.any {N : List Addr} {U0 H0 U1 H1 : Hp} (a : Gr [] U0 H0 U1 H1) : Gr N U0 H0 U1 H1 := a.weak fun _ h => nomatch h
/-- a new object that never changes -/
theorem Gr.new {M : List Addr} {U0 H0 U H : Hp} {p : Addr} {o : HO} (g : Gr M U0 H0 U H) (n : H p = none) : Gr M U0 H0 (upd U p o) (upd H p o) := by
  have nu : U p = none := g.vh.free n
  have n0 : H0 p = none := by
    cases e : H0 p with
    | none => rfl
    | some x => exact absurd n (g.dom p (by rw [e]; intro z; cases z))
  refine ⟨g.vv.trans (same_new nu), fun a x h => ?_, fun a x m h => ?_, fun a h => ?_, fun a h k => ?_⟩
  · by_cases e : a = p
    · subst e
      rw [upd_same] at h ⊢
      exact h
    · rw [upd_ne e] at h ⊢
      exact g.vh a x h
  · rw [upd_ne (ne_of_none h n0)]
    exact g.hh a x m h
  · by_cases e : a = p
    · subst e
      rw [upd_same]
      intro z
      cases z
    · rw [upd_ne e]
      exact g.dom a h
  · have e : a ≠ p := fun z => by
      subst z
      exact k n0
    rw [upd_ne e]
    exact g.fr a h k
/-- a new object that will change -/
theorem Gr.newM {M : List Addr} {U0 H0 U H : Hp} {p : Addr} {o : HO} (g : Gr M U0 H0 U H) (n : H p = none) : Gr M U0 H0 U (upd H p o) := by
  have nu : U p = none := g.vh.free n
  refine ⟨g.vv, same_mut g.vh nu, fun a x m h => ?_, fun a h => ?_, g.fr⟩
  · rw [upd_ne (ne_of_none (g.hh a x m h) n)]
    exact g.hh a x m h
  · by_cases e : a = p
    · subst e
      rw [upd_same]
      intro z
      cases z
    · rw [upd_ne e]
      exact g.dom a h
/-- an object outside of the view changes: one of M, or one that is newer than H0 -/
theorem Gr.mut {M : List Addr} {U0 H0 U H : Hp} {p : Addr} {o : HO} (g : Gr M U0 H0 U H) (nu : U p = none) (n0 : p ∈ M ∨ H0 p = none) : Gr M U0 H0 U (upd H p o) := by
  refine ⟨g.vv, same_mut g.vh nu, fun a x m h => ?_, fun a h => ?_, g.fr⟩
  · have e : a ≠ p := fun z => by
      subst z
      rcases n0 with n0 | n0
      · exact m n0
      · rw [n0] at h
        cases h
    rw [upd_ne e]
    exact g.hh a x m h
  · by_cases e : a = p
    · subst e
      rw [upd_same]
      intro z
      cases z
    · rw [upd_ne e]
      exact g.dom a h
/-- what will change no more comes into the view -/
theorem Gr.seal {M : List Addr} {U0 H0 U H : Hp} {p : Addr} {o : HO} (g : Gr M U0 H0 U H) (h : H p = some o) (nu : U p = none) (n0 : H0 p = none) : Gr M U0 H0 (upd U p o) H := by
  refine ⟨g.vv.trans (same_new nu), fun a x e => ?_, g.hh, g.dom, fun a e k => ?_⟩
  · by_cases z : a = p
    · subst z
      rw [upd_same] at e
      rw [h]
      exact e
    · rw [upd_ne z] at e
      exact g.vh a x e
  · have z : a ≠ p := fun z => by
      subst z
      exact k n0
    rw [upd_ne z]
    exact g.fr a e k
theorem Gr.fresh {M : List Addr} {U0 H0 U H : Hp} {p : Addr} (g : Gr M U0 H0 U H) (n : H p = none) : H0 p = none := by
  cases e : H0 p with
  | none => rfl
  | some x => exact absurd n (g.dom p (by rw [e]; intro z; cases z))
/-! ### the rules with the written part named (so that they serve inside comprehensions too) -/
section
variable {X : Cx} {K : PySem.W.Frag}
theorem ix_listK (h : X.K = K) : IxR X (rIxL K) := by subst h; exact ix_list
theorem ix_tupK (h : X.K = K) : IxR X (rIxT K) := by subst h; exact ix_tup
theorem sl_listK (h : X.K = K) : SlR X (rSlL K) := by subst h; exact sl_list
theorem sl_tupK (h : X.K = K) : SlR X (rSlT K) := by subst h; exact sl_tup
theorem op_inK (h : X.K = K) : OpR X (compareOp .In) (rIn K false) := by subst h; exact op_in_seq
theorem op_notInK (h : X.K = K) : OpR X (compareOp .NotIn) (rIn K true) := by subst h; exact op_notIn_seq
theorem op_eqDK (h : X.K = K) (hu : X.A.units + 64 < cLine) : OpR X (compareOp .Eq) (rEqD K) := by subst h; exact op_eqD hu
theorem op_neDK (h : X.K = K) (hu : X.A.units + 64 < cLine) : OpR X (compareOp .NotEq) (rNeD K) := by subst h; exact op_neD hu
theorem op_catTK (h : X.K = K) : OpR X (binaryOp .Add) (rCatT K) := by subst h; exact op_catT
def rLenK (K : PySem.W.Frag) : List V → Hp → VK → Prop := fun xs H Q => ∃ p ys, xs = [.ref p] ∧ (SqL K H p ys ∨ SqT K H p ys) ∧ Q (.int ys.length) H
def rListK (K : PySem.W.Frag) : List V → Hp → VK → Prop := fun xs H Q => ∃ p ys, xs = [.ref p] ∧ (SqL K H p ys ∨ SqT K H p ys) ∧ ∀ l, H l = none → Q (.ref l) (upd H l (.lst ys))
def rTupleK (K : PySem.W.Frag) : List V → Hp → VK → Prop := fun xs H Q => ∃ p ys, xs = [.ref p] ∧ ((SqL K H p ys ∧ ∀ l, H l = none → Q (.ref l) (upd H l (.tup ys))) ∨ (SqT K H p ys ∧ Q (.ref p) H))
theorem call_lenK (h : X.K = K) : CallR X (.builtin "len") (rLenK K) := by subst h; exact call_len_seq
theorem call_listK (h : X.K = K) : CallR X (.type "list") (rListK K) := by subst h; exact call_list_of
theorem call_tupleK (h : X.K = K) : CallR X (.type "tuple") (rTupleK K) := by subst h; exact call_tuple_of
theorem cr_sumK (h : X.K = K) (hc : X.calm = true) : CallR X (.builtin "sum") (rSum K) := by subst h; exact cr_sum hc
theorem cr_maxK (h : X.K = K) (hc : X.calm = true) : CallR X (.builtin "max") (rMax K) := by subst h; exact cr_max hc
theorem cr_minK (h : X.K = K) (hc : X.calm = true) : CallR X (.builtin "min") (rMin K) := by subst h; exact cr_min hc
theorem cr_allK (h : X.K = K) (hc : X.calm = true) : CallR X (.builtin "all") (rAll K) := by subst h; exact cr_all hc
theorem cr_anyK (h : X.K = K) (hc : X.calm = true) : CallR X (.builtin "any") (rAny K) := by subst h; exact cr_any hc
theorem cr_sortedK (h : X.K = K) : CallR X (.builtin "sorted") (rSorted K) := by subst h; exact cr_sorted
theorem call_isiKK (h : X.K = K) : CallR X (.builtin "isinstance") (rIsi K) := by subst h; exact call_isi
theorem pi_listK {tg e : Expr} {te : TE} (h : X.K = K) (he : PE X e te) : PI X tg e (iList K te) := by subst h; exact pi_list he
theorem pi_tupK {tg e : Expr} {te : TE} (h : X.K = K) (he : PE X e te) : PI X tg e (iTup K te) := by subst h; exact pi_tup he
theorem pg_tupK {pos : Pos} {es : List Expr} {k : Nat} {t : TGs} {n : Nat} (h : X.K = K) (hc : X.calm = true) (hh : PGs X es t) (hn : (assignEach es X.env).length = n := by rfl) (hst : (assignEach es X.env).findIdx? (·.1) = none := by rfl) : PG X (.Tuple es k pos) (gTup K n t) := by subst h; exact pg_tup hc hh hn hst
theorem pe_fldK {pos : Pos} {e : Expr} {ta : TE} {f : Str} (h : X.K = K) (he : PE X e ta) (hb : attributeBase e f X.env (eval e X.env) = eval e X.env) : PE X (.Attribute e f pos) (tFld K ta f) := by subst h; exact pe_fld he hb
end
/-! ### the readings, step by step -/
section
variable {σ : L2.St} {H : Hp} {Q : VK} {te ta tb tc : TE} {i : Nat} {v x y : V} {K : PySem.W.Frag} {n bk ct : L2.St → Hp → Prop} {rt : VK} {t u : TS} {g : TG}
theorem i_var (h : σ[i]? = some (some v)) (q : Q v H) : tVar i σ H Q := ⟨v, h, q⟩
theorem i_c (q : Q v H) : tC v σ H Q := q
theorem i_op {r : R2} (q : ta σ H (fun x H1 => tb σ H1 fun y H2 => r x y H2 Q)) : tOp r ta tb σ H Q := q
theorem i_un {r : V → Hp → VK → Prop} (q : ta σ H (fun x H1 => r x H1 Q)) : tUn r ta σ H Q := q
theorem i_rI0 {f : Int → Int → V} {a b : Int} (q : Q (f a b) H) : rI0 f (.int a) (.int b) H Q := ⟨a, b, rfl, rfl, q⟩
theorem i_rI {C : Int → Int → Prop} {f : Int → Int → V} {a b : Int} (c : C a b) (q : Q (f a b) H) : rI C f (.int a) (.int b) H Q := ⟨a, b, rfl, rfl, c, q⟩
theorem i_mulR {f : Int → Int → V} {a b : Int} (h0 : -(2 ^ 64) < b) (h1 : b < 2 ^ 64) (q : Q (f a b) H) : rI CMul f (.int a) (.int b) H Q := ⟨a, b, rfl, rfl, .inr ⟨h0, h1⟩, q⟩
theorem i_mulL {f : Int → Int → V} {a b : Int} (h0 : -(2 ^ 64) < a) (h1 : a < 2 ^ 64) (q : Q (f a b) H) : rI CMul f (.int a) (.int b) H Q := ⟨a, b, rfl, rfl, .inl ⟨h0, h1⟩, q⟩
theorem i_rU {f : Int → V} {a : Int} (q : Q (f a) H) : rU f (.int a) H Q := ⟨a, rfl, q⟩
theorem i_eqI {a b : Int} (q : Q (.bl (decide (a = b))) H) : rEq (.int a) (.int b) H Q := ⟨rfl, by
  have e : decide (V.int a = V.int b) = decide (a = b) := by
    by_cases h : a = b
    · rw [decide_eq_true h, decide_eq_true (congrArg V.int h)]
    · rw [decide_eq_false h, decide_eq_false (fun z => h (V.int.inj z))]
  show Q (.bl (decide (V.int a = V.int b))) H
  rw [e]
  exact q⟩
theorem i_neI {a b : Int} (q : Q (.bl (!decide (a = b))) H) : rNe (.int a) (.int b) H Q := ⟨rfl, by
  have e : decide (V.int a = V.int b) = decide (a = b) := by
    by_cases h : a = b
    · rw [decide_eq_true h, decide_eq_true (congrArg V.int h)]
    · rw [decide_eq_false h, decide_eq_false (fun z => h (V.int.inj z))]
  show Q (.bl (!decide (V.int a = V.int b))) H
  rw [e]
  exact q⟩
theorem i_eqS {a b : Str} (q : Q (.bl (decide (a = b))) H) : rEq (.str a) (.str b) H Q := ⟨rfl, by
  have e : decide (V.str a = V.str b) = decide (a = b) := by
    by_cases h : a = b
    · rw [decide_eq_true h, decide_eq_true (congrArg V.str h)]
    · rw [decide_eq_false h, decide_eq_false (fun z => h (V.str.inj z))]
  show Q (.bl (decide (V.str a = V.str b))) H
  rw [e]
  exact q⟩
theorem i_neS {a b : Str} (q : Q (.bl (!decide (a = b))) H) : rNe (.str a) (.str b) H Q := ⟨rfl, by
  have e : decide (V.str a = V.str b) = decide (a = b) := by
    by_cases h : a = b
    · rw [decide_eq_true h, decide_eq_true (congrArg V.str h)]
    · rw [decide_eq_false h, decide_eq_false (fun z => h (V.str.inj z))]
  show Q (.bl (!decide (V.str a = V.str b))) H
  rw [e]
  exact q⟩
theorem i_nil {R : List V → Hp → Prop} (q : R [] H) : tNil σ H R := q
theorem i_cons {R : List V → Hp → Prop} {tr : TA} (q : ta σ H (fun x H1 => tr σ H1 fun xs H2 => R (x :: xs) H2)) : tCons ta tr σ H R := q
theorem i_cb {r : List V → Hp → VK → Prop} {tr : TA} (q : tr σ H (fun vs H1 => r vs H1 Q)) : tCB r tr σ H Q := q
theorem i_call {sp : Sp} {dvs : List V} {E : XK} {tr : TA} (q : tr σ H (fun vs H1 => sp (vs ++ dvs) H1 Q E)) : tCall sp dvs E tr σ H Q := q
theorem i_callN {k m : Nat} {sp : Sp} {gV : List V → List V → List V} {E : XK} {tr tk : TA} (q : tr σ H fun vs H1 => tk σ H1 fun zs H2 => vs.length = k ∧ zs.length = m ∧ sp (gV vs zs) H2 Q E) : tCallN k m sp gV E tr tk σ H Q := q
theorem i_seq (q : t ⟨u ⟨n, rt, bk, ct⟩, rt, bk, ct⟩ σ H) : tSeq t u ⟨n, rt, bk, ct⟩ σ H := q
theorem i_next (q : n σ H) : tNext ⟨n, rt, bk, ct⟩ σ H := q
theorem i_brk (q : bk σ H) : tBreak ⟨n, rt, bk, ct⟩ σ H := q
theorem i_cont (q : ct σ H) : tCont ⟨n, rt, bk, ct⟩ σ H := q
theorem i_set (q : te σ H (fun x H1 => n (σ.set i (some x)) H1)) : tAsg te (gName i) ⟨n, rt, bk, ct⟩ σ H := q
theorem i_asg (q : te σ H (fun x H1 => g x σ H1 n)) : tAsg te g ⟨n, rt, bk, ct⟩ σ H := q
theorem i_drop (q : te σ H (fun _ H1 => n σ H1)) : tDrop te ⟨n, rt, bk, ct⟩ σ H := q
theorem i_ret (q : te σ H rt) : tRet te ⟨n, rt, bk, ct⟩ σ H := q
theorem i_retN (q : rt .non H) : tRetN ⟨n, rt, bk, ct⟩ σ H := q
theorem i_if {c : TT} (q : c σ H (fun b H1 => if b = true then t ⟨n, rt, bk, ct⟩ σ H1 else u ⟨n, rt, bk, ct⟩ σ H1)) : tIfS c t u ⟨n, rt, bk, ct⟩ σ H := q
theorem i_test {R : Bool → Hp → Prop} (q : te σ H (fun x H1 => ∃ k, x = .bl k ∧ R k H1)) : tTest te σ H R := q
theorem i_B {R : Bool → Hp → Prop} (q : te σ H (fun x H1 => ∃ k, x = .bl k ∧ R k H1)) : tB te σ H R := q
theorem i_bl {b : Bool} {R : Bool → Hp → Prop} (q : R b H) : ∃ k, V.bl b = .bl k ∧ R k H := ⟨b, rfl, q⟩
theorem i_not {c : TT} {R : Bool → Hp → Prop} (q : c σ H (fun b H1 => R (!b) H1)) : tNot c σ H R := q
theorem i_and {c d : TT} {R : Bool → Hp → Prop} (q : c σ H (fun b H1 => if b = true then d σ H1 R else R false H1)) : tAnd c d σ H R := q
theorem i_or {c d : TT} {R : Bool → Hp → Prop} (q : c σ H (fun b H1 => if b = true then R true H1 else d σ H1 R)) : tOr c d σ H R := q
theorem i_andV (q : ta σ H (fun x H1 => ∃ c, x = .bl c ∧ if c = true then tb σ H1 Q else Q (.bl false) H1)) : tAndV ta tb σ H Q := q
theorem i_orV (q : ta σ H (fun x H1 => ∃ c, x = .bl c ∧ if c = true then Q (.bl true) H1 else tb σ H1 Q)) : tOrV ta tb σ H Q := q
theorem i_notV (q : ta σ H (fun x H1 => ∃ c, x = .bl c ∧ Q (.bl (!c)) H1)) : tNotV ta σ H Q := q
theorem i_blV {b : Bool} {R : Bool → Prop} (q : R b) : ∃ k, V.bl b = .bl k ∧ R k := ⟨b, rfl, q⟩
theorem i_ifE {c : TT} (q : c σ H (fun b H1 => if b = true then ta σ H1 Q else tb σ H1 Q)) : tIf c ta tb σ H Q := q
theorem i_chain {r r' : R2} (q : ta σ H fun x H1 => tb σ H1 fun y H2 => r x y H2 fun z H3 => ∃ k, z = .bl k ∧ (if k = true then tc σ H3 fun w' H4 => r' y w' H4 Q else Q (.bl false) H3)) : tChain r r' ta tb tc σ H Q := q
theorem i_itT {A B : Prop} (q : A) : if true = true then A else B := by rw [if_pos rfl]; exact q
theorem i_itF {A B : Prop} (q : B) : if false = true then A else B := by rw [if_neg Bool.false_ne_true]; exact q
theorem i_ite {p : Prop} [Decidable p] {A B : Prop} (h1 : p → A) (h2 : ¬ p → B) : if decide p = true then A else B := by
  by_cases h : p
  · rw [decide_eq_true h, if_pos rfl]; exact h1 h
  · rw [decide_eq_false h, if_neg Bool.false_ne_true]; exact h2 h
theorem i_iteN {p : Prop} [Decidable p] {A B : Prop} (h1 : ¬ p → A) (h2 : p → B) : if (!decide p) = true then A else B := by
  by_cases h : p
  · rw [decide_eq_true h]; exact i_itF (h2 h)
  · rw [decide_eq_false h]; exact i_itT (h1 h)
theorem i_iteNT {A B : Prop} (q : B) : if (!true) = true then A else B := i_itF q
theorem i_iteNF {A B : Prop} (q : A) : if (!false) = true then A else B := i_itT q
theorem i_iteNN {b : Bool} {A B : Prop} (q : if b = true then A else B) : if (!!b) = true then A else B := by rw [Bool.not_not]; exact q
theorem i_ixL {p : Addr} {xs : List V} {k : Int} (h : H p = some (.lst xs)) (ha : atI xs k = some v) (q : Q v H) : rIxL K (.ref p) (.int k) H Q := ⟨p, xs, k, v, rfl, rfl, SqL.of h, ha, q⟩
theorem i_ixT {p : Addr} {xs : List V} {k : Int} (h : H p = some (.tup xs)) (ha : atI xs k = some v) (q : Q v H) : rIxT K (.ref p) (.int k) H Q := ⟨p, xs, k, v, rfl, rfl, SqT.of h, ha, q⟩
theorem i_sub {to ti : TE} {s : TSet} {R : L2.St → Hp → Prop} (q : to σ H fun o H1 => ti σ H1 fun j H2 => s o j v H2 fun H3 => R σ H3) : gSub to ti s v σ H R := q
theorem i_setL {p : Addr} {xs : List V} {k : Int} {j : Nat} {R : Hp → Prop} (h : H p = some (.lst xs)) (hk : ixN xs.length k = some j) (q : R (upd H p (.lst (xs.set j v)))) : rSetL (.ref p) (.int k) v H R := ⟨p, xs, k, j, rfl, rfl, h, hk, q⟩
theorem i_lst {tr : TA} (q : tr σ H fun xs H1 => xs.length ≤ sizeLine ∧ ∀ p, H1 p = none → Q (.ref p) (upd H1 p (.lst xs))) : tLst tr σ H Q := q
theorem i_tup {tr : TA} (q : tr σ H fun xs H1 => xs.length ≤ sizeLine ∧ ∀ p, H1 p = none → Q (.ref p) (upd H1 p (.tup xs))) : tTup tr σ H Q := q
theorem i_sl {r : V → Option Int → Option Int → Hp → VK → Prop} {tl th : TO} (q : te σ H fun x H1 => tl σ H1 fun l H2 => th σ H2 fun u H3 => r x l u H3 Q) : tSl r te tl th σ H Q := q
theorem i_nopart {R : Option Int → Hp → Prop} (q : R none H) : tNoPart σ H R := q
theorem i_part {R : Option Int → Hp → Prop} (q : te σ H fun x H1 => ∃ i, x = .int i ∧ R (some i) H1) : tPart te σ H R := q
theorem i_partE {k : Int} {R : Int → Prop} (q : R k) : ∃ i, V.int k = .int i ∧ R i := ⟨k, rfl, q⟩
theorem i_slL {a : Addr} {xs : List V} {lo hi : Option Int} (h : H a = some (.lst xs)) (q : ∀ p, H p = none → Q (.ref p) (upd H p (.lst (cutV xs lo hi)))) : rSlL K (.ref a) lo hi H Q := ⟨a, xs, rfl, SqL.of h, q⟩
theorem i_all {a : Addr} {bs : List Bool} (h : H a = some (.lst (bs.map V.bl))) (q : Q (.bl (bs.all id)) H) : rAll K [.ref a] H Q := ⟨a, bs, rfl, SqL.of h, q⟩
theorem i_any {a : Addr} {bs : List Bool} (h : H a = some (.lst (bs.map V.bl))) (q : Q (.bl (bs.any id)) H) : rAny K [.ref a] H Q := ⟨a, bs, rfl, SqL.of h, q⟩
theorem i_sum {a : Addr} {ns : List Int} (h : H a = some (.lst (ns.map V.int))) (q : Q (.int ns.sum) H) : rSum K [.ref a] H Q := ⟨a, ns, rfl, SqL.of h, q⟩
theorem i_lenL {p : Addr} {xs : List V} (h : H p = some (.lst xs)) (q : Q (.int xs.length) H) : rLenK K [.ref p] H Q := ⟨p, xs, rfl, .inl (SqL.of h), q⟩
theorem i_lenT {p : Addr} {xs : List V} (h : H p = some (.tup xs)) (q : Q (.int xs.length) H) : rLenK K [.ref p] H Q := ⟨p, xs, rfl, .inr (SqT.of h), q⟩
theorem i_listL {p : Addr} {xs : List V} (h : H p = some (.lst xs)) (q : ∀ l, H l = none → Q (.ref l) (upd H l (.lst xs))) : rListK K [.ref p] H Q := ⟨p, xs, rfl, .inl (SqL.of h), q⟩
theorem i_listT {p : Addr} {xs : List V} (h : H p = some (.tup xs)) (q : ∀ l, H l = none → Q (.ref l) (upd H l (.lst xs))) : rListK K [.ref p] H Q := ⟨p, xs, rfl, .inr (SqT.of h), q⟩
theorem i_tupleL {p : Addr} {xs : List V} (h : H p = some (.lst xs)) (q : ∀ l, H l = none → Q (.ref l) (upd H l (.tup xs))) : rTupleK K [.ref p] H Q := ⟨p, xs, rfl, .inl ⟨SqL.of h, q⟩⟩
theorem i_tupleT {p : Addr} {xs : List V} (h : H p = some (.tup xs)) (q : Q (.ref p) H) : rTupleK K [.ref p] H Q := ⟨p, xs, rfl, .inr ⟨SqT.of h, q⟩⟩
theorem i_catT {a b : Addr} {xs ys : List V} (h : H a = some (.tup xs)) (h' : H b = some (.tup ys)) (nx : xs ≠ []) (ny : ys ≠ []) (hl : xs.length + ys.length ≤ sizeLine) (q : ∀ p, H p = none → Q (.ref p) (upd H p (.tup (xs ++ ys)))) : rCatT K (.ref a) (.ref b) H Q :=
  ⟨a, b, xs, ys, rfl, rfl, SqT.of h, SqT.of h', nx, hl, fun e => absurd e ny, fun _ => q⟩
theorem i_slT {a : Addr} {xs : List V} {lo hi : Option Int} (h : H a = some (.tup xs)) (hw : ¬ (HT.sIx xs.length 0 lo = 0 ∧ HT.sIx xs.length xs.length hi = xs.length)) (q : ∀ p, H p = none → Q (.ref p) (upd H p (.tup (cutV xs lo hi)))) : rSlT K (.ref a) lo hi H Q := ⟨a, xs, rfl, SqT.of h, hw, q⟩
theorem i_bm {Ty : String} {r : V → List V → Hp → VK → Prop} {to : TE} {t : TA} (q : to σ H fun x H1 => tyV K Ty x H1 ∧ t σ H1 fun xs H2 => r x xs H2 Q) : tBM K Ty r to t σ H Q := q
theorem i_bm0 {Ty : String} {r : V → List V → Hp → VK → Prop} {to : TE} (q : to σ H fun x H1 => tyV K Ty x H1 ∧ r x [] H1 Q) : tBM0 K Ty r to σ H Q := q
theorem i_tyL {p : Addr} {xs : List V} {R : Prop} (h : H p = some (.lst xs)) (q : R) : tyV K "list" (.ref p) H ∧ R := ⟨.inl ⟨rfl, _, SqL.of h⟩, q⟩
theorem i_app {p : Addr} {xs : List V} {y : V} (h : H p = some (.lst xs)) (hl : xs.length ≤ 1000) (q : Q .non (upd H p (.lst (xs ++ [y])))) : rAppend (.ref p) [y] H Q := ⟨p, xs, y, rfl, rfl, h, small1000 hl, q⟩
theorem i_popAt {p : Addr} {xs : List V} {i : Int} {k : Nat} {y : V} (h : H p = some (.lst xs)) (e : i = (k : Int)) (hk : xs[k]? = some y) (hz : xs.length ≤ 1000) (q : Q y (upd H p (.lst (xs.eraseIdx k)))) : rPopAt (.ref p) [.int i] H Q := by
  have hl := (List.getElem?_eq_some_iff.mp hk).1
  refine ⟨p, xs, i, k, y, rfl, rfl, h, by omega, by omega, ?_, hk, q⟩
  exact (ixN_seq (show ixN xs.length i = some k by
    unfold ixN
    rw [e, if_pos (by omega), if_pos (by omega), Int.toNat_natCast])).1
theorem i_isN {x : V} (q : Q (.bl (decide (x = .non))) H) : (.non : V) = .non ∧ Q (.bl (decide (x = .non))) H := ⟨rfl, q⟩
theorem i_abs {a : Int} (q : Q (.int (if a < 0 then -a else a)) H) : (fun (xs : List V) (H : Hp) (Q : VK) => ∃ i, xs = [.int i] ∧ Q (.int (if i < 0 then -i else i)) H) [.int a] H Q := ⟨a, rfl, q⟩
end
/-! ### loops -/
def LOOP (J : It) (g : TG) (tb : TS) (D : Ends) (σ : L2.St) (H : Hp) : Prop := ∃ W : Nat → Nat → L2.St → Hp → Prop, (∃ m, W 0 m σ H) ∧ ∀ i m σ H, W i m σ H →
  (J.stop i H ∧ D.nx σ H) ∨ (J.go i H ∧ ∃ N : L2.St → Hp → Prop, (∀ σ' H', N σ' H' → ∃ m', m' < m ∧ W (i + 1) m' σ' H') ∧ ∀ x H', J.yld i H x H' → g x σ H' fun σ2 H2 => tb { D with nx := N, ct := N, bk := D.nx } σ2 H2)
section
variable {σ : L2.St} {H : Hp} {K : PySem.W.Frag} {n bk ct : L2.St → Hp → Prop} {rt : VK} {tb : TS} {g : TG} {te : TE} {ta : TA}
theorem i_for1 (q : ta σ H fun vs H1 => ∃ j : Int, vs = [.int j] ∧ -(2 ^ 62) ≤ j ∧ j < 2 ^ 62 ∧ LOOP (Itr 0 j.toNat) g tb ⟨n, rt, bk, ct⟩ σ H1) : tFor (iRng1 ta) g tb ⟨n, rt, bk, ct⟩ σ H := q
theorem i_for2 (q : ta σ H fun vs H1 => ∃ i j : Int, vs = [.int i, .int j] ∧ (-(2 ^ 62) ≤ i ∧ i < 2 ^ 62 ∧ -(2 ^ 62) ≤ j ∧ j < 2 ^ 62) ∧ LOOP (Itr i (j - i).toNat) g tb ⟨n, rt, bk, ct⟩ σ H1) : tFor (iRng2 ta) g tb ⟨n, rt, bk, ct⟩ σ H := q
theorem i_for3 (q : ta σ H fun vs H1 => ∃ (i j c : Int) (m : Nat), vs = [.int i, .int j, .int c] ∧ RgC i j c m ∧ LOOP (Itc i c m) g tb ⟨n, rt, bk, ct⟩ σ H1) : tFor (iRng3 ta) g tb ⟨n, rt, bk, ct⟩ σ H := q
theorem l_rngC {lo c : Int} {m : Nat} (Pv : Nat → L2.St → Hp → Prop) (h0 : Pv 0 σ H) (hs : ∀ i σ H, i < m → Pv i σ H → g (.int (lo + (i : Nat) * c)) σ H fun σ2 H2 => tb ⟨Pv (i + 1), rt, n, Pv (i + 1)⟩ σ2 H2) (hd : ∀ σ H, Pv m σ H → n σ H) :
    LOOP (Itc lo c m) g tb ⟨n, rt, bk, ct⟩ σ H := for_rangeC Pv h0 hs hd
theorem i_forL (q : te σ H fun x H1 => ∃ a, x = .ref a ∧ (∃ xs, SqL K H1 a xs) ∧ LOOP (Itl K a) g tb ⟨n, rt, bk, ct⟩ σ H1) : tFor (iList K te) g tb ⟨n, rt, bk, ct⟩ σ H := q
theorem i_forT (q : te σ H fun x H1 => ∃ a, x = .ref a ∧ (∃ xs, SqT K H1 a xs) ∧ LOOP (Itt K a) g tb ⟨n, rt, bk, ct⟩ σ H1) : tFor (iTup K te) g tb ⟨n, rt, bk, ct⟩ σ H := q
theorem l_rng {lo : Int} {m : Nat} (Pv : Nat → L2.St → Hp → Prop) (h0 : Pv 0 σ H) (hs : ∀ i σ H, i < m → Pv i σ H → g (.int (lo + i)) σ H fun σ2 H2 => tb ⟨Pv (i + 1), rt, n, Pv (i + 1)⟩ σ2 H2) (hd : ∀ σ H, Pv m σ H → n σ H) :
    LOOP (Itr lo m) g tb ⟨n, rt, bk, ct⟩ σ H := for_range Pv h0 hs hd
theorem l_lst {a : Addr} {xs : List V} (Pv : Nat → L2.St → Hp → Prop) (h0 : Pv 0 σ H) (hl : ∀ i σ H, i ≤ xs.length → Pv i σ H → SqL K H a xs)
    (hs : ∀ i x σ H, xs[i]? = some x → Pv i σ H → g x σ H fun σ2 H2 => tb ⟨Pv (i + 1), rt, n, Pv (i + 1)⟩ σ2 H2) (hd : ∀ σ H, Pv xs.length σ H → n σ H) : LOOP (Itl K a) g tb ⟨n, rt, bk, ct⟩ σ H := for_list Pv h0 hl hs hd
theorem l_tup {a : Addr} {xs : List V} (Pv : Nat → L2.St → Hp → Prop) (h0 : Pv 0 σ H) (hl : ∀ i σ H, i ≤ xs.length → Pv i σ H → SqT K H a xs)
    (hs : ∀ i x σ H, xs[i]? = some x → Pv i σ H → g x σ H fun σ2 H2 => tb ⟨Pv (i + 1), rt, n, Pv (i + 1)⟩ σ2 H2) (hd : ∀ σ H, Pv xs.length σ H → n σ H) : LOOP (Itt K a) g tb ⟨n, rt, bk, ct⟩ σ H := for_tup Pv h0 hl hs hd
theorem i_while {c : TT} (W : Nat → L2.St → Hp → Prop) (m : Nat) (w0 : W m σ H) (hs : ∀ m σ H, W m σ H → c σ H fun b H1 => if b = true then ∃ N : L2.St → Hp → Prop, (∀ σ' H', N σ' H' → ∃ m', m' < m ∧ W m' σ' H') ∧ tb ⟨N, rt, n, N⟩ σ H1 else n σ H1) :
    tWhile c tb ⟨n, rt, bk, ct⟩ σ H := ⟨W, ⟨m, w0⟩, hs⟩
theorem i_par {i j : Nat} (q : ta σ H fun vs H1 => ∃ v w, vs = [v, w] ∧ n ((σ.set i (some v)).set j (some w)) H1) : tPar i j ta ⟨n, rt, bk, ct⟩ σ H := q
theorem i_parE {x y : V} {R : V → V → Prop} (q : R x y) : ∃ v w, [x, y] = [v, w] ∧ R v w := ⟨x, y, rfl, q⟩
theorem i_aug {i : Nat} {ti : TIp} {x : V} (h : σ[i]? = some (some x)) (q : te σ H fun y H1 => ti x y H1 fun z H2 => n (σ.set i (some z)) H2) : tAug i te ti ⟨n, rt, bk, ct⟩ σ H := ⟨_, h, q⟩
theorem i_ipI {f : Int → Int → Int} {a b : Int} {Q : VK} (q : Q (.int (f a b)) H) : ipI f (.int a) (.int b) H Q := ⟨a, b, rfl, rfl, q⟩
theorem ip_mul {X : Cx} : PIp X .Mult (rI CMul fun i j => .int (i * j)) := fun pins s σ H x y v u Q I rx ry h => iop_mul pins s σ H x y v u Q I rx ry h
theorem i_asg2 {g1 g2 : TG} (q : te σ H fun x H1 => g1 x σ H1 fun σ1 H2 => g2 x σ1 H2 n) : tAsg2 te g1 g2 ⟨n, rt, bk, ct⟩ σ H := q
theorem i_gtup {a : Addr} {xs : List V} {k : Nat} {tg : TGs} {R : L2.St → Hp → Prop} (h : H a = some (.tup xs)) (hl : xs.length = k) (q : tg xs σ H R) : gTup K k tg (.ref a) σ H R := ⟨a, xs, rfl, SqT.of h, hl, q⟩
theorem i_gcons {v : V} {r : List V} {tg : TGs} {R : L2.St → Hp → Prop} (q : g v σ H fun σ' H' => tg r σ' H' R) : gCons g tg (v :: r) σ H R := ⟨v, r, rfl, q⟩
theorem i_gnil {R : L2.St → Hp → Prop} (q : R σ H) : gNil [] σ H R := ⟨rfl, q⟩
theorem i_gname {i : Nat} {x : V} {R : L2.St → Hp → Prop} (q : R (σ.set i (some x)) H) : gName i x σ H R := q
end
/-! ### a word between a statement and what follows -/
def tCut (t u : TS) : TS := fun D σ H => ∃ Mid : L2.St → Hp → Prop, t { D with nx := Mid } σ H ∧ ∀ σ' H', Mid σ' H' → u D σ' H'
theorem pss_cut {X : Cx} {st : Stmt} {rest : List Stmt} {t u : TS} (h1 : PS X st t) (h2 : PSs X rest u) : PSs X (st :: rest) (tCut t u) := by
  refine ⟨fun pins s σ H D I h => ?_⟩
  obtain ⟨M, hm, hu⟩ := h
  refine wpAny_execs_cons (thn (h1.run pins s σ H { D with nx := M } I hm) fun f s1 z => ?_)
  cases f with
  | next =>
    obtain ⟨a, b, c, z⟩ := z
    exact h2.run pins s1 a b D c (hu a b z)
  | ret v => exact z
  | brk => exact z
  | cont => exact z
theorem i_cut {σ : L2.St} {H : Hp} {n bk ct : L2.St → Hp → Prop} {rt : VK} {t u : TS} (Mid : L2.St → Hp → Prop) (h : t ⟨Mid, rt, bk, ct⟩ σ H) (k : ∀ σ' H', Mid σ' H' → u ⟨n, rt, bk, ct⟩ σ' H') : tCut t u ⟨n, rt, bk, ct⟩ σ H := ⟨Mid, h, k⟩
/-- the same for a value and for a test -/
def tCutE (t : TE) : TE := fun σ H Q => ∃ Mid : VK, t σ H Mid ∧ ∀ v H', Mid v H' → Q v H'
theorem pe_cut {X : Cx} {e : Expr} {t : TE} (h : PE X e t) : PE X e (tCutE t) := by
  refine ⟨fun pins s σ H Q I q => ?_⟩
  obtain ⟨M, hm, hu⟩ := q
  exact thn (h.run pins s σ H M I hm) fun v s1 ⟨x, H1, I1, r1, z⟩ => ⟨x, H1, I1, r1, hu _ _ z⟩
theorem i_cutE {σ : L2.St} {H : Hp} {Q : VK} {t : TE} (Mid : VK) (h : t σ H Mid) (k : ∀ v H', Mid v H' → Q v H') : tCutE t σ H Q := ⟨Mid, h, k⟩
def tCutT (t : TT) : TT := fun σ H Q => ∃ Mid : Bool → Hp → Prop, t σ H Mid ∧ ∀ v H', Mid v H' → Q v H'
theorem pt_cut {X : Cx} {e : Expr} {t : TT} (h : PT X e t) : PT X e (tCutT t) := by
  refine ⟨fun pins s σ H Q I q => ?_⟩
  obtain ⟨M, hm, hu⟩ := q
  exact thn (h.run pins s σ H M I hm) fun v s1 ⟨H1, I1, z⟩ => ⟨H1, I1, hu _ _ z⟩
theorem i_cutT {σ : L2.St} {H : Hp} {Q : Bool → Hp → Prop} {t : TT} (Mid : Bool → Hp → Prop) (h : t σ H Mid) (k : ∀ v H', Mid v H' → Q v H') : tCutT t σ H Q := ⟨Mid, h, k⟩
/-! ### comprehensions -/
def COMP (J : It) (g : TG) (tt : TT) (te : TE) (vs : List Nat) (σ : L2.St) (H1 : Hp) (D : Addr) (Q : VK) : Prop := ∃ W : Nat → Nat → Hp → Prop, (∃ m, W 0 m (upd H1 D (.lst []))) ∧ ∀ i m H, W i m H →
  (J.stop i H ∧ Q (.ref D) H) ∨ (J.go i H ∧ ∃ Nx : Hp → Prop, (∀ H', Nx H' → ∃ m', m' < m ∧ W (i + 1) m' H') ∧ ∀ x H', J.yld i H x H' → g x (wipe σ vs) H' fun σ2 H2 => wipe σ2 vs = wipe σ vs ∧ tt σ2 H2 fun b H3 =>
    if b = true then te σ2 H3 fun y H4 => ∃ acc, H4 D = some (.lst acc) ∧ acc.length < sizeLine ∧ Nx (upd H4 D (.lst (acc ++ [y]))) else Nx H3)
section
variable {σ : L2.St} {H : Hp} {K : PySem.W.Frag} {Q : VK} {g : TG} {tt : TT} {te tl : TE} {ta : TA} {vs : List Nat}
theorem i_lc1 (q : ta σ H fun us H1 => ∃ j : Int, us = [.int j] ∧ -(2 ^ 62) ≤ j ∧ j < 2 ^ 62 ∧ ∀ D, H1 D = none → COMP (Itr 0 j.toNat) g tt te vs σ H1 D Q) : tLc (iRng1 ta) g tt te vs σ H Q := q
theorem i_lc2 (q : ta σ H fun us H1 => ∃ i j : Int, us = [.int i, .int j] ∧ (-(2 ^ 62) ≤ i ∧ i < 2 ^ 62 ∧ -(2 ^ 62) ≤ j ∧ j < 2 ^ 62) ∧ ∀ D, H1 D = none → COMP (Itr i (j - i).toNat) g tt te vs σ H1 D Q) : tLc (iRng2 ta) g tt te vs σ H Q := q
theorem i_lcL (q : tl σ H fun x H1 => ∃ a, x = .ref a ∧ (∃ xs, SqL K H1 a xs) ∧ ∀ D, H1 D = none → COMP (Itl K a) g tt te vs σ H1 D Q) : tLc (iList K tl) g tt te vs σ H Q := q
theorem i_lcT (q : tl σ H fun x H1 => ∃ a, x = .ref a ∧ (∃ xs, SqT K H1 a xs) ∧ ∀ D, H1 D = none → COMP (Itt K a) g tt te vs σ H1 D Q) : tLc (iTup K tl) g tt te vs σ H Q := q
theorem c_rng {lo : Int} {n : Nat} {D : Addr} (Pv : Nat → Hp → Prop) (h0 : Pv 0 (upd H D (.lst [])))
    (hs : ∀ i H, i < n → Pv i H → g (.int (lo + i)) (wipe σ vs) H fun σ2 H2 => wipe σ2 vs = wipe σ vs ∧ tt σ2 H2 fun b H3 =>
      if b = true then te σ2 H3 fun y H4 => ∃ acc, H4 D = some (.lst acc) ∧ acc.length < sizeLine ∧ Pv (i + 1) (upd H4 D (.lst (acc ++ [y]))) else Pv (i + 1) H3) (hd : ∀ H, Pv n H → Q (.ref D) H) :
    COMP (Itr lo n) g tt te vs σ H D Q := lc_range Pv h0 hs hd
theorem c_lst {a D : Addr} {xs : List V} (Pv : Nat → Hp → Prop) (h0 : Pv 0 (upd H D (.lst []))) (hl : ∀ i H, i ≤ xs.length → Pv i H → SqL K H a xs)
    (hs : ∀ i x H, xs[i]? = some x → Pv i H → g x (wipe σ vs) H fun σ2 H2 => wipe σ2 vs = wipe σ vs ∧ tt σ2 H2 fun b H3 =>
      if b = true then te σ2 H3 fun y H4 => ∃ acc, H4 D = some (.lst acc) ∧ acc.length < sizeLine ∧ Pv (i + 1) (upd H4 D (.lst (acc ++ [y]))) else Pv (i + 1) H3) (hd : ∀ H, Pv xs.length H → Q (.ref D) H) :
    COMP (Itl K a) g tt te vs σ H D Q := lc_list Pv h0 hl hs hd
theorem c_tup {a D : Addr} {xs : List V} (Pv : Nat → Hp → Prop) (h0 : Pv 0 (upd H D (.lst []))) (hl : ∀ i H, i ≤ xs.length → Pv i H → SqT K H a xs)
    (hs : ∀ i x H, xs[i]? = some x → Pv i H → g x (wipe σ vs) H fun σ2 H2 => wipe σ2 vs = wipe σ vs ∧ tt σ2 H2 fun b H3 =>
      if b = true then te σ2 H3 fun y H4 => ∃ acc, H4 D = some (.lst acc) ∧ acc.length < sizeLine ∧ Pv (i + 1) (upd H4 D (.lst (acc ++ [y]))) else Pv (i + 1) H3) (hd : ∀ H, Pv xs.length H → Q (.ref D) H) :
    COMP (Itt K a) g tt te vs σ H D Q := lc_tup Pv h0 hl hs hd
theorem i_yes {R : Bool → Hp → Prop} (q : R true H) : tYes σ H R := q
end
def spCommon : Sp := fun vs H Q _ => ∃ p q : Int, vs = [.int p, .int q] ∧ 0 ≤ p ∧ 0 ≤ q ∧ Q (.int (Int.gcd p q)) H
/-! ### lists of tuples -/
def LT (U : Hp) (p : Addr) (rows : List (List V)) : Prop := ∃ as : List Addr, U p = some (.lst (as.map V.ref)) ∧ Paired (fun a r => U a = some (.tup r)) as rows
theorem Paired.imp {α β : Type} {F G : α → β → Prop} (h : ∀ a b, F a b → G a b) : ∀ {xs : List α} {ys : List β}, Paired F xs ys → Paired G xs ys
  | _, _, .nil => .nil
  | _, _, .cons a t => .cons (h _ _ a) (Paired.imp h t)
theorem Paired.at {α β : Type} {F : α → β → Prop} : ∀ {xs : List α} {ys : List β}, Paired F xs ys → ∀ (i : Nat) (y : β), ys[i]? = some y → ∃ x, xs[i]? = some x ∧ F x y
  | _, _, .nil, i, y, e => by simp at e
  | _, _, .cons a t, 0, y, e => by
    have e' := Option.some.inj e
    subst e'
    exact ⟨_, rfl, a⟩
  | _, _, .cons a t, i + 1, y, e => Paired.at t i y e
theorem Paired.at' {α β : Type} {F : α → β → Prop} : ∀ {xs : List α} {ys : List β}, Paired F xs ys → ∀ (i : Nat) (x : α), xs[i]? = some x → ∃ y, ys[i]? = some y ∧ F x y
  | _, _, .nil, i, y, e => by simp at e
  | _, _, .cons a t, 0, y, e => by
    have e' := Option.some.inj e
    subst e'
    exact ⟨_, rfl, a⟩
  | _, _, .cons a t, i + 1, y, e => Paired.at' t i y e
theorem Paired.len {α β : Type} {F : α → β → Prop} : ∀ {xs : List α} {ys : List β}, Paired F xs ys → xs.length = ys.length
  | _, _, .nil => rfl
  | _, _, .cons _ t => congrArg (· + 1) (Paired.len t)
theorem Paired.tk {α β : Type} {F : α → β → Prop} : ∀ {xs : List α} {ys : List β} (k : Nat), Paired F xs ys → Paired F (xs.take k) (ys.take k)
  | _, _, 0, _ => .nil
  | _, _, _ + 1, .nil => .nil
  | _, _, k + 1, .cons a t => .cons a (Paired.tk k t)
theorem Paired.dp {α β : Type} {F : α → β → Prop} : ∀ {xs : List α} {ys : List β} (k : Nat), Paired F xs ys → Paired F (xs.drop k) (ys.drop k)
  | _, _, 0, h => h
  | _, _, _ + 1, .nil => .nil
  | _, _, k + 1, .cons _ t => Paired.dp k t
theorem Paired.mp {α β γ : Type} {F : α → γ → Prop} {f : β → γ} : ∀ {xs : List α} {ys : List β}, Paired (fun a b => F a (f b)) xs ys → Paired F xs (ys.map f)
  | _, _, .nil => .nil
  | _, _, .cons a t => .cons a (Paired.mp t)
theorem LT.mono {U U' : Hp} {p : Addr} {rows : List (List V)} (e : Same U U') (h : LT U p rows) : LT U' p rows := by
  obtain ⟨as, h1, h2⟩ := h
  exact ⟨as, e _ _ h1, Paired.imp (fun a r x => e _ _ x) h2⟩
section
variable {σ : L2.St} {H U : Hp} {K : PySem.W.Frag} {n bk ct : L2.St → Hp → Prop} {rt : VK} {tb : TS} {g : TG} {te : TE} {ta : TA} {p : Addr} {rows : List (List V)}
theorem LT.len (h : LT U p rows) : ∃ xs : List V, U p = some (.lst xs) ∧ xs.length = rows.length := by
  obtain ⟨as, h1, h2⟩ := h
  exact ⟨_, h1, by rw [List.length_map, Paired.len h2]⟩
theorem LT.get (h : LT U p rows) : ∃ xs : List V, U p = some (.lst xs) ∧ xs.length = rows.length ∧ ∀ (i : Nat) (r : List V), rows[i]? = some r → ∃ a : Addr, xs[i]? = some (V.ref a) ∧ U a = some (.tup r) := by
  obtain ⟨as, h1, h2⟩ := h
  refine ⟨_, h1, by rw [List.length_map, Paired.len h2], fun i r e => ?_⟩
  obtain ⟨a, e1, e2⟩ := Paired.at h2 i r e
  exact ⟨a, by rw [List.getElem?_map, e1]; rfl, e2⟩
theorem l_LT (h : LT U p rows) (Pv : Nat → L2.St → Hp → Prop) (h0 : Pv 0 σ H) (hv : ∀ i σ H, Pv i σ H → Same U H)
    (hs : ∀ i r a σ H, rows[i]? = some r → H a = some (.tup r) → Pv i σ H → g (.ref a) σ H fun σ2 H2 => tb ⟨Pv (i + 1), rt, n, Pv (i + 1)⟩ σ2 H2) (hd : ∀ σ H, Pv rows.length σ H → n σ H) : LOOP (Itl K p) g tb ⟨n, rt, bk, ct⟩ σ H := by
  obtain ⟨as, h1, h2⟩ := h
  refine l_lst (xs := as.map V.ref) Pv h0 (fun i σ H _ q => SqL.of (hv i σ H q _ _ h1)) (fun i x σ H e q => ?_) (fun σ H q => hd σ H ?_)
  · rw [List.getElem?_map] at e
    cases ea : as[i]? with
    | none =>
      rw [ea] at e
      cases e
    | some a =>
      rw [ea] at e
      have e' := Option.some.inj e
      subst e'
      obtain ⟨r, er, hr⟩ := Paired.at' h2 i a ea
      exact hs i r a σ H er (hv i σ H q _ _ hr) q
  · rw [List.length_map, Paired.len h2] at q
    exact q
end
theorem cut_to (xs : List V) (k : Nat) : cutV xs none (some (k : Int)) = xs.take k := by
  unfold cutV
  rw [HT.sIx_nat, HT.sIx_none, List.drop_zero, Nat.sub_zero]
  by_cases h : k ≤ xs.length
  · rw [Nat.min_eq_left h]
  · rw [Nat.min_eq_right (by omega), List.take_length, List.take_of_length_le (by omega)]
theorem cut_from (xs : List V) (k : Nat) : cutV xs (some (k : Int)) none = xs.drop k := by
  unfold cutV
  rw [HT.sIx_nat, HT.sIx_none]
  by_cases h : k ≤ xs.length
  · rw [Nat.min_eq_left h, List.take_of_length_le]
    rw [List.length_drop]
    exact Nat.le_refl _
  · rw [Nat.min_eq_right (by omega), List.drop_length, List.drop_of_length_le (by omega), List.take_nil]
def dV : V → PyData
  | .int i => .int i
  | .bl b => .bool b
  | .str x => .str x
  | _ => .none
theorem dV_dp {K : PySem.W.Frag} {H : Hp} {v : V} (h : (match v with | .int _ => true | .bl _ => true | .str _ => true | .non => true | _ => false) = true) : Dp K H v (dV v) := by
  cases v with
  | int i => exact .int i
  | bl b => exact .bl b
  | str x => exact .str x
  | non => exact .non
  | byt _ => cases h
  | flt _ => cases h
  | ref _ => cases h
  | ty _ => cases h
theorem LT.dp {K : PySem.W.Frag} {U H : Hp} {p : Addr} {rows : List (List V)} (e : Same U H) (h : LT U p rows) (f : ∀ r ∈ rows, ∀ v ∈ r, Dp K H v (dV v)) : Dp K H (.ref p) (.list (rows.map fun r => .tuple (r.map dV))) := by
  obtain ⟨as, h1, h2⟩ := h
  refine .lst (SqL.of (e _ _ h1)) ?_
  clear h1
  induction h2 with
  | nil => exact .nil
  | @cons a r as rows h t ih =>
    refine .cons (.tup (SqT.of (e _ _ h)) ?_) (ih fun x hx => f x (List.mem_cons_of_mem _ hx))
    have fr := f r List.mem_cons_self
    clear h ih t f
    induction r with
    | nil => exact .nil
    | cons v r ih => exact .cons (fr v List.mem_cons_self) (ih fun x hx => fr x (List.mem_cons_of_mem _ hx))
def Lay (n : Nat) (d : PyData) : Prop := d.canLay0 = true ∧ d.depth ≤ n
theorem lay_all {n : Nat} : ∀ {xs : List PyData}, (∀ x ∈ xs, Lay n x) → PyData.canLayAll0 xs = true ∧ PyData.depthAll xs ≤ n
  | [], _ => ⟨rfl, Nat.zero_le _⟩
  | x :: r, h => by
    have h1 := h x List.mem_cons_self
    have h2 := lay_all (xs := r) fun y hy => h y (List.mem_cons_of_mem _ hy)
    constructor
    · show (x.canLay0 && PyData.canLayAll0 r) = true
      rw [h1.1, h2.1]
      rfl
    · show max x.depth (PyData.depthAll r) ≤ n
      exact Nat.max_le.mpr ⟨h1.2, h2.2⟩
theorem lay_int {n : Nat} {i : Int} : Lay n (.int i) := ⟨rfl, Nat.zero_le _⟩
theorem lay_none {n : Nat} : Lay n .none := ⟨rfl, Nat.zero_le _⟩
theorem lay_bool {n : Nat} {b : Bool} : Lay n (.bool b) := ⟨rfl, Nat.zero_le _⟩
theorem lay_list {n : Nat} {xs : List PyData} (h : ∀ x ∈ xs, Lay n x) : Lay (n + 1) (.list xs) := ⟨(lay_all h).1, Nat.succ_le_succ (lay_all h).2⟩
theorem lay_tuple {n : Nat} {xs : List PyData} (h : ∀ x ∈ xs, Lay n x) : Lay (n + 1) (.tuple xs) := ⟨(lay_all h).1, Nat.succ_le_succ (lay_all h).2⟩
theorem Lay.shaped {n : Nat} {d : PyData} (h : Lay n d) (hn : n ≤ 64) : SeqAt.shaped d = true := by
  unfold SeqAt.shaped
  rw [h.1, decide_eq_true (Nat.le_trans h.2 hn)]
  rfl
theorem i_eqD {K : PySem.W.Frag} {H : Hp} {Q : VK} {x y : V} {d e : PyData} (h1 : Dp K H x d) (h2 : Dp K H y e) (l1 : Lay 8 d) (l2 : Lay 8 e) (q : Q (.bl (PyData.eqv d e)) H) : rEqD K x y H Q := ⟨d, e, h1, h2, l1.shaped (by decide), l2.shaped (by decide), q⟩
theorem i_neD {K : PySem.W.Frag} {H : Hp} {Q : VK} {x y : V} {d e : PyData} (h1 : Dp K H x d) (h2 : Dp K H y e) (l1 : Lay 8 d) (l2 : Lay 8 e) (q : Q (.bl (!PyData.eqv d e)) H) : rNeD K x y H Q := ⟨d, e, h1, h2, l1.shaped (by decide), l2.shaped (by decide), q⟩
theorem Lay.up {n m : Nat} {d : PyData} (h : Lay n d) (e : n ≤ m) : Lay m d := ⟨h.1, Nat.le_trans h.2 e⟩
theorem i_eqT {K : PySem.W.Frag} {H : Hp} {Q : VK} {x y : V} {d : PyData} (h1 : Dp K H x d) (h2 : Dp K H y d) (l1 : Lay 8 d) (q : Q (.bl true) H) : rEqD K x y H Q := i_eqD h1 h2 l1 l1 (by rw [SeqAt.eqv_refl _ l1.1]; exact q)
theorem i_neT {K : PySem.W.Frag} {H : Hp} {Q : VK} {x y : V} {d : PyData} (h1 : Dp K H x d) (h2 : Dp K H y d) (l1 : Lay 8 d) (q : Q (.bl false) H) : rNeD K x y H Q := i_neD h1 h2 l1 l1 (by rw [SeqAt.eqv_refl _ l1.1]; exact q)
/-- a list of ints as data -/
theorem dp_ints {K : PySem.W.Frag} {H : Hp} {p : Addr} {ns : List Int} (h : H p = some (.lst (ns.map V.int))) : Dp K H (.ref p) (.list (ns.map .int)) := by
  refine .lst (SqL.of h) ?_
  clear h
  induction ns with
  | nil => exact .nil
  | cons x r ih => exact .cons (.int x) ih
theorem dp_intsT {K : PySem.W.Frag} {H : Hp} {p : Addr} {ns : List Int} (h : SqT K H p (ns.map V.int)) : Dp K H (.ref p) (.tuple (ns.map .int)) := by
  refine .tup h ?_
  clear h
  induction ns with
  | nil => exact .nil
  | cons x r ih => exact .cons (.int x) ih
theorem dp_bls {K : PySem.W.Frag} {H : Hp} {p : Addr} {ns : List Bool} (h : H p = some (.lst (ns.map V.bl))) : Dp K H (.ref p) (.list (ns.map .bool)) := by
  refine .lst (SqL.of h) ?_
  clear h
  induction ns with
  | nil => exact .nil
  | cons x r ih => exact .cons (.bl x) ih
theorem lay_bls (ns : List Bool) : Lay 8 (.list (ns.map .bool)) := by
  refine (lay_list (n := 0) fun x hx => ?_).up (by decide)
  obtain ⟨i, _, rfl⟩ := List.mem_map.mp hx
  exact lay_bool
theorem lay_intsT (ns : List Int) : Lay 8 (.tuple (ns.map .int)) := by
  refine (lay_tuple (n := 0) fun x hx => ?_).up (by decide)
  obtain ⟨i, _, rfl⟩ := List.mem_map.mp hx
  exact lay_int
theorem lay_ints (ns : List Int) : Lay 8 (.list (ns.map .int)) := by
  refine (lay_list (n := 0) fun x hx => ?_).up (by decide)
  obtain ⟨i, _, rfl⟩ := List.mem_map.mp hx
  exact lay_int
/-! ### built-ins' names -/
theorem bt_len : bootBuiltins "len" = some (.builtin "len") := by decide +kernel
theorem bt_abs : bootBuiltins "abs" = some (.builtin "abs") := by decide +kernel
theorem bt_max : bootBuiltins "max" = some (.builtin "max") := by decide +kernel
theorem bt_min : bootBuiltins "min" = some (.builtin "min") := by decide +kernel
theorem bt_sum : bootBuiltins "sum" = some (.builtin "sum") := by decide +kernel
theorem bt_all : bootBuiltins "all" = some (.builtin "all") := by decide +kernel
theorem bt_any : bootBuiltins "any" = some (.builtin "any") := by decide +kernel
theorem bt_sorted : bootBuiltins "sorted" = some (.builtin "sorted") := by decide +kernel
theorem bt_isinstance : bootBuiltins "isinstance" = some (.builtin "isinstance") := by decide +kernel
theorem bt_list : bootBuiltins "list" = some (.type "list") := by decide +kernel
theorem bt_tuple : bootBuiltins "tuple" = some (.type "tuple") := by decide +kernel
theorem bt_str : bootBuiltins "str" = some (.type "str") := by decide +kernel
theorem bt_int : bootBuiltins "int" = some (.type "int") := by decide +kernel
theorem bt_bool : bootBuiltins "bool" = some (.type "bool") := by decide +kernel
theorem bt_ValueError : bootBuiltins "ValueError" = some (.type "ValueError") := by decide +kernel
section
variable {K : PySem.W.Frag} {H : Hp} {Q : VK}
theorem i_isI {i : Int} (q : Q (.bl true) H) : rIsi K [.int i, .ty "int"] H Q := ⟨.int i, .ty "int", .type "int", .type "int", true, rfl, .ty _, .base (.int _), kit_ty (by decide +kernel), q⟩
theorem i_isB {i : Int} (q : Q (.bl false) H) : rIsi K [.int i, .ty "bool"] H Q := ⟨.int i, .ty "bool", .type "int", .type "bool", false, rfl, .ty _, .base (.int _), kit_ty (by decide +kernel), q⟩
theorem i_isBB {b : Bool} (q : Q (.bl true) H) : rIsi K [.bl b, .ty "bool"] H Q := ⟨.bl b, .ty "bool", .type "bool", .type "bool", true, rfl, .ty _, .base (.bl _), kit_ty (by decide +kernel), q⟩
theorem i_isL {p : Addr} {xs : List V} (h : H p = some (.lst xs)) (q : Q (.bl true) H) : rIsi K [.ref p, .ty "list"] H Q := ⟨.ref p, .ty "list", .type "list", .type "list", true, rfl, .ty _, .base (.lst h), kit_ty (by decide +kernel), q⟩
theorem i_isT {p : Addr} {xs : List V} (h : H p = some (.tup xs)) (q : Q (.bl true) H) : rIsi K [.ref p, .ty "tuple"] H Q := ⟨.ref p, .ty "tuple", .type "tuple", .type "tuple", true, rfl, .ty _, .base (.tup h), kit_ty (by decide +kernel), q⟩
end
/-! ### the law's own draws -/
structure Dr (U H : Hp) (s : Addr) : Prop where
  ex : ∃ (l : Addr) (ns : List Int) (i b e : Int), H s = some (.lst [.ref l, .int i, .int b, .int e]) ∧ U l = some (.lst (ns.map V.int)) ∧ 0 ≤ i ∧ i ≤ ns.length ∧ 0 ≤ b
  out : U s = none
def spStart (K : PySem.W.Frag) : Sp := fun vs H Q _ => ∃ (a : Addr) (ns : List Int) (U : Hp), vs = [.ref a] ∧ SqL K H a (ns.map V.int) ∧ Same U H ∧
  ∀ s U' H', Gr [] U H U' H' → Dr U' H' s → H s = none → Q (.ref s) H'
def spDraw : Sp := fun vs H Q _ => ∃ (s : Addr) (many : Int) (U : Hp), vs = [.ref s, .int many] ∧ 0 < many ∧ many < 2 ^ 200 ∧ Same U H ∧ Dr U H s ∧
  ∀ r H', 0 ≤ r → r < many → Same U H' → Dr U H' s → (∀ a, a ≠ s → H' a = H a) → Q (.int r) H'
/-- the answer of isinstance(x, int) and not isinstance(x, bool) -/
def spWhole : Sp := fun vs H Q _ => ∃ v, vs = [v] ∧ ((∃ i, v = .int i) ∧ Q (.bl true) H)
theorem cut63 (ns : List Int) : ∃ ms : List Int, cutV (ns.map V.int) none (some 63) = ms.map V.int := by
  unfold cutV
  exact ⟨(ns.drop _).take _, by rw [List.map_take, List.map_drop]⟩
theorem Dr.mono {U U' H H' : Hp} {s : Addr} (d : Dr U H s) (e : Same U U') (h : H' s = H s) (n : U' s = none) : Dr U' H' s := by
  obtain ⟨⟨l, ns, i, b, e', h1, h2, h3⟩, _⟩ := d
  exact ⟨⟨l, ns, i, b, e', by rw [h]; exact h1, e _ _ h2, h3⟩, n⟩
theorem Dr.some {U H : Hp} {s : Addr} (d : Dr U H s) : H s ≠ none := by
  obtain ⟨⟨l, ns, i, b, e', h1, _⟩, _⟩ := d
  rw [h1]
  intro z
  cases z
/-- a new thing that never changes; a new one that will -/
theorem Dr.new {U H : Hp} {s p : Addr} {o : HO} (d : Dr U H s) (n : H p = none) (e : Same U H) : Dr (upd U p o) (upd H p o) s := by
  have ne : s ≠ p := fun z => by
    subst z
    exact d.some n
  exact d.mono (same_new (e.free n)) (upd_ne ne) (by rw [upd_ne ne]; exact d.out)
theorem Dr.newM {U H : Hp} {s p : Addr} {o : HO} (d : Dr U H s) (n : H p = none) : Dr U (upd H p o) s := by
  have ne : s ≠ p := fun z => by
    subst z
    exact d.some n
  exact d.mono (Same.refl _) (upd_ne ne) d.out
theorem Dr.mut {U H : Hp} {s p : Addr} {o : HO} (d : Dr U H s) (ne : s ≠ p) : Dr U (upd H p o) s := d.mono (Same.refl _) (upd_ne ne) d.out
theorem same_both {U H : Hp} {p : Addr} {o : HO} (e : Same U H) : Same (upd U p o) (upd H p o) := fun a x h => by
  by_cases z : a = p
  · subst z
    rw [upd_same] at h ⊢
    exact h
  · rw [upd_ne z] at h ⊢
    exact e a x h
theorem same_seal {U H : Hp} {p : Addr} {o : HO} (e : Same U H) (h : H p = some o) : Same (upd U p o) H := fun a x k => by
  by_cases z : a = p
  · subst z
    rw [upd_same] at k
    rw [h]
    exact k
  · rw [upd_ne z] at k
    exact e a x k
theorem Dr.seal {U H : Hp} {s p : Addr} {o : HO} (d : Dr U H s) (n : U p = none) (ne : s ≠ p) : Dr (upd U p o) H s := d.mono (same_new n) rfl (by rw [upd_ne ne]; exact d.out)
/-- behind a call that leaves all as it was -/
theorem Dr.gr {M : List Addr} {U U' H H' : Hp} {s : Addr} (d : Dr U H s) (g : Gr M U H U' H') (m : s ∉ M) : Dr U' H' s := by
  obtain ⟨⟨l, ns, i, b, e', h1, h2, h3⟩, n⟩ := d
  exact ⟨⟨l, ns, i, b, e', g.hh _ _ m h1, g.vv _ _ h2, h3⟩, g.fr s n (by rw [h1]; intro z; cases z)⟩
/-! ### comprehensions whose element changes nothing; whose element draws -/
section
variable {σ : L2.St} {H : Hp} {K : PySem.W.Frag} {Q : VK} {tt : TT} {te : TE} {vs : List Nat} {a D : Addr} {j : Nat}
theorem sq_off {H H' : Hp} {a D : Addr} {xs : List V} (h : SqL K H a xs) (n : H D = none) (e : ∀ b, b ≠ D → H' b = H b) : SqL K H' a xs := by
  rcases h with (h | ⟨o, h⟩) | h
  · exact .inl (.inl (by rw [e a (ne_of_none h n)]; exact h))
  · exact .inl (.inr ⟨o, by rw [e a (ne_of_none h n)]; exact h⟩)
  · exact .inr h
theorem st_off {H H' : Hp} {a D : Addr} {xs : List V} (h : SqT K H a xs) (n : H D = none) (e : ∀ b, b ≠ D → H' b = H b) : SqT K H' a xs := by
  rcases h with (h | ⟨o, h⟩) | h
  · exact .inl (.inl (by rw [e a (ne_of_none h n)]; exact h))
  · exact .inl (.inr ⟨o, by rw [e a (ne_of_none h n)]; exact h⟩)
  · exact .inr h
theorem upd_id {H H' : Hp} {D : Addr} {o : HO} (h : H' D = some o) (e : ∀ b, b ≠ D → H' b = H b) : H' = upd H D o := by
  funext b
  by_cases z : b = D
  · subst z
    rw [upd_same, h]
  · rw [upd_ne z, e b z]
theorem take_filter {xs : List V} {p : V → Bool} {f : V → V} {i : Nat} {x : V} (h : xs[i]? = some x) : ((xs.take (i + 1)).filter p).map f = ((xs.take i).filter p).map f ++ (if p x = true then [f x] else []) := by
  rw [List.take_add_one, h, List.filter_append, List.map_append]
  by_cases hp : p x = true
  · simp [hp]
  · simp [hp]
theorem c_pure {xs : List V} (p : V → Bool) (f : V → V) (hl : SqL K H a xs) (hD : H D = none) (hn : xs.length ≤ 1000) (hw : ∀ v, wipe ((wipe σ vs).set j (some v)) vs = wipe σ vs)
    (ht : ∀ x ∈ xs, ∀ H', (∀ b, b ≠ D → H' b = H b) → ∀ R : Bool → Hp → Prop, R (p x) H' → tt ((wipe σ vs).set j (some x)) H' R)
    (he : ∀ x ∈ xs, p x = true → ∀ H', (∀ b, b ≠ D → H' b = H b) → ∀ R : VK, R (f x) H' → te ((wipe σ vs).set j (some x)) H' R)
    (q : Q (.ref D) (upd H D (.lst ((xs.filter p).map f)))) : COMP (Itl K a) (gName j) tt te vs σ H D Q := by
  refine c_lst (xs := xs) (fun i H' => (∀ b, b ≠ D → H' b = H b) ∧ H' D = some (.lst (((xs.take i).filter p).map f))) ⟨fun b z => upd_ne z, upd_same⟩ (fun i H' _ h => sq_off hl hD h.1) ?_ ?_
  · rintro i x H' ex ⟨e, h⟩
    refine ⟨hw x, ?_⟩
    have mx := List.mem_of_getElem? ex
    refine ht x mx H' e _ ?_
    by_cases hp : p x = true
    · rw [hp, if_pos rfl]
      refine he x mx hp H' e _ ⟨_, h, ?_, fun b z => by rw [upd_ne z]; exact e b z, ?_⟩
      · rw [List.length_map]
        exact small1000 (Nat.le_trans (List.length_filter_le _ _) (by rw [List.length_take]; omega))
      · rw [upd_same, take_filter ex, if_pos hp]
    · rw [if_neg hp]
      refine ⟨e, ?_⟩
      rw [h, take_filter ex, if_neg hp, List.append_nil]
  · rintro H' ⟨e, h⟩
    rw [List.take_length] at h
    rw [upd_id h e]
    exact q
theorem c_pureT {xs : List V} (p : V → Bool) (f : V → V) (hl : SqT K H a xs) (hD : H D = none) (hn : xs.length ≤ 1000) (hw : ∀ v, wipe ((wipe σ vs).set j (some v)) vs = wipe σ vs)
    (ht : ∀ x ∈ xs, ∀ H', (∀ b, b ≠ D → H' b = H b) → ∀ R : Bool → Hp → Prop, R (p x) H' → tt ((wipe σ vs).set j (some x)) H' R)
    (he : ∀ x ∈ xs, p x = true → ∀ H', (∀ b, b ≠ D → H' b = H b) → ∀ R : VK, R (f x) H' → te ((wipe σ vs).set j (some x)) H' R)
    (q : Q (.ref D) (upd H D (.lst ((xs.filter p).map f)))) : COMP (Itt K a) (gName j) tt te vs σ H D Q := by
  refine c_tup (xs := xs) (fun i H' => (∀ b, b ≠ D → H' b = H b) ∧ H' D = some (.lst (((xs.take i).filter p).map f))) ⟨fun b z => upd_ne z, upd_same⟩ (fun i H' _ h => st_off hl hD h.1) ?_ ?_
  · rintro i x H' ex ⟨e, h⟩
    refine ⟨hw x, ?_⟩
    have mx := List.mem_of_getElem? ex
    refine ht x mx H' e _ ?_
    by_cases hp : p x = true
    · rw [hp, if_pos rfl]
      refine he x mx hp H' e _ ⟨_, h, ?_, fun b z => by rw [upd_ne z]; exact e b z, ?_⟩
      · rw [List.length_map]
        exact small1000 (Nat.le_trans (List.length_filter_le _ _) (by rw [List.length_take]; omega))
      · rw [upd_same, take_filter ex, if_pos hp]
    · rw [if_neg hp]
      refine ⟨e, ?_⟩
      rw [h, take_filter ex, if_neg hp, List.append_nil]
  · rintro H' ⟨e, h⟩
    rw [List.take_length] at h
    rw [upd_id h e]
    exact q
theorem filter_yes (xs : List V) : xs.filter (fun _ => true) = xs := by
  induction xs with
  | nil => rfl
  | cons x r ih => simp
/-- [f x for x in xs] -/
theorem c_map {xs : List V} (f : V → V) (hl : SqL K H a xs) (hD : H D = none) (hn : xs.length ≤ 1000) (hw : ∀ v, wipe ((wipe σ vs).set j (some v)) vs = wipe σ vs)
    (he : ∀ x ∈ xs, ∀ H', (∀ b, b ≠ D → H' b = H b) → ∀ R : VK, R (f x) H' → te ((wipe σ vs).set j (some x)) H' R)
    (q : Q (.ref D) (upd H D (.lst (xs.map f)))) : COMP (Itl K a) (gName j) tYes te vs σ H D Q :=
  c_pure (fun _ => true) f hl hD hn hw (fun x _ H' _ R r => r) (fun x m _ H' e R r => he x m H' e R r) (by rw [filter_yes]; exact q)
theorem c_mapT {xs : List V} (f : V → V) (hl : SqT K H a xs) (hD : H D = none) (hn : xs.length ≤ 1000) (hw : ∀ v, wipe ((wipe σ vs).set j (some v)) vs = wipe σ vs)
    (he : ∀ x ∈ xs, ∀ H', (∀ b, b ≠ D → H' b = H b) → ∀ R : VK, R (f x) H' → te ((wipe σ vs).set j (some x)) H' R)
    (q : Q (.ref D) (upd H D (.lst (xs.map f)))) : COMP (Itt K a) (gName j) tYes te vs σ H D Q :=
  c_pureT (fun _ => true) f hl hD hn hw (fun x _ H' _ R r => r) (fun x m _ H' e R r => he x m H' e R r) (by rw [filter_yes]; exact q)
/-- [.. draws .. for k in range(n)]: ints that keep P -/
theorem c_draws {n : Nat} {lo : Int} {U : Hp} {s : Addr} (P : Int → Prop) (hn : n ≤ 1000) (hU : Same U H) (d : Dr U H s) (hD : H D = none) (hw : ∀ v, wipe ((wipe σ vs).set j (some v)) vs = wipe σ vs)
    (he : ∀ (i : Nat) H', Same U H' → Dr U H' s → ∀ R : VK, (∀ y H'', P y → Same U H'' → Dr U H'' s → (∀ b, b ≠ s → H'' b = H' b) → R (.int y) H'') → te ((wipe σ vs).set j (some (.int (lo + i)))) H' R)
    (hd : ∀ (ns : List Int) H', ns.length = n → (∀ y ∈ ns, P y) → Same U H' → Dr U H' s → U D = none → (∀ b, b ≠ s → b ≠ D → H' b = H b) → H' D = some (.lst (ns.map V.int)) → Q (.ref D) H') : COMP (Itr lo n) (gName j) tYes te vs σ H D Q := by
  have nU : U D = none := hU.free hD
  have sD : s ≠ D := fun z => by
    subst z
    exact d.some hD
  refine c_rng (fun i H' => ∃ ns : List Int, ns.length = i ∧ (∀ y ∈ ns, P y) ∧ Same U H' ∧ Dr U H' s ∧ (∀ b, b ≠ s → b ≠ D → H' b = H b) ∧ H' D = some (.lst (ns.map V.int))) ?_ ?_ ?_
  · exact ⟨[], rfl, fun y h => (by cases h), same_mut hU nU, d.newM hD, fun b _ z => upd_ne z, upd_same⟩
  · rintro i H' hi ⟨ns, e1, e2, e3, e4, e5, e6⟩
    refine ⟨hw _, ?_⟩
    refine i_yes (i_itT ?_)
    refine he i H' e3 e4 _ fun y H'' py h1 h2 h3 => ⟨_, (h3 D sD.symm).trans e6, by rw [List.length_map]; exact small1000 (by omega), ns ++ [y], by rw [List.length_append, e1]; rfl, ?_, same_mut h1 nU, h2.mut sD, ?_, ?_⟩
    · intro z hz
      rcases List.mem_append.mp hz with h | h
      · exact e2 z h
      · rw [List.mem_singleton.mp h]
        exact py
    · intro b z1 z2
      rw [upd_ne z2, h3 b z1]
      exact e5 b z1 z2
    · rw [upd_same, List.map_append]
      rfl
  · rintro H' ⟨ns, e1, e2, e3, e4, e5, e6⟩
    exact hd ns H' e1 e2 e3 e4 nU e5 e6
end
/-! ### lists of tuples that stand in H, their tuples in the view -/
abbrev Tups (U : Hp) (as : List Addr) (rows : List (List V)) : Prop := Paired (fun a r => U a = some (.tup r)) as rows
theorem Tups.mono {U U' : Hp} {as : List Addr} {rows : List (List V)} (e : Same U U') (h : Tups U as rows) : Tups U' as rows := Paired.imp (fun _ _ x => e _ _ x) h
theorem Paired.setAt {α β : Type} {F : α → β → Prop} {a : α} {b : β} (h : F a b) : ∀ {xs : List α} {ys : List β} (i : Nat), Paired F xs ys → Paired F (xs.set i a) (ys.set i b)
  | _, _, _, .nil => .nil
  | _, _, 0, .cons _ t => .cons h t
  | _, _, i + 1, .cons x t => .cons x (Paired.setAt h i t)
theorem Paired.erase {α β : Type} {F : α → β → Prop} : ∀ {xs : List α} {ys : List β} (i : Nat), Paired F xs ys → Paired F (xs.eraseIdx i) (ys.eraseIdx i)
  | _, _, _, .nil => .nil
  | _, _, 0, .cons _ t => t
  | _, _, i + 1, .cons x t => .cons x (Paired.erase i t)
theorem Tups.setAt {U : Hp} {as : List Addr} {rows : List (List V)} {a : Addr} {r : List V} (h : U a = some (.tup r)) (i : Nat) (hT : Tups U as rows) : Tups U (as.set i a) (rows.set i r) := Paired.setAt (F := fun a r => U a = some (.tup r)) h i hT
theorem Tups.erase {U : Hp} {as : List Addr} {rows : List (List V)} (i : Nat) (hT : Tups U as rows) : Tups U (as.eraseIdx i) (rows.eraseIdx i) := Paired.erase i hT
theorem Tups.snoc {U : Hp} {as : List Addr} {rows : List (List V)} {a : Addr} {r : List V} (h : U a = some (.tup r)) (hT : Tups U as rows) : Tups U (as ++ [a]) (rows ++ [r]) := Paired.snoc hT h
theorem map_erase {α β : Type} (f : α → β) : ∀ (xs : List α) (i : Nat), (xs.map f).eraseIdx i = (xs.eraseIdx i).map f
  | [], _ => rfl
  | _ :: _, 0 => rfl
  | x :: r, i + 1 => congrArg (f x :: ·) (map_erase f r i)
theorem ixN_of {n j : Nat} {k : Int} (e : k = (j : Int)) (h : j < n) : ixN n k = some j := by
  unfold ixN
  rw [e, if_pos (by omega), if_pos (by omega), Int.toNat_natCast]
theorem Tups.get {U : Hp} {as : List Addr} {rows : List (List V)} (h : Tups U as rows) {i : Nat} {r : List V} (e : rows[i]? = some r) : ∃ a, as[i]? = some a ∧ (as.map V.ref)[i]? = some (.ref a) ∧ U a = some (.tup r) := by
  obtain ⟨a, e1, e2⟩ := Paired.at h i r e
  exact ⟨a, e1, by rw [List.getElem?_map, e1]; rfl, e2⟩
section
variable {σ : L2.St} {H U : Hp} {K : PySem.W.Frag} {n bk ct : L2.St → Hp → Prop} {rt : VK} {tb : TS} {g : TG} {te : TE} {tt : TT} {vs : List Nat} {Q : VK} {p D : Addr} {rows : List (List V)} {as : List Addr}
theorem l_rows (h : Tups U as rows) (Pv : Nat → L2.St → Hp → Prop) (h0 : Pv 0 σ H) (hv : ∀ i σ H, Pv i σ H → Same U H ∧ SqL K H p (as.map V.ref))
    (hs : ∀ i r a σ H, rows[i]? = some r → H a = some (.tup r) → Pv i σ H → g (.ref a) σ H fun σ2 H2 => tb ⟨Pv (i + 1), rt, n, Pv (i + 1)⟩ σ2 H2) (hd : ∀ σ H, Pv rows.length σ H → n σ H) : LOOP (Itl K p) g tb ⟨n, rt, bk, ct⟩ σ H := by
  refine l_lst (xs := as.map V.ref) Pv h0 (fun i σ H _ q => (hv i σ H q).2) (fun i x σ H e q => ?_) (fun σ H q => hd σ H ?_)
  · rw [List.getElem?_map] at e
    cases ea : as[i]? with
    | none =>
      rw [ea] at e
      cases e
    | some a =>
      rw [ea] at e
      have e' := Option.some.inj e
      subst e'
      obtain ⟨r, er, hr⟩ := Paired.at' h i a ea
      exact hs i r a σ H er ((hv i σ H q).1 _ _ hr) q
  · rw [List.length_map, Paired.len h] at q
    exact q
theorem filter_snoc {α β : Type} {xs : List α} {p : α → Bool} {f : α → β} {i : Nat} {x : α} (h : xs[i]? = some x) : ((xs.take (i + 1)).filter p).map f = ((xs.take i).filter p).map f ++ (if p x = true then [f x] else []) := by
  rw [List.take_add_one, h, List.filter_append, List.map_append]
  by_cases hp : p x = true
  · simp [hp]
  · simp [hp]
/-- [e for .. in rows if t]: nothing but the new list changes -/
theorem c_rows (pr : List V → Bool) (f : List V → V) (h : Tups U as rows) (hU : Same U H) (hl : SqL K H p (as.map V.ref)) (hD : H D = none) (hn : rows.length ≤ 1000)
    (he : ∀ a r, r ∈ rows → U a = some (.tup r) → ∀ H', Same U H' → (∀ b, b ≠ D → H' b = H b) → ∀ (Rt : VK) (Rf : Hp → Prop), (pr r = true → Rt (f r) H') → (pr r = false → Rf H') → g (.ref a) (wipe σ vs) H' fun σ2 H2 => wipe σ2 vs = wipe σ vs ∧ tt σ2 H2 fun b H3 => if b = true then te σ2 H3 Rt else Rf H3)
    (q : Q (.ref D) (upd H D (.lst ((rows.filter pr).map f)))) : COMP (Itl K p) g tt te vs σ H D Q := by
  have nU := hU.free hD
  refine c_lst (xs := as.map V.ref) (fun i H' => (∀ b, b ≠ D → H' b = H b) ∧ H' D = some (.lst (((rows.take i).filter pr).map f))) ⟨fun b z => upd_ne z, upd_same⟩ (fun i H' _ h => sq_off hl hD h.1) ?_ ?_
  · rintro i x H' ex ⟨e, hd⟩
    rw [List.getElem?_map] at ex
    cases ea : as[i]? with
    | none =>
      rw [ea] at ex
      cases ex
    | some a =>
      rw [ea] at ex
      have e' := Option.some.inj ex
      subst e'
      obtain ⟨r, er, hr⟩ := Paired.at' h i a ea
      have mr := List.mem_of_getElem? er
      have sU : Same U H' := fun b o hb => by
        rw [e b (ne_of_none hb nU)]
        exact hU b o hb
      refine he a r mr hr H' sU e _ _ (fun hp => ⟨_, hd, ?_, fun b z => by rw [upd_ne z]; exact e b z, ?_⟩) fun hp => ⟨e, ?_⟩
      · rw [List.length_map]
        exact small1000 (Nat.le_trans (List.length_filter_le _ _) (by rw [List.length_take]; omega))
      · rw [upd_same, filter_snoc er, if_pos hp]
      · rw [hd, filter_snoc er, if_neg (by rw [hp]; exact Bool.false_ne_true), List.append_nil]
  · rintro H' ⟨e, hd⟩
    rw [List.length_map, Paired.len h, List.take_length] at hd
    rw [upd_id hd e]
    exact q
end
theorem Tups.dp {K : PySem.W.Frag} {U H : Hp} {p : Addr} {as : List Addr} {rows : List (List V)} (h2 : Tups U as rows) (e : Same U H) (h1 : SqL K H p (as.map V.ref)) (f : ∀ r ∈ rows, ∀ v ∈ r, Dp K H v (dV v)) : Dp K H (.ref p) (.list (rows.map fun r => .tuple (r.map dV))) := by
  refine .lst h1 ?_
  clear h1
  induction h2 with
  | nil => exact .nil
  | @cons a r as rows h t ih =>
    refine .cons (.tup (SqT.of (e _ _ h)) ?_) (ih fun x hx => f x (List.mem_cons_of_mem _ hx))
    have fr := f r List.mem_cons_self
    clear h ih t f
    induction r with
    | nil => exact .nil
    | cons v r ih => exact .cons (fr v List.mem_cons_self) (ih fun x hx => fr x (List.mem_cons_of_mem _ hx))
/-- triples of ints -/
def row3 (r : Int × Int × Int) : List V := [.int r.1, .int r.2.1, .int r.2.2]
theorem dp_row3 {K : PySem.W.Frag} {H : Hp} (rows : List (Int × Int × Int)) : ∀ r ∈ rows.map row3, ∀ v ∈ r, Dp K H v (dV v) := by
  intro r hr v hv
  obtain ⟨x, _, rfl⟩ := List.mem_map.mp hr
  unfold row3 at hv
  simp only [List.mem_cons, List.not_mem_nil, or_false] at hv
  rcases hv with rfl | rfl | rfl <;> exact .int _
theorem lay_row3 (rows : List (Int × Int × Int)) : Lay 8 (.list ((rows.map row3).map fun r => .tuple (r.map dV))) := by
  refine (lay_list (n := 1) fun x hx => ?_).up (by decide)
  obtain ⟨r, hr, rfl⟩ := List.mem_map.mp hx
  obtain ⟨y, _, rfl⟩ := List.mem_map.mp hr
  refine lay_tuple (n := 0) fun z hz => ?_
  obtain ⟨v, hv, rfl⟩ := List.mem_map.mp hz
  unfold row3 at hv
  simp only [List.mem_cons, List.not_mem_nil, or_false] at hv
  rcases hv with rfl | rfl | rfl <;> exact lay_int
theorem row3_at {rows : List (Int × Int × Int)} {i : Nat} {r : List V} (h : (rows.map row3)[i]? = some r) : ∃ x, rows[i]? = some x ∧ r = row3 x := by
  rw [List.getElem?_map] at h
  cases e : rows[i]? with
  | none =>
    rw [e] at h
    cases h
  | some x =>
    rw [e] at h
    exact ⟨x, rfl, (Option.some.inj h).symm⟩
theorem c_mapR {σ : L2.St} {H : Hp} {Q : VK} {te : TE} {vs : List Nat} {D : Addr} {j n : Nat} {lo : Int} (f : Nat → V) (hD : H D = none) (hn : n ≤ 1000) (hw : ∀ v, wipe ((wipe σ vs).set j (some v)) vs = wipe σ vs)
    (he : ∀ i, i < n → ∀ H', (∀ b, b ≠ D → H' b = H b) → ∀ R : VK, R (f i) H' → te ((wipe σ vs).set j (some (.int (lo + (i : Nat))))) H' R)
    (q : Q (.ref D) (upd H D (.lst ((List.range n).map f)))) : COMP (Itr lo n) (gName j) tYes te vs σ H D Q := by
  refine c_rng (fun i H' => (∀ b, b ≠ D → H' b = H b) ∧ H' D = some (.lst ((List.range i).map f))) ⟨fun b z => upd_ne z, upd_same⟩ ?_ ?_
  · rintro i H' hi ⟨e, h⟩
    refine ⟨hw _, i_yes (i_itT ?_)⟩
    refine he i hi H' e _ ⟨_, h, by rw [List.length_map, List.length_range]; exact small1000 (by omega), fun b z => by rw [upd_ne z]; exact e b z, ?_⟩
    rw [upd_same, List.range_succ, List.map_append]
    rfl
  · rintro H' ⟨e, h⟩
    rw [upd_id h e]
    exact q
theorem cut_mid (xs : List V) (h : 2 ≤ xs.length) : cutV xs (some 1) (some (-1)) = (xs.drop 1).take (xs.length - 2) := by
  unfold cutV
  rw [show HT.sIx xs.length 0 (some 1) = min 1 xs.length from HT.sIx_nat xs.length 0 1]
  have e : HT.sIx xs.length xs.length (some (-1)) = xs.length - 1 := by
    show (if (-1 : Int) < 0 then ((-1 : Int) + (xs.length : Int)).toNat else min (-1 : Int).toNat xs.length) = xs.length - 1
    rw [if_pos (by decide)]
    omega
  rw [e, Nat.min_eq_left (by omega)]
  rfl
theorem at_last {xs : List V} {v : V} (h : xs[xs.length - 1]? = some v) (h0 : 0 < xs.length) : atI xs (-1) = some v := by
  unfold atI ixN
  rw [if_neg (by decide), if_pos (by omega)]
  have e : (-1 + (xs.length : Int)).toNat = xs.length - 1 := by omega
  rw [e]
  exact h
/-- two rising lists of the same numbers are one -/
theorem rising_eq {a b : List Int} (hp : a.Perm b) (ha : a.Pairwise (· ≤ ·)) (hb : b.Pairwise (· ≤ ·)) : a = b := hp.eq_of_pairwise (fun x y _ _ h1 h2 => Int.le_antisymm h1 h2) ha hb
/-- the middle of what was heard -/
def spMid : Sp := fun vs H Q _ => ∃ (a : Addr) (ns : List Int), vs = [.ref a] ∧ H a = some (.lst (ns.map V.int)) ∧ 3 ≤ ns.length ∧ ns.length < 60 ∧
  ∀ (s : List Int) (x y : Int) (H' : Hp), s.Perm ns → s.Pairwise (· ≤ ·) → s[1]? = some x → s[ns.length - 2]? = some y → Same H H' → Q (.int ((x + y) / 2)) H'
/-! ### comprehensions whose element makes new things -/
section
variable {σ : L2.St} {H : Hp} {K : PySem.W.Frag} {Q : VK} {te : TE} {vs : List Nat} {a D : Addr} {j : Nat}
theorem c_growT {xs : List V} (f : V → V) (hl : SqT K H a xs) (hD : H D = none) (hn : xs.length ≤ 1000) (hw : ∀ v, wipe ((wipe σ vs).set j (some v)) vs = wipe σ vs)
    (he : ∀ x ∈ xs, ∀ H', Same H H' → ∀ R : VK, (∀ H'', Same H' H'' → R (f x) H'') → te ((wipe σ vs).set j (some x)) H' R)
    (q : ∀ H', Same H H' → H' D = some (.lst (xs.map f)) → Q (.ref D) H') : COMP (Itt K a) (gName j) tYes te vs σ H D Q := by
  refine c_tup (xs := xs) (fun i H' => Same H H' ∧ H' D = some (.lst ((xs.take i).map f))) ⟨same_new hD, upd_same⟩ (fun i H' _ h => ?_) ?_ ?_
  · rcases hl with (h1 | ⟨o, h1⟩) | h1
    · exact .inl (.inl (h.1 _ _ h1))
    · exact .inl (.inr ⟨o, h.1 _ _ h1⟩)
    · exact .inr h1
  · rintro i x H' ex ⟨e, h⟩
    refine ⟨hw x, i_yes (i_itT ?_)⟩
    refine he x (List.mem_of_getElem? ex) H' e _ fun H'' s => ⟨_, s _ _ h, ?_, same_mut (e.trans s) hD, ?_⟩
    · rw [List.length_map, List.length_take]
      exact small1000 (by omega)
    · rw [upd_same, List.take_add_one, ex, List.map_append]
      rfl
  · rintro H' ⟨e, h⟩
    rw [List.take_length] at h
    exact q H' e h
theorem c_growL {xs : List V} (f : V → V) (hl : SqL K H a xs) (hD : H D = none) (hn : xs.length ≤ 1000) (hw : ∀ v, wipe ((wipe σ vs).set j (some v)) vs = wipe σ vs)
    (he : ∀ x ∈ xs, ∀ H', Same H H' → ∀ R : VK, (∀ H'', Same H' H'' → R (f x) H'') → te ((wipe σ vs).set j (some x)) H' R)
    (q : ∀ H', Same H H' → H' D = some (.lst (xs.map f)) → Q (.ref D) H') : COMP (Itl K a) (gName j) tYes te vs σ H D Q := by
  refine c_lst (xs := xs) (fun i H' => Same H H' ∧ H' D = some (.lst ((xs.take i).map f))) ⟨same_new hD, upd_same⟩ (fun i H' _ h => h.1.seq hl) ?_ ?_
  · rintro i x H' ex ⟨e, h⟩
    refine ⟨hw x, i_yes (i_itT ?_)⟩
    refine he x (List.mem_of_getElem? ex) H' e _ fun H'' s => ⟨_, s _ _ h, ?_, same_mut (e.trans s) hD, ?_⟩
    · rw [List.length_map, List.length_take]
      exact small1000 (by omega)
    · rw [upd_same, List.take_add_one, ex, List.map_append]
      rfl
  · rintro H' ⟨e, h⟩
    rw [List.take_length] at h
    exact q H' e h
end
end SW

namespace SW
open PySem PySem.Spec PyProof.Rows L2
/-! ### raise X() of an own class without __init__ -/
theorem pmk_own0 {X : Cx} {C : Addr} {bmB : List Value} {B newId initId : String} {x : Str} {p pos : Pos} (F : ExcBaseFacts B newId initId bmB) (q : PySem.W.excIn X.K C bmB newId = true) (gC : X.mg x = some (.ref C))
    (kC : PySem.W.keepIn X.K (.ref C) = true) (r : Raises X (.ref C)) (hg : Gl X x) (hdb : (x == ("__debug__" : Str)) = false := by decide) :
    PMk X (.Call (.Name x p) [] [] pos) (fun _ H Q => Q (.ref C) none H) := by
  intro pins s σ H Q I h
  refine wpAny_Call_Name_kw (ld_glob I hg gC ?_ hdb)
  refine PySem.W.callWith_K0 I.kIn kC ?_
  show wpAny _ _ (call (.ref C) []) _ _ _
  obtain ⟨bm, N, nm, qn, bs, hdct, sn, sub, ab, col, dd, k0, k1, k2, k3, k5, mN, hC, hN, hni, T⟩ := exc_obj I.kIn q
  exact wpAny_call_exc_subT F T hC hN hni (fun h' e hm => mk_of I hm r h (I.hok.gone hm.new)) (Nat.zero_le _)
/-! ### what is known of the error classes -/
def errMro (C N : Addr) : List Value := [.ref C, .ref N, .type "ValueError", .type "Exception", .type "BaseException", .type "object"]
def errB (K : PySem.W.Frag) (C N : Addr) : Bool :=
  ((PySem.W.clsIn K C).any fun cd => cd.mro == errMro C N) && (PySem.W.typeIn K (.ref C) == some (.type "type")) && PySem.W.keepIn K (.ref C) && (PySem.W.findIn K (.ref C) "__getattribute__" == some (some (.builtin "BaseException.__getattribute__"))) &&
    (PySem.W.findIn K (.ref C) "__getattr__" == some none) && (PySem.W.findIn K (.ref C) "__class__" == some (some (.builtin "object.__class__"))) && PySem.W.hasDictIn K C
structure ErrC (K : PySem.W.Frag) (C N : Addr) : Prop where
  mro : ∃ cd, PySem.W.clsIn K C = some cd ∧ cd.mro = errMro C N
  ty : PySem.W.typeIn K (.ref C) = some (.type "type")
  kp : PySem.W.keepIn K (.ref C) = true
  ga : PySem.W.findIn K (.ref C) "__getattribute__" = some (some (.builtin "BaseException.__getattribute__"))
  gt : PySem.W.findIn K (.ref C) "__getattr__" = some none
  cl : PySem.W.findIn K (.ref C) "__class__" = some (some (.builtin "object.__class__"))
  hd : PySem.W.hasDictIn K C = true
theorem errC_of {K : PySem.W.Frag} {C N : Addr} (h : errB K C N = true) : ErrC K C N := by
  unfold errB at h
  simp only [Bool.and_eq_true, beq_iff_eq] at h
  obtain ⟨⟨⟨⟨⟨⟨h1, h2⟩, h3⟩, h4⟩, h5⟩, h6⟩, h7⟩ := h
  refine ⟨?_, h2, h3, h4, h5, h6, h7⟩
  cases e : PySem.W.clsIn K C with
  | none =>
    rw [e] at h1
    cases h1
  | some cd =>
    rw [e] at h1
    exact ⟨cd, rfl, beq_iff_eq.mp h1⟩
theorem ErrC.sub {K : PySem.W.Frag} {C N : Addr} (h : ErrC K C N) (b : Value) : PySem.W.subIn K (.ref C) b = some ((errMro C N).contains b) := by
  obtain ⟨cd, e, m⟩ := h.mro
  show PySem.W.mroIn K C b = _
  unfold PySem.W.mroIn
  rw [e, Option.bind_some, m]
  rfl
theorem ErrC.base {K : PySem.W.Frag} {C N : Addr} (h : ErrC K C N) : PySem.W.subIn K (.ref C) (.type "BaseException") = some true := by
  rw [h.sub]
  rfl
theorem ErrC.raises {X : Cx} {C N : Addr} (h : ErrC X.K C N) : Raises X (.ref C) := raises_own h.base h.ty
theorem mem_mro {C N D : Addr} : (errMro C N).contains (.ref D) = decide (D = C ∨ D = N) := by
  unfold errMro
  by_cases h1 : D = C
  · subst h1
    simp
  · by_cases h2 : D = N
    · subst h2
      simp
    · simp [h1, h2]
/-- isinstance(e, D) for e of the class C -/
theorem ErrC.kit {K : PySem.W.Frag} {C D N : Addr} (h : ErrC K C N) (g : ErrC K D N) (hN : C ≠ N) (hD : D ≠ N) : PySem.W.kitOne K (.ref C) (.ref D) = some (decide (D = C)) := by
  unfold PySem.W.kitOne
  by_cases e : C = D
  · subst e
    simp
  · have e1 : (Value.ref C == Value.ref D) = false := by simp [e]
    rw [e1, if_neg Bool.false_ne_true]
    obtain ⟨cd, c1, _⟩ := g.mro
    show (if ((PySem.W.clsIn K D).isSome && PySem.W.typeIn K (.ref D) == some (.type "type")) = true then PySem.W.subIn K (.ref C) (.ref D) else none) = _
    rw [c1, g.ty]
    show PySem.W.subIn K (.ref C) (.ref D) = _
    rw [h.sub, mem_mro]
    congr 1
    exact decide_eq_decide.mpr ⟨fun z => z.resolve_right hD, .inl⟩
theorem ErrC.kitVE {K : PySem.W.Frag} {C N : Addr} (h : ErrC K C N) : PySem.W.kitOne K (.ref C) (.type "ValueError") = some true := by
  unfold PySem.W.kitOne
  rw [show (Value.ref C == Value.type "ValueError") = false from rfl, if_neg Bool.false_ne_true]
  show (if PySem.W.kitMeta "ValueError" = true then PySem.W.subIn K (.ref C) (.type "ValueError") else none) = _
  rw [show PySem.W.kitMeta "ValueError" = true by decide +kernel, if_pos rfl, h.sub]
  rfl
/-- an except clause that names the common class -/
theorem ErrC.exm {K : PySem.W.Frag} {C N : Addr} (h : ErrC K C N) (hb : PySem.W.subIn K (.ref N) (.type "BaseException") = some true) (hd : PySem.W.hasDictIn K N = true) (ht : PySem.W.typeIn K (.ref N) = some (.type "type")) : PySem.W.exmOne K (.ref C) (.ref N) = some true :=
  PySem.W.exm_ref hb hd ht (by rw [h.sub, mem_mro]; simp)
/-! ### isinstance of the error that is handled -/
def rIsW (K : PySem.W.Frag) (a : Addr) (cls : Value) (d : Option Addr) : List V → Hp → VK → Prop := fun xs H Q => ∃ (c : V) (cv : Value) (b : Bool), xs = [.ref a, c] ∧ ClsV c cv ∧ PySem.W.kitOne K cls cv = some b ∧ (∀ dd, d = some dd → ∃ fs, H dd = some (.xd fs)) ∧ Q (.bl b) H
theorem call_isW {X : Cx} {K : PySem.W.Frag} {p : Addr × Obj} {C N : Addr} {d : Option Addr} (hK : X.K = K) (hp : p ∈ X.pn) (T : ErrC K C N) (hn : PySem.W.specialIn K (.builtin "object.__class__") "__get__" = some (some (.builtin "getset_descriptor.__get__")))
    (ht : PySem.W.takesIn K (.builtin "object.__class__") = some true) (hz : Zc (.ref C) d p.2) (hf : ∃ vs, p.2.data = .fields vs) : CallR X (.builtin "isinstance") (rIsW K p.1 (.ref C) d) := by
  subst hK
  intro pins s σ H xs us Q I r h
  obtain ⟨c, cv, b, rfl, k, e, hdd, q⟩ := h
  obtain ⟨u1, u2, rfl, r1, r2⟩ := vals2 r
  obtain rfl : u1 = Value.ref p.1 := r1
  have e2 := k.eq r2
  subst e2
  have hget := (I.pin p (List.mem_append_left _ hp)).1
  obtain ⟨vs, hv⟩ := hf
  have hm : PySem.W.mroIn X.K C (.type "object") = some true := by
    have z := T.sub (.type "object")
    exact z
  have hcl : (PySem.W.clsIn X.K C).isSome = true := by
    obtain ⟨cd, c1, _⟩ := T.mro
    rw [c1]
    rfl
  have nc : PySem.W.notCls p.2 = true := by
    unfold PySem.W.notCls
    rw [hv]
  have J : ∃ od, PySem.W.InstAt s.heap p.1 p.2 C od := by
    cases d with
    | none => exact ⟨none, hget, hz.1, nc, by rw [hz.2]; trivial⟩
    | some dd =>
      obtain ⟨fs, hdx⟩ := hdd dd rfl
      obtain ⟨mA, hns, _⟩ := (show ObjOk X.prog X.w H s.heap dd (.xd fs) from I.hok dd _ hdx)
      obtain ⟨od, ho, _⟩ := lookIn_ns hns
      exact ⟨some od, hget, hz.1, nc, by rw [hz.2]; exact ho⟩
  obtain ⟨od, J⟩ := J
  exact PySem.W.kia_one (PySem.W.kitx_exc hcl T.ga T.gt T.base T.cl hn ht hm) I.kIn J e (fun z => nomatch z) fun tk => ⟨.bl b, H, I.tok tk, rfl, q⟩
/-! ### a def that is called while an error is handled, the error at hand: sp knows its address, class and dict -/
abbrev SpW := Addr → Value → Option Addr → Sp
structure FnW (P : Program) (w : World) (K : PySem.W.Frag) (mg : Str → Option Value) (base : Heap) (k : Nat) (f : Addr) (fd : FuncData) (ps : List Str) (sp : SpW) : Prop where
  len : ∀ a cls d vs H Q E, sp a cls d vs H Q E → vs.length = ps.length
  run : ∀ (A : Around) (outer : List Env) (s : Shared) (H : Hp) (args : Args) (us : List Value) (vs : List V) (Q : VK) (E : XK) (p : Addr × Obj) (cls : Value) (d : Option Addr), L2H.RoomH k A → Zc cls d p.2 → (∃ fs, p.2.data = .fields fs) → L2H.PinOk outer H s p →
    Env0 P w K mg base A outer s H → BindsTo s fd args (ps.zip us) → Vals vs us → sp p.1 cls d vs H Q E → codeAny (model P w) A (.call (.ref f) args) (CR CX0 outer P w H s Q E) s
theorem fun_okW {P : Program} {w : World} {K : PySem.W.Frag} {mg : Str → Option Value} {base : Heap} {x qual : Str} {st : Stmt} {f : Addr} {fd : FuncData} {N ps : List Str} {k : Nat} {sp : SpW} (F : Fun K x qual st f fd) (S : FnScope N ps (defScope st))
    (len : ∀ a cls d vs H Q E, sp a cls d vs H Q E → vs.length = ps.length)
    (body : ∀ (cdv : Value) (A : Around) (outer : List Env) (s : Shared) (H : Hp) (vs : List V) (Q : VK) (E : XK) (p : Addr × Obj) (cls : Value) (d : Option Addr), L2H.RoomH k (A.deeper (envOfC qual (defScope st) s.heap.objs.size f cdv)) → Zc cls d p.2 → (∃ fs, p.2.data = .fields fs) → sp p.1 cls d vs H Q E →
      ∃ t, PSs (L2H.cxH CX0 P w K mg base N qual (defScope st) f cdv A outer s H E p) (defBody st) t ∧ t { nx := fun _ H' => Q .non H', rt := Q } (start N vs) H) : FnW P w K mg base (k + 1) f fd ps sp := by
  obtain ⟨oc, od, kV, doc, pm, an, cdv, ct, osl, rfl, lk, hcd⟩ := F.ex
  refine ⟨len, ?_⟩
  intro A outer s H args us vs Q E p cls d room hz hf pin env0 bind vals prom
  have inK : K.In s.heap := env0.mod.kin.keeps fun b o z => (env0.bs b o z).1
  have kinds : ∀ y ∈ ps.zip us, (defScope st).names.lookup y.1 = some .local ∨ ((defScope st).names.lookup y.1 = some .cell ∧ ((cellsFrom (s.heap.objs.size + 1) (defScope st).names []).lookup y.1).isSome = true) := by
    rintro ⟨n, v⟩ hy
    exact (S.par n (List.of_mem_zip hy).1).imp id fun z => ⟨z, PySem.W.cellsFrom_some _ _ _ (.inl z)⟩
  have nolim : s.heap.NoLimit := env0.mod.nolimit.keeps fun b o z => (env0.bs b o z).1
  apply codeAny_call_function room.depth (inK _ _ lk) rfl S.co S.gen rfl (PySem.W.codeRec_of inK hcd) (bind _ _ _ _ ?_)
  apply wpAny_newFunctionEnv_cells S.kind kinds
  intro env ee s1 inc
  subst ee
  refine ⟨nolim.keeps inc.toInCall.keep, codeAny_func ?_⟩
  obtain ⟨t, dt, rt⟩ := body cdv A outer s H vs Q E p cls d (room.deeper _) hz hf prom
  have I := L2H.inv_startH (CX := CX0) (E := E) S pin env0 (len _ _ _ _ _ _ _ prom) vals inc
  refine wpAny_mono (dt.run [] s1 _ H _ I rt) (fun fl s' z => ?_) fun _ _ z => z
  cases fl with
  | next =>
    obtain ⟨σ', H', J, z⟩ := z
    exact ⟨V.non, H', J.os, J.bare, J.base, J.hok, rfl, z⟩
  | ret u =>
    obtain ⟨v, σ', H', J, rv, z⟩ := z
    exact ⟨v, H', J.os, J.bare, J.base, J.hok, rv, z⟩
  | brk =>
    obtain ⟨_, _, _, z⟩ := z
    exact z.elim
  | cont =>
    obtain ⟨_, _, _, z⟩ := z
    exact z.elim
def tCallW (sp : SpW) (a : Addr) (cls : Value) (d : Option Addr) (t : TA) : TE := fun σ H Q => t σ H fun vs H1 => sp a cls d vs H1 Q E0
theorem pe_callW {X : Cx} {k : Nat} {f : Addr} {fd : FuncData} {ps : List Str} {sp : SpW} {x : Str} {n pos : Pos} {e : Expr} {es : List Expr} {t : TA} {p : Addr × Obj} {cls : Value} {d : Option Addr} (F : FnW X.prog X.w X.K X.mg X.base k f fd ps sp) (room : L2H.RoomH k X.A)
    (hp : p ∈ X.pn) (hz : Zc cls d p.2) (hf : ∃ fs, p.2.data = .fields fs) (hg : Gl X x) (hm : X.mg x = some (.ref f)) (hk : PySem.W.keepIn X.K (.ref f) = true) (hb : Binds X.K fd ps []) (ha : PA X (e :: es) t)
    (hdb : (x == ("__debug__" : Str)) = false := by decide) (he : starEach (e :: es) X.env = (false, eval e X.env) :: starEach es X.env := by rfl) (hpl : (backTo pos (starEach es X.env)).any (·.1) = false := by rfl) :
    PE X (.Call (.Name x n) (e :: es) [] pos) (tCallW sp p.1 cls d t) := by
  constructor
  intro pins s σ H Q I h
  refine wpAny_Call_Name_kw (ld_glob I hg hm (PySem.W.callWith_K (h₀ := X.base) I.ok.mod.kin hk (thn (ha.run pos pins s σ H _ I h) ?_) he hpl) hdb)
  rintro us s1 ⟨vs, H1, I1, r, z⟩
  refine ⟨I1.kIn, ?_⟩
  have b := hb s1 us I1.kIn (by rw [List.append_nil, ← r.length]; exact F.len _ _ _ _ _ _ _ z)
  rw [List.append_nil] at b
  obtain ⟨g1, g2, g3, g4, g5⟩ := I1.pin p (List.mem_append_left _ hp)
  have pin : L2H.PinOk X.stack H1 s1 p := ⟨g1, g2, fun hm => (List.mem_cons.mp (I1.stkSub p.1 hm)).elim g3 g4, g5⟩
  refine wpAny_call (codeAny_mono (F.run X.A X.stack s1 H1 ⟨us, []⟩ us vs Q E0 p cls d room hz hf pin I1.env0 b r z) ?_)
  intro res s' z
  cases res with
  | error e => exact z.elim
  | ok fl =>
    cases fl with
    | ret u => exact I1.after z
    | next => exact z.elim
    | brk => exact z.elim
    | cont => exact z.elim
theorem pe_callA {X : Cx} {k : Nat} {f : Addr} {fd : FuncData} {ps : List Str} {sp : SpW} {x : Str} {n pos : Pos} {e : Expr} {es : List Expr} {t : TA} (a : Addr) (oe : Obj) (cls : Value) (d : Option Addr) (F : FnW X.prog X.w X.K X.mg X.base k f fd ps sp) (room : L2H.RoomH k X.A)
    (hp : (a, oe) ∈ X.pn) (hz : Zc cls d oe) (hf : ∃ fs, oe.data = .fields fs) (hg : Gl X x) (hm : X.mg x = some (.ref f)) (hk : PySem.W.keepIn X.K (.ref f) = true) (hb : Binds X.K fd ps []) (ha : PA X (e :: es) t)
    (hdb : (x == ("__debug__" : Str)) = false := by decide) (he : starEach (e :: es) X.env = (false, eval e X.env) :: starEach es X.env := by rfl) (hpl : (backTo pos (starEach es X.env)).any (·.1) = false := by rfl) :
    PE X (.Call (.Name x n) (e :: es) [] pos) (tCallW sp a cls d t) := pe_callW (p := (a, oe)) F room hp hz hf hg hm hk hb ha hdb he hpl
theorem i_callW {σ : L2.St} {H : Hp} {Q : VK} {sp : SpW} {a : Addr} {cls : Value} {d : Option Addr} {t : TA} (q : t σ H fun vs H1 => sp a cls d vs H1 Q E0) : tCallW sp a cls d t σ H Q := q
theorem i_callS {σ : L2.St} {H : Hp} {Q : VK} {sp : Sp} {E : L2.St → XK} {t : TA} (q : t σ H fun vs H1 => sp vs H1 Q (E σ)) : tCallS sp E t σ H Q := q
theorem roomW {k : Nat} {A : Around} {v : Option Value} (r : Room k A) : L2H.RoomH k (A.mark v) := ⟨r.dp, r.un⟩
end SW

namespace SW
open PySem PySem.Spec PyProof.Rows L2
/-! ### calls that may raise, wished for at the caller's slots: methods, makings, keywords -/
theorem coldAt {X : Cx} (σ : L2.St) : PassesAt (L2.CX X.prog X.w) X σ ((fun _ => E0 : L2.St → XK) σ) := fun pins H s e s' I c => passL pins σ H s e s' I c
section
variable {X : Cx} {CX : CXT} {k n : Nat} {f C : Addr} {fd : FuncData} {ps ks : List Str} {sp : Sp} {dvs : List V} {ds : List Value} {E : L2.St → XK} {x m : Str} {p pos apos : Pos} {e o : Expr} {es : List Expr} {kws : List Keyword} {ta : TE} {t tk : TA} {g : List Value → List Value → List Value} {gV : List V → List V → List V}
def tMeS (C : Addr) (m : Str) (sp : Sp) (dvs : List V) (E : L2.St → XK) (ta : TE) (t : TA) : TE := fun σ H Q => ta σ H fun x H1 => ∃ a dx fs, x = .ref a ∧ H1 a = some (.ins C dx fs) ∧ fs.lookup m = none ∧
  t σ H1 fun vs H2 => sp (x :: (vs ++ dvs)) H2 Q (E σ)
theorem pe_meS {pl : Sem Bool} (he : PE X o ta) (c : Cls X.K C) (hm : Meth X.K C m f) (F : FnOk X.prog X.w X.K X.mg X.base CX k f fd ps sp) (hr : Room k X.A) (hb : Binds X.K fd ps ds) (hd : Vals dvs ds) (hx : ∀ σ, PassesAt CX X σ (E σ)) (ha : PA X (e :: es) t)
    (hst : starEach (e :: es) X.env = (false, eval e X.env) :: starEach es X.env := by rfl) (hpl : (backTo pos (starEach es X.env)).any (·.1) = false := by rfl)
    (ht : eval (.Call (.Attribute o m apos) (e :: es) [] pos) X.env = (do
      let ov ← eval o X.env
      standAt apos.atName
      let (f, first) ← holding [ov] (getMethod ov m pl)
      callWith pos f first (backTo pos (starEach (e :: es) X.env)) (backToKw pos (keywordEach [] X.env))) := by rfl) :
    PE X (.Call (.Attribute o m apos) (e :: es) [] pos) (tMeS C m sp dvs E ta t) := by
  refine ⟨fun pins s σ H Q I h => ?_⟩
  refine PySem.W.methodCall_KW (pl := pl) (thn (he.run pins s σ H _ I h) fun u s1 ⟨x, H1, I1, rx, a, dx, fs, ex, ea, l, q⟩ => ?_) ht
  subst ex
  obtain rfl : u = Value.ref a := rx
  refine getmeth_ok I1 ea c hm l ?_
  refine PySem.W.callWith_K (first := [.ref a]) (h₀ := X.base) I.ok.mod.kin hm.kp (thn (ha.run pos pins s1 σ H1 _ I1 q) fun us s2 ⟨vs, H2, I2, r, q2⟩ => ⟨I2.kIn, ?_⟩) hst hpl
  exact run_fnSD (us := .ref a :: us) (vs := .ref a :: vs) F hr hb hd (hx σ) I2 (.cons rfl r) q2
theorem pe_meS0 {pl : Sem Bool} (he : PE X o ta) (c : Cls X.K C) (hm : Meth X.K C m f) (F : FnOk X.prog X.w X.K X.mg X.base CX k f fd ps sp) (hr : Room k X.A) (hb : Binds X.K fd ps ds) (hd : Vals dvs ds) (hx : ∀ σ, PassesAt CX X σ (E σ))
    (ht : eval (.Call (.Attribute o m apos) [] [] pos) X.env = (do
      let ov ← eval o X.env
      standAt apos.atName
      let (f, first) ← holding [ov] (getMethod ov m pl)
      callWith pos f first (backTo pos (starEach [] X.env)) (backToKw pos (keywordEach [] X.env))) := by rfl) :
    PE X (.Call (.Attribute o m apos) [] [] pos) (tMeS C m sp dvs E ta tNil) := by
  refine ⟨fun pins s σ H Q I h => ?_⟩
  refine PySem.W.methodCall_KW (pl := pl) (thn (he.run pins s σ H _ I h) fun u s1 ⟨x, H1, I1, rx, a, dx, fs, ex, ea, l, q⟩ => ?_) ht
  subst ex
  obtain rfl : u = Value.ref a := rx
  refine getmeth_ok I1 ea c hm l ?_
  exact PySem.W.callWith_K0 (first := [.ref a]) I1.kIn hm.kp (run_fnSD (us := [.ref a]) (vs := [.ref a]) F hr hb hd (hx σ) I1 (.cons rfl .nil) q)
/-! a new instance -/
theorem run_mkS {pins : List (Addr × Obj)} {σ : L2.St} {H : Hp} {s : Shared} {Q : VK} {us : List Value} {vs : List V} (M : Mk X.K C f) (F : FnOk X.prog X.w X.K X.mg X.base CX k f fd ps sp) (hr : Room (k + 1) X.A) (hb : Binds X.K fd ps ds) (hd : Vals dvs ds)
    (hx : PassesAt CX X σ (E σ)) (I : Inv X pins σ H s) (r : Vals vs us)
    (h : ∀ x dx, H x = none → H dx = none → dx ≠ x → sp (.ref x :: (vs ++ dvs)) (upd (upd H dx (.own x)) x (.ins C dx [])) (fun v H2 => v = .non ∧ Q (.ref x) H2) (E σ)) :
    wpAny (model X.prog X.w) X.A (call (.ref C) us) (EP X pins σ Q) X.xe s := by
  have hq := h (s.heap.objs.size + 1) s.heap.objs.size (I.hok.fresh (Nat.le_succ _)) (I.hok.fresh (Nat.le_refl _)) (Nat.ne_of_lt (Nat.lt_succ_self _))
  have I2 := Inv.made (C := C) I
  have r2 : Vals (V.ref (s.heap.objs.size + 1) :: (vs ++ dvs)) (Value.ref (s.heap.objs.size + 1) :: (us ++ ds)) := .cons rfl (r.append hd)
  have hl : (Value.ref (s.heap.objs.size + 1) :: us ++ ds).length = ps.length := by
    have e := r2.length
    rw [F.len _ _ _ _ hq] at e
    exact e.symm
  refine wpAny_call (make_map (f := f) I.kIn M.makes M.init (beq_iff_eq.mp M.fn) (codeAny_mono (F.run _ X.stack _ _ ⟨Value.ref (s.heap.objs.size + 1) :: us, []⟩ (Value.ref (s.heap.objs.size + 1) :: (us ++ ds)) _ _ (E σ) (hr.make C us [])
    (I2.env0.make C us []) (hb _ (Value.ref (s.heap.objs.size + 1) :: us) I2.kIn hl) r2 hq) fun r s' hq' => ?_))
  cases r with
  | error e => exact hx pins _ _ e s' I2 hq'
  | ok fl =>
    cases fl with
    | ret u =>
      obtain ⟨v, H', I3, rv, ev, q3⟩ := I2.after hq'
      subst ev
      exact ⟨rv, ⟨V.ref (s.heap.objs.size + 1), H', I3, rfl, q3⟩⟩
    | next => exact False.elim hq'
    | brk => exact False.elim hq'
    | cont => exact False.elim hq'
def tMkS (C : Addr) (sp : Sp) (dvs : List V) (E : L2.St → XK) (t : TA) : TE := fun σ H Q => t σ H fun vs H1 => ∀ x dx, H1 x = none → H1 dx = none → dx ≠ x →
  sp (.ref x :: (vs ++ dvs)) (upd (upd H1 dx (.own x)) x (.ins C dx [])) (fun v H2 => v = .non ∧ Q (.ref x) H2) (E σ)
theorem pe_mkS (M : Mk X.K C f) (F : FnOk X.prog X.w X.K X.mg X.base CX k f fd ps sp) (hr : Room (k + 1) X.A) (hg : Gl X x) (hm : X.mg x = some (.ref C)) (hb : Binds X.K fd ps ds) (hd : Vals dvs ds) (hx : ∀ σ, PassesAt CX X σ (E σ))
    (ha : PA X (e :: es) t) (hdb : (x == ("__debug__" : Str)) = false := by decide) (he : starEach (e :: es) X.env = (false, eval e X.env) :: starEach es X.env := by rfl) (hpl : (backTo pos (starEach es X.env)).any (·.1) = false := by rfl) :
    PE X (.Call (.Name x p) (e :: es) [] pos) (tMkS C sp dvs E t) := by
  refine ⟨fun pins s σ H Q I h => ?_⟩
  refine wpAny_Call_Name_kw (ld_glob I hg hm ?_ hdb)
  refine PySem.W.callWith_K (h₀ := X.base) I.ok.mod.kin M.kp (thn (ha.run pos pins s σ H _ I h) fun us s1 ⟨vs, H1, I1, r, q⟩ => ⟨I1.kIn, ?_⟩) he hpl
  exact run_mkS M F hr hb hd (hx σ) I1 r q
theorem pe_mkS0 (M : Mk X.K C f) (F : FnOk X.prog X.w X.K X.mg X.base CX k f fd ps sp) (hr : Room (k + 1) X.A) (hg : Gl X x) (hm : X.mg x = some (.ref C)) (hb : Binds X.K fd ps ds) (hd : Vals dvs ds) (hx : ∀ σ, PassesAt CX X σ (E σ))
    (hdb : (x == ("__debug__" : Str)) = false := by decide) : PE X (.Call (.Name x p) [] [] pos) (tMkS C sp dvs E tNil) := by
  refine ⟨fun pins s σ H Q I h => ?_⟩
  refine wpAny_Call_Name_kw (ld_glob I hg hm ?_ hdb)
  exact PySem.W.callWith_K0 I.kIn M.kp (run_mkS (us := []) M F hr hb hd (hx σ) I .nil h)
def tMkNS (C : Addr) (n m : Nat) (sp : Sp) (gV : List V → List V → List V) (E : L2.St → XK) (t tk : TA) : TE := fun σ H Q => t σ H fun vs H1 => tk σ H1 fun zs H2 => vs.length = n ∧ zs.length = m ∧
  ∀ x dx, H2 x = none → H2 dx = none → dx ≠ x → sp (gV (.ref x :: vs) zs) (upd (upd H2 dx (.own x)) x (.ins C dx [])) (fun v H3 => v = .non ∧ Q (.ref x) H3) (E σ)
theorem run_mkNS {pins : List (Addr × Obj)} {σ : L2.St} {H : Hp} {s : Shared} {Q : VK} {us ws : List Value} {vs zs : List V} (M : Mk X.K C f) (F : FnOk X.prog X.w X.K X.mg X.base CX k f fd ps sp) (hr : Room (k + 1) X.A) (hb : KBn X.K fd ps (n + 1) ks g gV)
    (hx : PassesAt CX X σ (E σ)) (I : Inv X pins σ H s) (r : Vals vs us) (rz : Vals zs ws) (l1 : vs.length = n) (l2 : zs.length = ks.length)
    (h : ∀ x dx, H x = none → H dx = none → dx ≠ x → sp (gV (.ref x :: vs) zs) (upd (upd H dx (.own x)) x (.ins C dx [])) (fun v H2 => v = .non ∧ Q (.ref x) H2) (E σ)) :
    wpAny (model X.prog X.w) X.A (call (.ref C) us (ks.zip ws)) (EP X pins σ Q) X.xe s := by
  have hq := h (s.heap.objs.size + 1) s.heap.objs.size (I.hok.fresh (Nat.le_succ _)) (I.hok.fresh (Nat.le_refl _)) (Nat.ne_of_lt (Nat.lt_succ_self _))
  have I2 := Inv.made (C := C) I
  have r1 : Vals (V.ref (s.heap.objs.size + 1) :: vs) (Value.ref (s.heap.objs.size + 1) :: us) := .cons rfl r
  have r2 := hb.rel r1 rz
  have e1 : (Value.ref (s.heap.objs.size + 1) :: us).length = n + 1 := r1.length.symm.trans (congrArg Nat.succ l1)
  have e2 : ws.length = ks.length := rz.length.symm.trans l2
  refine wpAny_call (make_map (f := f) I.kIn M.makes M.init (beq_iff_eq.mp M.fn) (codeAny_mono (F.run _ X.stack _ _ ⟨Value.ref (s.heap.objs.size + 1) :: us, ks.zip ws⟩ (g (Value.ref (s.heap.objs.size + 1) :: us) ws) _ _ (E σ) (hr.make C us (ks.zip ws))
    (I2.env0.make C us (ks.zip ws)) (hb.to _ (Value.ref (s.heap.objs.size + 1) :: us) ws I2.kIn e1 e2) r2 hq) fun r s' hq' => ?_))
  cases r with
  | error e => exact hx pins _ _ e s' I2 hq'
  | ok fl =>
    cases fl with
    | ret u =>
      obtain ⟨v, H', I3, rv, ev, q3⟩ := I2.after hq'
      subst ev
      exact ⟨rv, ⟨V.ref (s.heap.objs.size + 1), H', I3, rfl, q3⟩⟩
    | next => exact False.elim hq'
    | brk => exact False.elim hq'
    | cont => exact False.elim hq'
theorem pe_mkNS (M : Mk X.K C f) (F : FnOk X.prog X.w X.K X.mg X.base CX k f fd ps sp) (hr : Room (k + 1) X.A) (hg : Gl X x) (hm : X.mg x = some (.ref C)) (hb : KBn X.K fd ps (n + 1) ks g gV) (hx : ∀ σ, PassesAt CX X σ (E σ))
    (ha : PA X (e :: es) t) (hkw : PK X kws tk) (hall : (backToKw pos (keywordEach kws X.env)).all (·.1.isSome) = true := by rfl) (hks : (backToKw pos (keywordEach kws X.env)).filterMap (·.1) = ks := by rfl)
    (hdb : (x == ("__debug__" : Str)) = false := by decide) (he : starEach (e :: es) X.env = (false, eval e X.env) :: starEach es X.env := by rfl)
    (hpl : ((backTo pos (starEach (e :: es) X.env)).any (·.1) || (backToKw pos (keywordEach kws X.env)).any (·.1.isNone)) = false := by rfl) :
    PE X (.Call (.Name x p) (e :: es) kws pos) (tMkNS C n ks.length sp gV E t tk) := by
  refine ⟨fun pins s σ H Q I h => ?_⟩
  refine wpAny_Call_Name_kw (ld_glob I hg hm ?_ hdb)
  refine PySem.W.callWith_KW (h₀ := X.base) I.ok.mod.kin M.kp hall (thn (ha.run pos pins s σ H _ I h) fun us s1 ⟨vs, H1, I1, r, q⟩ => ?_) hpl he
  refine thn (hkw.run pos pins s1 σ H1 _ I1 q) fun ws s2 ⟨zs, H2, I2, rz, l1, l2, q2⟩ => ⟨I2.kIn, ?_⟩
  rw [hks]
  exact run_mkNS M F hr hb (hx σ) I2 r rz l1 l2 q2
/-! f(.., k = v) that may raise -/
def tCallNS (n m : Nat) (sp : Sp) (gV : List V → List V → List V) (E : L2.St → XK) (t tk : TA) : TE := fun σ H Q => t σ H fun vs H1 => tk σ H1 fun zs H2 => vs.length = n ∧ zs.length = m ∧ sp (gV vs zs) H2 Q (E σ)
theorem pe_callNS (F : FnOk X.prog X.w X.K X.mg X.base CX k f fd ps sp) (hr : Room k X.A) (hg : Gl X x) (hm : X.mg x = some (.ref f)) (hk : PySem.W.keepIn X.K (.ref f) = true) (hb : KBn X.K fd ps n ks g gV) (hx : ∀ σ, PassesAt CX X σ (E σ))
    (ha : PA X (e :: es) t) (hkw : PK X kws tk) (hall : (backToKw pos (keywordEach kws X.env)).all (·.1.isSome) = true := by rfl) (hks : (backToKw pos (keywordEach kws X.env)).filterMap (·.1) = ks := by rfl)
    (hdb : (x == ("__debug__" : Str)) = false := by decide) (he : starEach (e :: es) X.env = (false, eval e X.env) :: starEach es X.env := by rfl)
    (hpl : ((backTo pos (starEach (e :: es) X.env)).any (·.1) || (backToKw pos (keywordEach kws X.env)).any (·.1.isNone)) = false := by rfl) :
    PE X (.Call (.Name x p) (e :: es) kws pos) (tCallNS n ks.length sp gV E t tk) := by
  refine ⟨fun pins s σ H Q I h => ?_⟩
  refine wpAny_Call_Name_kw (ld_glob I hg hm ?_ hdb)
  refine PySem.W.callWith_KW (h₀ := X.base) I.ok.mod.kin hk hall (thn (ha.run pos pins s σ H _ I h) fun us s1 ⟨vs, H1, I1, r, q⟩ => ?_) hpl he
  refine thn (hkw.run pos pins s1 σ H1 _ I1 q) fun ws s2 ⟨zs, H2, I2, rz, l1, l2, q2⟩ => ⟨I2.kIn, ?_⟩
  rw [hks]
  have e1 : us.length = n := r.length.symm.trans l1
  have e2 : ws.length = ks.length := rz.length.symm.trans l2
  refine wpAny_call (codeAny_mono (F.run X.A X.stack s2 H2 ⟨us, ks.zip ws⟩ (g us ws) (gV vs zs) Q (E σ) hr I2.env0 (hb.to s2 us ws I2.kIn e1 e2) (hb.rel r rz) q2) fun r s' hq => ?_)
  cases r with
  | error e => exact hx σ pins H2 s2 e s' I2 hq
  | ok fl =>
    cases fl with
    | ret u => exact I2.after hq
    | next => exact False.elim hq
    | brk => exact False.elim hq
    | cont => exact False.elim hq
end
/-! ### readings -/
section
variable {K : PySem.W.Frag} {σ : L2.St} {H : Hp} {Q : VK} {n bk ct : L2.St → Hp → Prop} {rt : VK} {C a dx : Addr} {fs : List (Str × V)} {f m : Str} {v x y : V} {ta tv : TE} {t tk : TA} {sp : Sp} {E : L2.St → XK} {dvs : List V}
theorem ps_fldK {X : Cx} {o value : Expr} {pos pos' : Pos} (hK : X.K = K) (ha : PE X o ta) (hv : PE X value tv) (hs : swapsWith value (some (.Attribute o f pos')) pos.line X.env = pure false) : PS X (.Assign [.Attribute o f pos'] value pos) (sFld K ta tv f) := by
  subst hK
  exact ps_fld ha hv hs
def rFld (K : PySem.W.Frag) (f : Str) : V → Hp → VK → Prop := fun x H Q => ∃ a C dx fs v, x = .ref a ∧ H a = some (.ins C dx fs) ∧ Cls K C ∧ NoAttr K C f ∧ fs.lookup f = some v ∧ Q v H
theorem i_fld (q : ta σ H fun x H1 => rFld K f x H1 Q) : tFld K ta f σ H Q := q
theorem i_fldI (h : H a = some (.ins C dx fs)) (c : Cls K C) (n : NoAttr K C f) (l : fs.lookup f = some v) (q : Q v H) : rFld K f (.ref a) H Q := ⟨a, C, dx, fs, v, rfl, h, c, n, l, q⟩
theorem i_sfld (q : tv σ H fun y H1 => ta σ H1 fun x H2 => ∃ a C dx fs, x = .ref a ∧ H2 a = some (.ins C dx fs) ∧ Cls K C ∧ NoAttr K C f ∧ fs.length < 1000 ∧ n σ (upd H2 a (.ins C dx (putF f y fs)))) : sFld K ta tv f ⟨n, rt, bk, ct⟩ σ H := q
theorem i_sfldI {fs' : List (Str × V)} {R : Hp → Prop} (h : H a = some (.ins C dx fs)) (c : Cls K C) (n : NoAttr K C f) (e : putF f y fs = fs') (l : fs.length < 1000) (q : R (upd H a (.ins C dx fs'))) :
    ∃ a' C dx fs, V.ref a = .ref a' ∧ H a' = some (.ins C dx fs) ∧ Cls K C ∧ NoAttr K C f ∧ fs.length < 1000 ∧ R (upd H a' (.ins C dx (putF f y fs))) := ⟨a, C, dx, fs, rfl, h, c, n, l, by rw [e]; exact q⟩
theorem i_meS (q : ta σ H fun x H1 => ∃ a dx fs, x = .ref a ∧ H1 a = some (.ins C dx fs) ∧ fs.lookup m = none ∧ t σ H1 fun vs H2 => sp (x :: (vs ++ dvs)) H2 Q (E σ)) : tMeS C m sp dvs E ta t σ H Q := q
theorem i_recv {R : Prop} (h : H a = some (.ins C dx fs)) (l : fs.lookup m = none) (q : R) : ∃ a' dx fs, V.ref a = .ref a' ∧ H a' = some (.ins C dx fs) ∧ fs.lookup m = none ∧ R := ⟨a, dx, fs, rfl, h, l, q⟩
theorem i_mkS (q : t σ H fun vs H1 => ∀ x dx, H1 x = none → H1 dx = none → dx ≠ x → sp (.ref x :: (vs ++ dvs)) (upd (upd H1 dx (.own x)) x (.ins C dx [])) (fun v H2 => v = .non ∧ Q (.ref x) H2) (E σ)) : tMkS C sp dvs E t σ H Q := q
theorem i_mkNS {k m : Nat} {gV : List V → List V → List V} (q : t σ H fun vs H1 => tk σ H1 fun zs H2 => vs.length = k ∧ zs.length = m ∧ ∀ x dx, H2 x = none → H2 dx = none → dx ≠ x → sp (gV (.ref x :: vs) zs) (upd (upd H2 dx (.own x)) x (.ins C dx [])) (fun v H3 => v = .non ∧ Q (.ref x) H3) (E σ)) :
    tMkNS C k m sp gV E t tk σ H Q := q
theorem i_callNS {k m : Nat} {gV : List V → List V → List V} (q : t σ H fun vs H1 => tk σ H1 fun zs H2 => vs.length = k ∧ zs.length = m ∧ sp (gV vs zs) H2 Q (E σ)) : tCallNS k m sp gV E t tk σ H Q := q
theorem i_callSD (q : t σ H fun vs H1 => sp (vs ++ dvs) H1 Q (E σ)) : tCallSD sp dvs E t σ H Q := q
theorem i_meth {E' : XK} (q : ta σ H fun x H1 => ∃ a dx fs, x = .ref a ∧ H1 a = some (.ins C dx fs) ∧ fs.lookup m = none ∧ t σ H1 fun vs H2 => sp (x :: (vs ++ dvs)) H2 Q E') : tMeth C m sp dvs E' ta t σ H Q := q
end
/-! ### enumerate, zip: pairs -/
theorem pi_enumK {X : Cx} {K : PySem.W.Frag} {e : Expr} {ta : TA} {p pos tpos : Pos} {elts : List Expr} {kk : Nat} (hK : X.K = K) (hg : Gl X "enumerate") (hm : X.mg "enumerate" = none) (ha : PA X [e] ta) (hs : starEach [e] X.env = [(false, eval e X.env)] := by rfl) :
    PI X (.Tuple elts kk tpos) (.Call (.Name "enumerate" p) [e] [] pos) (iEnum K ta) := by
  subst hK
  exact pi_enum hg hm ha hs
theorem pi_zipK {X : Cx} {K : PySem.W.Frag} {e e2 : Expr} {ta : TA} {p pos tpos : Pos} {elts : List Expr} {kk : Nat} (hK : X.K = K) (hg : Gl X "zip") (hm : X.mg "zip" = none) (ha : PA X [e, e2] ta)
    (hs : starEach [e, e2] X.env = (false, eval e X.env) :: starEach [e2] X.env := by rfl) (hpl : (backTo pos (starEach [e2] X.env)).any (·.1) = false := by rfl) :
    PI X (.Tuple elts kk tpos) (.Call (.Name "zip" p) [e, e2] [] pos) (iZip K ta) := by
  subst hK
  exact pi_zip hg hm ha hs hpl
section
variable {σ : L2.St} {H : Hp} {K : PySem.W.Frag} {Q : VK} {n bk ct : L2.St → Hp → Prop} {rt : VK} {tb : TS} {g : TG} {tt : TT} {te : TE} {ta : TA} {vs : List Nat} {a b D : Addr}
theorem i_forE (q : ta σ H fun vs H1 => ∃ a xs, vs = [.ref a] ∧ SqL K H1 a xs ∧ LOOP (Ite K a) g tb ⟨n, rt, bk, ct⟩ σ H1) : tFor (iEnum K ta) g tb ⟨n, rt, bk, ct⟩ σ H := q
theorem i_forZ (q : ta σ H fun vs H1 => ∃ a b xs ys, vs = [.ref a, .ref b] ∧ SqL K H1 a xs ∧ SqL K H1 b ys ∧ LOOP (Itz K a b) g tb ⟨n, rt, bk, ct⟩ σ H1) : tFor (iZip K ta) g tb ⟨n, rt, bk, ct⟩ σ H := q
theorem i_lcE (q : ta σ H fun us H1 => ∃ a xs, us = [.ref a] ∧ SqL K H1 a xs ∧ ∀ D, H1 D = none → COMP (Ite K a) g tt te vs σ H1 D Q) : tLc (iEnum K ta) g tt te vs σ H Q := q
theorem i_lcZ (q : ta σ H fun us H1 => ∃ a b xs ys, us = [.ref a, .ref b] ∧ SqL K H1 a xs ∧ SqL K H1 b ys ∧ ∀ D, H1 D = none → COMP (Itz K a b) g tt te vs σ H1 D Q) : tLc (iZip K ta) g tt te vs σ H Q := q
/-- pairs of a list of pairs -/
def YL (L : List (V × V)) : Nat → Hp → V → Hp → Prop := fun i H v H' => ∃ T x y, v = .ref T ∧ H T = none ∧ H' = upd H T (.tup [x, y]) ∧ L[i]? = some (x, y)
theorem walk_zipL {xs ys : List V} : Walk (Itz K a b) (xs.zip ys).length (fun H => SqL K H a xs ∧ SqL K H b ys) (YL (xs.zip ys)) :=
  (walk_zip (n := (xs.zip ys).length) (by rw [List.length_zip])).mono (fun _ h => h) fun i H x H' hi _ y => by
    obtain ⟨T, x, y, h1, h2, h3, h4, h5⟩ := y
    exact ⟨T, x, y, h1, h2, h3, by rw [List.getElem?_zip_eq_some]; exact ⟨h4, h5⟩⟩
def enumL (xs : List V) : List (V × V) := ((List.range xs.length).map fun i : Nat => V.int (i : Int)).zip xs
theorem enumL_len {xs : List V} : (enumL xs).length = xs.length := by
  unfold enumL
  rw [List.length_zip, List.length_map, List.length_range, Nat.min_self]
theorem walk_enumL {xs : List V} : Walk (Ite K a) (enumL xs).length (fun H => SqL K H a xs) (YL (enumL xs)) := by
  rw [enumL_len]
  refine walk_enum.mono (fun _ h => h) fun i H x H' hi _ y => ?_
  obtain ⟨T, x, y, h1, h2, h3, h4, h5⟩ := y
  refine ⟨T, x, y, h1, h2, h3, ?_⟩
  unfold enumL
  rw [List.getElem?_zip_eq_some]
  refine ⟨?_, h5⟩
  rw [List.getElem?_map, List.getElem?_range hi]
  exact h4
theorem enumL_at {xs : List V} {i : Nat} {x y : V} (h : (enumL xs)[i]? = some (x, y)) : x = .int (i : Int) ∧ xs[i]? = some y := by
  unfold enumL at h
  rw [List.getElem?_zip_eq_some] at h
  obtain ⟨h1, h2⟩ := h
  refine ⟨?_, h2⟩
  rw [List.getElem?_map] at h1
  cases e : (List.range xs.length)[i]? with
  | none =>
    rw [e] at h1
    cases h1
  | some k =>
    rw [e] at h1
    obtain ⟨hk, e2⟩ := List.getElem?_eq_some_iff.mp e
    rw [List.getElem_range] at e2
    subst e2
    exact (Option.some.inj h1).symm
theorem l_it {J : It} {m : Nat} {G : Hp → Prop} {Y : Nat → Hp → V → Hp → Prop} (w : Walk J m G Y) (Pv : Nat → L2.St → Hp → Prop) (h0 : Pv 0 σ H) (hG : ∀ i σ H, i ≤ m → Pv i σ H → G H)
    (hs : ∀ i x σ H H', i < m → Pv i σ H → Y i H x H' → g x σ H' fun σ2 H2 => tb ⟨Pv (i + 1), rt, n, Pv (i + 1)⟩ σ2 H2) (hd : ∀ σ H, Pv m σ H → n σ H) : LOOP J g tb ⟨n, rt, bk, ct⟩ σ H := for_it w Pv h0 hG hs hd
/-- for i, j in pairs -/
theorem l_pair {J : It} {G : Hp → Prop} {L : List (V × V)} {i j : Nat} (w : Walk J L.length G (YL L)) (Pv : Nat → L2.St → Hp → Prop) (h0 : Pv 0 σ H) (hG : ∀ k σ H, k ≤ L.length → Pv k σ H → G H)
    (hs : ∀ (k : Nat) x y σ H T, L[k]? = some (x, y) → Pv k σ H → H T = none → tb ⟨Pv (k + 1), rt, n, Pv (k + 1)⟩ ((σ.set i (some x)).set j (some y)) (upd H T (.tup [x, y]))) (hd : ∀ σ H, Pv L.length σ H → n σ H) :
    LOOP J (gTup K 2 (gCons (gName i) (gCons (gName j) gNil))) tb ⟨n, rt, bk, ct⟩ σ H := by
  refine l_it w Pv h0 hG (fun k v σ' H1 H2 hk hp hy => ?_) hd
  obtain ⟨T, x, y, rfl, nT, rfl, e⟩ := hy
  exact i_gtup upd_same rfl (i_gcons (i_gname (i_gcons (i_gname (i_gnil (hs k x y σ' H1 T e hp nT))))))
def coll (pr : V → V → Bool) (f : V → V → V) (L : List (V × V)) : List V := (L.filter fun p => pr p.1 p.2).map fun p => f p.1 p.2
theorem coll_snoc (pr : V → V → Bool) (f : V → V → V) (L : List (V × V)) (x y : V) : coll pr f (L ++ [(x, y)]) = coll pr f L ++ (if pr x y = true then [f x y] else []) := by
  unfold coll
  rw [List.filter_append, List.map_append]
  by_cases h : pr x y = true
  · rw [if_pos h]
    simp [h]
  · rw [if_neg h]
    simp [h]
/-- [f x y for x, y in pairs if pr x y] -/
theorem c_pair {J : It} {G : Hp → Prop} {L : List (V × V)} {i j : Nat} (pr : V → V → Bool) (f : V → V → V) (w : Walk J L.length G (YL L)) (hn : L.length ≤ 1000) (hD : H D = none) (hG : ∀ H', Same H H' → G H')
    (hw : ∀ v u, wipe (((wipe σ vs).set i (some v)).set j (some u)) vs = wipe σ vs)
    (ht : ∀ (k : Nat) x y, L[k]? = some (x, y) → ∀ H', Same H H' → ∀ R : Bool → Hp → Prop, R (pr x y) H' → tt (((wipe σ vs).set i (some x)).set j (some y)) H' R)
    (he : ∀ (k : Nat) x y, L[k]? = some (x, y) → pr x y = true → ∀ H', Same H H' → ∀ R : VK, (∀ H'', Same H' H'' → R (f x y) H'') → te (((wipe σ vs).set i (some x)).set j (some y)) H' R)
    (q : ∀ H', Same H H' → H' D = some (.lst (coll pr f L)) → Q (.ref D) H') : COMP J (gTup K 2 (gCons (gName i) (gCons (gName j) gNil))) tt te vs σ H D Q := by
  refine lc_it w (fun k H' => Same H H' ∧ H' D = some (.lst (coll pr f (L.take k)))) ⟨same_mut (Same.refl H) hD, by rw [upd_same, List.take_zero]; rfl⟩ (fun k H' _ h => hG H' h.1) ?_ ?_
  · rintro k v H1 H2 hk ⟨h1, h2⟩ ⟨T, x, y, rfl, nT, rfl, e⟩
    have s2 : Same H1 (upd H1 T (.tup [x, y])) := same_new nT
    have et : coll pr f (L.take (k + 1)) = coll pr f (L.take k) ++ (if pr x y = true then [f x y] else []) := by
      rw [List.take_add_one, e]
      exact coll_snoc pr f _ x y
    refine i_gtup upd_same rfl (i_gcons (i_gname (i_gcons (i_gname (i_gnil ⟨hw _ _, ?_⟩)))))
    refine ht k x y e _ (h1.trans s2) _ ?_
    by_cases h : pr x y = true
    · rw [if_pos h]
      refine he k x y e h _ (h1.trans s2) _ fun H3 h3 => ?_
      have h4 := h3 _ _ (s2 _ _ h2)
      refine ⟨_, h4, ?_, ?_, ?_⟩
      · refine small1000 ?_
        unfold coll
        rw [List.length_map]
        refine Nat.le_trans (List.length_filter_le _ _) ?_
        rw [List.length_take]
        omega
      · exact same_mut ((h1.trans s2).trans h3) hD
      · rw [upd_same, et, if_pos h]
    · rw [if_neg h]
      refine ⟨h1.trans s2, ?_⟩
      rw [s2 _ _ h2, et, if_neg h, List.append_nil]
  · rintro H1 ⟨h1, h2⟩
    rw [List.take_length] at h2
    exact q H1 h1 h2
end
theorem rep_one (v : V) : ∀ k : Nat, (List.replicate k [v]).flatten = List.replicate k v
  | 0 => rfl
  | k + 1 => by
    rw [List.replicate_succ, List.flatten_cons, rep_one v k, List.replicate_succ]
    rfl
/-- [v] * k -/
theorem i_rep {H : Hp} {Q : VK} {l : Addr} {v : V} {k : Nat} (h : H l = some (.lst [v])) (hk : k ≤ 1000) (q : ∀ p, H p = none → Q (.ref p) (upd H p (.lst (List.replicate k v)))) : rRep (.ref l) (.int (k : Int)) H Q := by
  refine ⟨l, k, [v], rfl, rfl, h, by omega, by omega, ?_, fun p np => ?_⟩
  · rw [Int.toNat_natCast]
    show 1 * k ≤ _
    rw [Nat.one_mul]
    exact Nat.le_of_lt (small1000 hk)
  · rw [Int.toNat_natCast, rep_one]
    exact q p np
end SW

open PySem L2 SW
local macro_rules | `(tactic| walk_at "sw1") => `(tactic| first
  | with_reducible refine i_seq ?_
  | with_reducible refine i_set ?_
  | with_reducible refine i_asg ?_
  | with_reducible refine i_var rfl ?_
  | with_reducible refine i_c ?_
  | with_reducible refine i_op ?_
  | with_reducible refine i_rI0 ?_
  | with_reducible refine i_cons ?_
  | with_reducible refine i_nil ?_
  | with_reducible refine i_call ?_
  | with_reducible refine i_cb ?_
  | with_reducible refine i_if ?_
  | with_reducible refine i_test ?_
  | with_reducible refine i_B ?_
  | with_reducible refine i_bl ?_
  | with_reducible refine i_blV ?_
  | with_reducible refine i_itT ?_
  | with_reducible refine i_itF ?_
  | with_reducible refine i_iteNT ?_
  | with_reducible refine i_iteNF ?_
  | with_reducible refine i_iteNN ?_
  | with_reducible refine i_ret ?_
  | with_reducible refine i_drop ?_
  | with_reducible refine i_next ?_
  | with_reducible refine i_un ?_
  | with_reducible refine i_rU ?_
  | with_reducible refine i_eqI ?_
  | with_reducible refine i_neI ?_
  | with_reducible refine i_eqS ?_
  | with_reducible refine i_neS ?_
  | with_reducible refine i_not ?_
  | with_reducible refine i_and ?_
  | with_reducible refine i_or ?_
  | with_reducible refine i_andV ?_
  | with_reducible refine i_orV ?_
  | with_reducible refine i_notV ?_
  | with_reducible refine i_ifE ?_
  | with_reducible refine i_chain ?_
  | with_reducible refine i_sub ?_
  | with_reducible refine i_lst ?_
  | with_reducible refine i_tup ?_
  | with_reducible refine i_for1 ?_
  | with_reducible refine i_for2 ?_
  | with_reducible refine i_for3 ?_
  | with_reducible refine i_forL ?_
  | with_reducible refine i_forT ?_
  | with_reducible refine i_lc1 ?_
  | with_reducible refine i_lc2 ?_
  | with_reducible refine i_lcL ?_
  | with_reducible refine i_lcT ?_
  | with_reducible refine i_gname ?_
  | with_reducible refine i_yes ?_
  | with_reducible refine i_callN ?_
  | with_reducible refine i_callW ?_
  | with_reducible refine i_callS ?_
  | with_reducible refine i_par ?_
  | with_reducible refine i_sl ?_
  | with_reducible refine i_nopart ?_
  | with_reducible refine i_part ?_
  | with_reducible refine i_partE ?_
  | with_reducible refine i_parE ?_
  | with_reducible refine i_ipI ?_
  | with_reducible refine i_asg2 ?_
  | with_reducible refine i_gcons ?_
  | with_reducible refine i_gnil ?_
  | with_reducible refine i_retN ?_
  | with_reducible refine i_brk ?_
  | with_reducible refine i_cont ?_)
local macro_rules | `(tactic| walk_at "hp") => `(tactic| first | assumption | exact upd_same | (refine upd_get (by assumption) ?_; walk_at "hp") | ((rw [upd_ne (by assumption)]); walk_at "hp"))
local macro_rules | `(tactic| walk_at "cc") => `(tactic| first | omega | decide | exact ⟨by decide, by decide⟩ | exact ⟨by omega, by omega⟩ | exact ⟨by decide, by decide, by decide⟩ | exact Or.inr ⟨by decide, by decide⟩ | exact Or.inl ⟨by decide, by decide⟩ | exact Or.inr ⟨by omega, by omega⟩ | exact Or.inl ⟨by omega, by omega⟩ | assumption)
local macro_rules | `(tactic| walk_at "sw2") => `(tactic| first
  | walk_at "sw1"
  | ((with_reducible refine' i_rI ?c1 ?_); (case c1 => (dsimp only; walk_at "cc")))
  | ((with_reducible refine' i_rI ?c1 ?_); (case c1 => (walk_at "cc")))
  | ((with_reducible refine' i_ixL ?c1 ?c2 ?_); (case c1 => walk_at "hp"); (case c2 => exact rfl))
  | ((with_reducible refine' i_ixT ?c1 ?c2 ?_); (case c1 => walk_at "hp"); (case c2 => exact rfl))
  | with_reducible refine i_isI ?_
  | with_reducible refine i_isB ?_
  | with_reducible refine i_isBB ?_
  | ((with_reducible refine' i_isL ?c1 ?_); (case c1 => walk_at "hp"))
  | ((with_reducible refine' i_isT ?c1 ?_); (case c1 => walk_at "hp"))
  | ((with_reducible refine' i_setL ?c1 ?c2 ?_); (case c1 => walk_at "hp"); (case c2 => exact rfl))
  | ((with_reducible refine' i_rI ?c1 ?_); (case c1 => first | (apply_assumption; done) | exact wide_div (b := 200) (by omega) (by omega) (by decide) (by decide)))
  | ((with_reducible refine' Exists.intro _ (Exists.intro _ (And.intro rfl (And.intro (Or.inl (SqL.of ?c1)) ?_)))); (case c1 => walk_at "hp"))
  | ((with_reducible refine' Exists.intro _ (Exists.intro _ (And.intro rfl (And.intro (Or.inr (SqT.of ?c1)) ?_)))); (case c1 => walk_at "hp"))
  | ((with_reducible refine' Exists.intro _ (And.intro (rfl : [V.int _] = [V.int _]) ?_)))
  | ((with_reducible refine' Exists.intro _ (Exists.intro _ (And.intro (rfl : [V.int _, V.int _] = [V.int _, V.int _]) ?_))))
  | (with_reducible refine And.intro (Nat.le_of_ble_eq_true rfl : List.length _ ≤ sizeLine) ?_))
local macro_rules | `(tactic| walk_at "sw3") => `(tactic| first
  | walk_at "sw2"
  | with_reducible refine i_fld ?_
  | ((with_reducible refine' i_fldI ?c1 ?c2 ?c3 ?c4 ?_); (case c1 => walk_at "hp"); (case c2 => assumption); (case c3 => assumption); (case c4 => exact rfl))
  | with_reducible refine i_sfld ?_
  | ((with_reducible refine' i_sfldI ?c1 ?c2 ?c3 ?c4 ?c5 ?_); (case c1 => walk_at "hp"); (case c2 => assumption); (case c3 => assumption); (case c4 => exact rfl); (case c5 => exact (Nat.le_of_ble_eq_true rfl)))
  | with_reducible refine i_meS ?_
  | with_reducible refine i_meth ?_
  | ((with_reducible refine' i_recv ?c1 ?c2 ?_); (case c1 => walk_at "hp"); (case c2 => exact rfl))
  | with_reducible refine i_mkS ?_
  | with_reducible refine i_mkNS ?_
  | with_reducible refine i_callNS ?_
  | with_reducible refine i_callSD ?_
  | with_reducible refine i_forE ?_
  | with_reducible refine i_forZ ?_
  | with_reducible refine i_lcE ?_
  | with_reducible refine i_lcZ ?_
  | ((with_reducible refine' i_aug ?c1 ?_); (case c1 => exact rfl))
  | with_reducible refine And.intro (rfl : V.non = V.non) ?_
  | with_reducible refine i_bm ?_
  | with_reducible refine i_bm0 ?_
  | ((with_reducible refine' i_lenL ?c1 ?_); (case c1 => walk_at "hp"))
  | ((with_reducible refine' i_lenT ?c1 ?_); (case c1 => walk_at "hp"))
  | ((with_reducible refine' i_listL ?c1 ?_); (case c1 => walk_at "hp"))
  | ((with_reducible refine' i_listT ?c1 ?_); (case c1 => walk_at "hp"))
  | ((with_reducible refine' i_tupleL ?c1 ?_); (case c1 => walk_at "hp"))
  | ((with_reducible refine' i_tupleT ?c1 ?_); (case c1 => walk_at "hp"))
  | ((with_reducible refine' i_tyL ?c1 ?_); (case c1 => walk_at "hp"))
  | ((with_reducible refine' i_app ?c1 ?c2 ?_); (case c1 => walk_at "hp"); (case c2 => first | assumption | omega | (simp; done) | ((simp only [List.length_map, List.length_append, List.length_take]); omega)))
  | ((with_reducible refine' i_slL ?c1 ?_); (case c1 => walk_at "hp"))
  | ((with_reducible refine' i_gtup ?c1 ?c2 ?_); (case c1 => walk_at "hp"); (case c2 => exact rfl)))
local macro_rules | `(tactic| walk_at "sw") => `(tactic| ((try dsimp only); repeat walk_at "sw3"))

namespace SW
open PySem L2
def top (i : Nat) : Stmt := PySem.Challenge.pw_slotwright_k43_whole_slack_is_met.main.body.getD i (.Pass ⟨0, 0, 0, 0⟩)
abbrev s_within : Stmt := top 6
abbrev s_check : Stmt := top 7
abbrev s_middle : Stmt := top 13
abbrev s_slack_of : Stmt := top 14
abbrev s_plain : Stmt := top 15
abbrev s_Clocks_init : Stmt := inClass (top 16) 0
abbrev s_Clocks_fall : Stmt := inClass (top 16) 1
abbrev s_Clocks_judge_word : Stmt := inClass (top 16) 3
abbrev s_Clocks_judge : Stmt := inClass (top 16) 4
abbrev s_Clocks_turn : Stmt := inClass (top 16) 5
abbrev s_Clocks_told : Stmt := inClass (top 16) 6
abbrev s_Clocks_width : Stmt := inClass (top 16) 7
abbrev s_wider : Stmt := top 17
abbrev s_law_start : Stmt := top 19
abbrev s_law_draw : Stmt := top 20
abbrev s_law_whole : Stmt := top 21
abbrev s_law_middle : Stmt := top 22
abbrev s_law_numbers : Stmt := top 23
abbrev s_law : Stmt := top 24
theorem sc_within : FnScope ["value", "low", "high"] ["value", "low", "high"] (defScope s_within) := ⟨rfl, rfl, rfl, by decide +kernel, rfl, by decide +kernel, by decide +kernel⟩
theorem sc_check : FnScope ["value", "low", "high"] ["value", "low", "high"] (defScope s_check) := ⟨rfl, rfl, rfl, by decide +kernel, rfl, by decide +kernel, by decide +kernel⟩
theorem sc_middle : FnScope ["numbers", "inner"] ["numbers"] (defScope s_middle) := ⟨rfl, rfl, rfl, by decide +kernel, rfl, by decide +kernel, by decide +kernel⟩
theorem sc_slack_of : FnScope ["err", "gain"] ["err", "gain"] (defScope s_slack_of) := ⟨rfl, rfl, rfl, by decide +kernel, rfl, by decide +kernel, by decide +kernel⟩
theorem sc_plain : FnScope ["value"] ["value"] (defScope s_plain) := ⟨rfl, rfl, rfl, by decide +kernel, rfl, by decide +kernel, by decide +kernel⟩
theorem sc_Clocks_init : FnScope ["self", "stands", "err", "gain", "stand"] ["self", "stands", "err", "gain"] (defScope s_Clocks_init) := ⟨rfl, rfl, rfl, by decide +kernel, rfl, by decide +kernel, by decide +kernel⟩
theorem sc_Clocks_fall : FnScope ["self", "at", "one"] ["self", "at"] (defScope s_Clocks_fall) := ⟨rfl, rfl, rfl, by decide +kernel, rfl, by decide +kernel, by decide +kernel⟩
theorem sc_Clocks_judge_word : FnScope ["self", "word", "at"] ["self", "word", "at"] (defScope s_Clocks_judge_word) := ⟨rfl, rfl, rfl, by decide +kernel, rfl, by decide +kernel, by decide +kernel⟩
theorem sc_Clocks_judge : FnScope ["self", "heard", "gains", "count", "at", "other", "word"] ["self", "heard", "gains"] (defScope s_Clocks_judge) := ⟨rfl, rfl, rfl, by decide +kernel, rfl, by decide +kernel, by decide +kernel⟩
theorem sc_Clocks_turn : FnScope ["self", "heard", "gains", "found", "at", "word", "one"] ["self", "heard", "gains"] (defScope s_Clocks_turn) := ⟨rfl, rfl, rfl, by decide +kernel, rfl, by decide +kernel, by decide +kernel⟩
theorem sc_Clocks_told : FnScope ["self", "stand", "one"] ["self"] (defScope s_Clocks_told) := ⟨rfl, rfl, rfl, by decide +kernel, rfl, by decide +kernel, by decide +kernel⟩
theorem sc_Clocks_width : FnScope ["self", "good", "stand"] ["self"] (defScope s_Clocks_width) := ⟨rfl, rfl, rfl, by decide +kernel, rfl, by decide +kernel, by decide +kernel⟩
theorem sc_wider : FnScope ["err", "gain", "slack", "most", "low", "high"] ["err", "gain"] (defScope s_wider) := ⟨rfl, rfl, rfl, by decide +kernel, rfl, by decide +kernel, by decide +kernel⟩
theorem sc_law_start : FnScope ["_law_script"] ["_law_script"] (defScope s_law_start) := ⟨rfl, rfl, rfl, by decide +kernel, rfl, by decide +kernel, by decide +kernel⟩
theorem sc_law_draw : FnScope ["_law_s", "_law_many", "_law_cell", "_law_found"] ["_law_s", "_law_many"] (defScope s_law_draw) := ⟨rfl, rfl, rfl, by decide +kernel, rfl, by decide +kernel, by decide +kernel⟩
theorem sc_law_whole : FnScope ["_law_x"] ["_law_x"] (defScope s_law_whole) := ⟨rfl, rfl, rfl, by decide +kernel, rfl, by decide +kernel, by decide +kernel⟩
theorem sc_law_middle : FnScope ["_law_words", "_law_rest", "_law_word"] ["_law_words"] (defScope s_law_middle) := ⟨rfl, rfl, rfl, by decide +kernel, rfl, by decide +kernel, by decide +kernel⟩
theorem sc_law_numbers : FnScope ["_law_row", "_law_count", "_law_x"] ["_law_row", "_law_count"] (defScope s_law_numbers) := ⟨rfl, rfl, rfl, by decide +kernel, rfl, by decide +kernel, by decide +kernel⟩
theorem sc_law : FnScope ["_law_script", "_law_s", "_law_top", "_law_fault", "_law_more", "_law_found", "_law_stands", "_law_heard", "_law_gains", "_law_after", "_law_at", "_law_wide", "_law_clocks", "_law_other", "_law_word"] ["_law_script"] (defScope s_law) := ⟨rfl, rfl, rfl, by decide +kernel, rfl, by decide +kernel, by decide +kernel⟩
structure Tx (K : PySem.W.Frag) (mg : Str → Option Value) where
  c_Clocks : Addr
  g_Clocks : mg "Clocks" = some (.ref c_Clocks)
  C_Clocks : Cls K c_Clocks
  N_Clocks_stands : NoAttr K c_Clocks "stands"
  N_Clocks_state : NoAttr K c_Clocks "state"
  N_Clocks_err : NoAttr K c_Clocks "err"
  N_Clocks_gain : NoAttr K c_Clocks "gain"
  f_within : Addr
  fd_within : FuncData
  F_within : Fun K "within" "within" s_within f_within fd_within
  b_within : Binds K fd_within ["value", "low", "high"] []
  g_within : mg "within" = some (.ref f_within)
  f_check : Addr
  fd_check : FuncData
  F_check : Fun K "check" "check" s_check f_check fd_check
  b_check : Binds K fd_check ["value", "low", "high"] []
  g_check : mg "check" = some (.ref f_check)
  f_middle : Addr
  fd_middle : FuncData
  F_middle : Fun K "middle" "middle" s_middle f_middle fd_middle
  b_middle : Binds K fd_middle ["numbers"] []
  g_middle : mg "middle" = some (.ref f_middle)
  f_slack_of : Addr
  fd_slack_of : FuncData
  F_slack_of : Fun K "slack_of" "slack_of" s_slack_of f_slack_of fd_slack_of
  b_slack_of : Binds K fd_slack_of ["err", "gain"] []
  g_slack_of : mg "slack_of" = some (.ref f_slack_of)
  f_plain : Addr
  fd_plain : FuncData
  F_plain : Fun K "plain" "plain" s_plain f_plain fd_plain
  b_plain : Binds K fd_plain ["value"] []
  g_plain : mg "plain" = some (.ref f_plain)
  f_Clocks_init : Addr
  fd_Clocks_init : FuncData
  F_Clocks_init : Fun K "__init__" "Clocks.__init__" s_Clocks_init f_Clocks_init fd_Clocks_init
  D_Clocks_init : FunD K "__init__" "Clocks.__init__" (defArgs s_Clocks_init) (defBody s_Clocks_init) (defScope s_Clocks_init) [] [("err", V.int 0), ("gain", V.int 0)] f_Clocks_init fd_Clocks_init
  m_Clocks_init : Meth K c_Clocks "__init__" f_Clocks_init
  f_Clocks_fall : Addr
  fd_Clocks_fall : FuncData
  F_Clocks_fall : Fun K "fall" "Clocks.fall" s_Clocks_fall f_Clocks_fall fd_Clocks_fall
  b_Clocks_fall : Binds K fd_Clocks_fall ["self", "at"] []
  m_Clocks_fall : Meth K c_Clocks "fall" f_Clocks_fall
  f_Clocks_judge_word : Addr
  fd_Clocks_judge_word : FuncData
  F_Clocks_judge_word : Fun K "judge_word" "Clocks.judge_word" s_Clocks_judge_word f_Clocks_judge_word fd_Clocks_judge_word
  b_Clocks_judge_word : Binds K fd_Clocks_judge_word ["self", "word", "at"] []
  m_Clocks_judge_word : Meth K c_Clocks "judge_word" f_Clocks_judge_word
  f_Clocks_judge : Addr
  fd_Clocks_judge : FuncData
  F_Clocks_judge : Fun K "judge" "Clocks.judge" s_Clocks_judge f_Clocks_judge fd_Clocks_judge
  b_Clocks_judge : Binds K fd_Clocks_judge ["self", "heard", "gains"] []
  m_Clocks_judge : Meth K c_Clocks "judge" f_Clocks_judge
  f_Clocks_turn : Addr
  fd_Clocks_turn : FuncData
  F_Clocks_turn : Fun K "turn" "Clocks.turn" s_Clocks_turn f_Clocks_turn fd_Clocks_turn
  b_Clocks_turn : Binds K fd_Clocks_turn ["self", "heard", "gains"] []
  m_Clocks_turn : Meth K c_Clocks "turn" f_Clocks_turn
  f_Clocks_told : Addr
  fd_Clocks_told : FuncData
  F_Clocks_told : Fun K "told" "Clocks.told" s_Clocks_told f_Clocks_told fd_Clocks_told
  b_Clocks_told : Binds K fd_Clocks_told ["self"] []
  m_Clocks_told : Meth K c_Clocks "told" f_Clocks_told
  f_Clocks_width : Addr
  fd_Clocks_width : FuncData
  F_Clocks_width : Fun K "width" "Clocks.width" s_Clocks_width f_Clocks_width fd_Clocks_width
  b_Clocks_width : Binds K fd_Clocks_width ["self"] []
  m_Clocks_width : Meth K c_Clocks "width" f_Clocks_width
  f_wider : Addr
  fd_wider : FuncData
  F_wider : Fun K "wider" "wider" s_wider f_wider fd_wider
  b_wider : Binds K fd_wider ["err", "gain"] []
  g_wider : mg "wider" = some (.ref f_wider)
  f_law_start : Addr
  fd_law_start : FuncData
  F_law_start : Fun K "_law_start" "_law_start" s_law_start f_law_start fd_law_start
  b_law_start : Binds K fd_law_start ["_law_script"] []
  g_law_start : mg "_law_start" = some (.ref f_law_start)
  f_law_draw : Addr
  fd_law_draw : FuncData
  F_law_draw : Fun K "_law_draw" "_law_draw" s_law_draw f_law_draw fd_law_draw
  b_law_draw : Binds K fd_law_draw ["_law_s", "_law_many"] []
  g_law_draw : mg "_law_draw" = some (.ref f_law_draw)
  f_law_whole : Addr
  fd_law_whole : FuncData
  F_law_whole : Fun K "_law_whole" "_law_whole" s_law_whole f_law_whole fd_law_whole
  b_law_whole : Binds K fd_law_whole ["_law_x"] []
  g_law_whole : mg "_law_whole" = some (.ref f_law_whole)
  f_law_middle : Addr
  fd_law_middle : FuncData
  F_law_middle : Fun K "_law_middle" "_law_middle" s_law_middle f_law_middle fd_law_middle
  b_law_middle : Binds K fd_law_middle ["_law_words"] []
  g_law_middle : mg "_law_middle" = some (.ref f_law_middle)
  f_law_numbers : Addr
  fd_law_numbers : FuncData
  F_law_numbers : Fun K "_law_numbers" "_law_numbers" s_law_numbers f_law_numbers fd_law_numbers
  b_law_numbers : Binds K fd_law_numbers ["_law_row", "_law_count"] []
  g_law_numbers : mg "_law_numbers" = some (.ref f_law_numbers)
  f_law : Addr
  fd_law : FuncData
  F_law : Fun K "law" "law" s_law f_law fd_law
  b_law : Binds K fd_law ["_law_script"] []
  g_law : mg "law" = some (.ref f_law)
  M_Clocks : Mk K c_Clocks f_Clocks_init
  t_FALLEN : Tok
  g_FALLEN : mg "FALLEN" = some (.int 1 t_FALLEN)
  t_GOOD : Tok
  g_GOOD : mg "GOOD" = some (.int 0 t_GOOD)
  t_LISTENS : Tok
  g_LISTENS : mg "LISTENS" = some (.int 2 t_LISTENS)
  t_MOST_CLOCKS : Tok
  g_MOST_CLOCKS : mg "MOST_CLOCKS" = some (.int 7 t_MOST_CLOCKS)
  z_abs : mg "abs" = none
  z_all : mg "all" = none
  z_any : mg "any" = none
  z_bool : mg "bool" = none
  z_enumerate : mg "enumerate" = none
  z_int : mg "int" = none
  z_isinstance : mg "isinstance" = none
  z_len : mg "len" = none
  z_list : mg "list" = none
  z_max : mg "max" = none
  z_min : mg "min" = none
  z_range : mg "range" = none
  z_sorted : mg "sorted" = none
  z_tuple : mg "tuple" = none
  z_zip : mg "zip" = none
  c_NetError : Addr
  g_NetError : mg "NetError" = some (.ref c_NetError)
  k_base : PySem.W.subIn K (.ref c_NetError) (.type "BaseException") = some true
  k_dict : PySem.W.hasDictIn K c_NetError = true
  k_type : PySem.W.typeIn K (.ref c_NetError) = some (.type "type")
  k_get : PySem.W.specialIn K (.builtin "object.__class__") "__get__" = some (some (.builtin "getset_descriptor.__get__"))
  k_tak : PySem.W.takesIn K (.builtin "object.__class__") = some true
  c_BadNumber : Addr
  g_BadNumber : mg "BadNumber" = some (.ref c_BadNumber)
  e_BadNumber : ErrC K c_BadNumber c_NetError
  x_BadNumber : PySem.W.excIn K c_BadNumber [.type "ValueError", .type "Exception", .type "BaseException", .type "object"] "ValueError.__new__" = true
  c_TooFew : Addr
  g_TooFew : mg "TooFew" = some (.ref c_TooFew)
  e_TooFew : ErrC K c_TooFew c_NetError
  x_TooFew : PySem.W.excIn K c_TooFew [.type "ValueError", .type "Exception", .type "BaseException", .type "object"] "ValueError.__new__" = true
  k_nd : [c_NetError, c_BadNumber, c_TooFew].Nodup
theorem kb_Clocks_init_err_gain {K : PySem.W.Frag} {mg : Str → Option Value} (T : Tx K mg) : ∃ mv : List Value, KBn K T.fd_Clocks_init ["self", "stands", "err", "gain"] 2 ["err", "gain"] (fun us ws => us ++ (((ws.drop 0).take 1) ++ ((ws.drop 1).take 1))) (fun vs zs => vs ++ (((zs.drop 0).take 1) ++ ((zs.drop 1).take 1))) :=
  T.D_Clocks_init.kbinds0 2 ["err", "gain"] [] (fun vs mz zs => vs ++ (((zs.drop 0).take 1) ++ ((zs.drop 1).take 1))) (by intro z; cases z) (fun q h => by simp at h ⊢; try (rcases h with rfl | rfl | rfl | rfl <;> simp); try (subst h; simp)) (fun a b c => a.append (((c.drop 0).take 1).append ((c.drop 1).take 1))) (fun D doc pm an cdv ct us mv ws h1 h2 h3 => by
    match us, h1, mv, h2, ws, h3 with
    | [_, _], _, [], _, [_, _], _ => exact rfl)
def spLaw (K : PySem.W.Frag) : Sp := fun vs H Q _ => ∃ (a : Addr) (ns : List Int), vs = [.ref a] ∧ SqL K H a (ns.map V.int) ∧ ns.length ≤ 63 ∧ (∀ z ∈ ns, Builtin.Int.intBits z ≤ 1048576) ∧ ∀ H', Q (.bl true) H'
section
variable {P : Program} {w : World} {K : PySem.W.Frag} {mg : Str → Option Value} {base : Heap}
theorem ok_law_start (T : Tx K mg) : FnOk P w K mg base CX0 1 T.f_law_start T.fd_law_start ["_law_script"] (spStart K) := by
  refine T.F_law_start.ok sc_law_start (fun vs H Q E h => ?_) (fun cdv A outer s H vs Q E hr h => ?_)
  · obtain ⟨a, ns, U, rfl, _⟩ := h
    rfl
  · obtain ⟨a, ns, U, rfl, hS, hU, q⟩ := h
    refine ⟨_, (pss_one (ps_ret (pe_lst (pa_cons (pe_callTy (call_listK (K := K) rfl) (by rfl) T.z_list bt_list (pa_cons (pe_slice (sl_listK (K := K) rfl) (pv 0) po_none (po_some pe_int)) pa_nil)) (pa_cons pe_int (pa_cons pe_int (pa_cons pe_int pa_nil))))))), ?_⟩
    walk_at "sw"
    refine ⟨a, _, rfl, hS, fun c nc => ?_⟩
    obtain ⟨ms, em⟩ := cut63 ns
    rw [em]
    have g1 : Gr [] U H U (upd H c (.lst (ms.map V.int))) := (Gr.refl hU).newM nc
    walk_at "sw"
    intro l nl
    have g2 := g1.new (o := .lst (ms.map V.int)) nl
    walk_at "sw"
    intro s ns'
    have g3 := g2.newM (o := .lst [.ref l, .int 0, .int 0, .int 90210]) ns'
    refine q s _ _ g3 ⟨⟨l, ms, 0, 0, 90210, upd_same, upd_same, Int.le_refl _, by omega, Int.le_refl _⟩, g2.vh.free ns'⟩ (g2.fresh ns')
theorem ok_law_draw (T : Tx K mg) : FnOk P w K mg base CX0 1 T.f_law_draw T.fd_law_draw ["_law_s", "_law_many"] spDraw := by
  refine T.F_law_draw.ok sc_law_draw (fun vs H Q E h => ?_) (fun cdv A outer s0 H vs Q E hr h => ?_)
  · obtain ⟨s, many, U, rfl, _⟩ := h
    rfl
  · obtain ⟨s, many, U, rfl, h0, h2, hU, D, q⟩ := h
    obtain ⟨⟨l, ns, i, b, e, hs, hl, hi, hi2, hb⟩, hn⟩ := D
    have hlU := hU _ _ hl
    have sl : s ≠ l := fun z => by
      subst z
      rw [hn] at hl
      cases hl
    refine ⟨_, (pss_cons (ps_if (pt_cmpR op_eq (pe_ix (ix_listK (K := K) rfl) (pv 0) pe_int (fun _ _ => rfl)) pe_int (nomark _))
      (pss_cons (ps_set (i := 2) sc_law_draw.nd rfl (Or.inl rfl) pe_int)
      (pss_cons (ps_if (pt_cmpR op_lt (pe_ix (ix_listK (K := K) rfl) (pv 0) pe_int (fun _ _ => rfl)) (pe_callB (call_lenK (K := K) rfl) (by rfl) T.z_len bt_len (pa_cons (pe_ix (ix_listK (K := K) rfl) (pv 0) pe_int (fun _ _ => rfl)) pa_nil)) (nomark _))
      (pss_cons (ps_set (i := 2) sc_law_draw.nd rfl (Or.inl rfl) (pe_ix (ix_listK (K := K) rfl) (pe_ix (ix_listK (K := K) rfl) (pv 0) pe_int (fun _ _ => rfl)) (pe_ix (ix_listK (K := K) rfl) (pv 0) pe_int (fun _ _ => rfl)) (fun _ _ => rfl)))
      (pss_one (ps_asg (pe_op op_add (pe_ix (ix_listK (K := K) rfl) (pv 0) pe_int (fun _ _ => rfl)) pe_int) (pg_sub (pv 0) pe_int set_list))))
      pss_nil)
      (pss_one (ps_if ((pw_or (pt_cmpR op_ge (pv 2) (pe_op op_pow pe_int pe_int) (nomark _)) (pw_or1 (pt_cmpR op_le (pv 2) (pe_un un_neg (pe_op op_pow pe_int pe_int)) (nomark _))))).pt
      (pss_one (ps_asg (pe_callB call_abs (by rfl) T.z_abs bt_abs (pa_cons (pv 2) pa_nil)) (pg_sub (pv 0) pe_int set_list)))
      (pss_cons (ps_asg (pe_op op_mod (pe_op op_add (pe_op op_add (pe_op op_mul (pe_ix (ix_listK (K := K) rfl) (pv 0) pe_int (fun _ _ => rfl)) pe_int) (pe_op op_mod (pv 2) pe_int)) pe_int) pe_int) (pg_sub (pv 0) pe_int set_list))
      (pss_one (ps_ret (pe_op op_mod (pe_op op_fdiv (pe_ix (ix_listK (K := K) rfl) (pv 0) pe_int (fun _ _ => rfl)) pe_int) (pv 1)))))))))
      pss_nil)
      (pss_cons (ps_set (i := 3) sc_law_draw.nd rfl (Or.inl rfl) (pe_op op_mod (pe_ix (ix_listK (K := K) rfl) (pv 0) pe_int (fun _ _ => rfl)) (pv 1)))
      (pss_cons (ps_asg (pe_op op_fdivW (pe_ix (ix_listK (K := K) rfl) (pv 0) pe_int (fun _ _ => rfl)) (pv 1)) (pg_sub (pv 0) pe_int set_list))
      (pss_one (ps_ret (pv 3)))))), ?_⟩
    have w3 : ∀ z : Int, CDivW z many := fun z => wide_div h0 (b := 200) (by omega) (by decide) (by decide)
    -- the end, from a heap that has changed at s alone
    have fin : ∀ (H1 : Hp) (i1 b1 e1 : Int) (r : Int), (∀ a, a ≠ s → H1 a = H a) → H1 s = some (.lst [.ref l, .int i1, .int b1, .int e1]) → 0 ≤ i1 → i1 ≤ ns.length → 0 ≤ b1 → 0 ≤ r → r < many → Q (.int r) H1 := by
      intro H1 i1 b1 e1 r ho h1 a1 a2 a3 a4 a5
      refine q r H1 a4 a5 (fun a o ha => ?_) ⟨⟨l, ns, i1, b1, e1, h1, hl, a1, a2, a3⟩, hn⟩ ho
      have ne : a ≠ s := fun z => by
        subst z
        rw [hn] at ha
        cases ha
      rw [ho a ne]
      exact hU a o ha
    have tail : ∀ (H1 : Hp) (i1 b1 e1 : Int), (∀ a, a ≠ s → H1 a = H a) → H1 s = some (.lst [.ref l, .int i1, .int b1, .int e1]) → 0 ≤ i1 → i1 ≤ ns.length → 0 ≤ b1 →
        Q (.int (b1 % many)) (upd H1 s (.lst [.ref l, .int i1, .int (b1 / many), .int e1])) := by
      intro H1 i1 b1 e1 ho h1 a1 a2 a3
      refine fin _ i1 (b1 / many) e1 _ (fun a ne => ?_) upd_same a1 a2 (Int.ediv_nonneg a3 (by omega)) (Int.emod_nonneg _ (by omega)) (Int.emod_lt_of_pos _ h0)
      rw [upd_ne ne]
      exact ho a ne
    have ab : ∀ c : Int, 0 ≤ (if c < 0 then -c else c) := fun c => by split <;> omega
    have md : ∀ c : Int, 0 ≤ c % many ∧ c % many < many := fun c => ⟨Int.emod_nonneg _ (by omega), Int.emod_lt_of_pos _ h0⟩
    have un : ∀ (o : HO) (a : Addr), a ≠ s → upd H s o a = H a := fun o a ne => upd_ne ne
    have un2 : ∀ (o o' : HO) (a : Addr), a ≠ s → upd (upd H s o) s o' a = H a := fun o o' a ne => by rw [upd_ne ne, upd_ne ne]
    walk_at "sw"
    refine i_ite (fun h => ?_) (fun h => ?_)
    · walk_at "sw"
      refine i_ite (fun h => ?_) (fun h => ?_)
      · obtain ⟨j, rfl⟩ : ∃ j : Nat, i = (j : Int) := ⟨i.toNat, by omega⟩
        rw [List.length_map] at h
        have hj : j < ns.length := by omega
        walk_at "sw"
        refine i_ixL hlU (at_of (j := j) (v := V.int ns[j]) rfl (by rw [List.getElem?_map, List.getElem?_eq_getElem hj]; rfl)) ?_
        walk_at "sw"
        refine i_ite (fun h => ?_) (fun h => ?_)
        · walk_at "sw"
          exact tail _ (j + 1) _ e (un2 _ _) upd_same (by omega) (by omega) (ab _)
        · walk_at "sw"
          refine i_ite (fun h => ?_) (fun h => ?_)
          · walk_at "sw"
            exact tail _ (j + 1) _ e (un2 _ _) upd_same (by omega) (by omega) (ab _)
          · walk_at "sw"
            exact fin _ (j + 1) b _ _ (un2 _ _) upd_same (by omega) (by omega) hb (md _).1 (md _).2
      · walk_at "sw"
        refine i_ite (fun h => ?_) (fun h => ?_)
        · walk_at "sw"
          exact tail _ i _ e (un _) upd_same hi hi2 (ab _)
        · walk_at "sw"
          refine i_ite (fun h => ?_) (fun h => ?_)
          · walk_at "sw"
            exact tail _ i _ e (un _) upd_same hi hi2 (ab _)
          · walk_at "sw"
            exact fin _ i b _ _ (un _) upd_same hi hi2 hb (md _).1 (md _).2
    · walk_at "sw"
      exact tail H i b e (fun a _ => rfl) hs hi hi2 hb

theorem ok_law_whole (T : Tx K mg) : FnOk P w K mg base CX0 1 T.f_law_whole T.fd_law_whole ["_law_x"] spWhole := by
  refine T.F_law_whole.ok sc_law_whole (fun vs H Q E h => ?_) (fun cdv A outer s H vs Q E hr h => ?_)
  · obtain ⟨v, rfl, _⟩ := h
    rfl
  · obtain ⟨v, rfl, ⟨i, rfl⟩, q⟩ := h
    refine ⟨_, (pss_one (ps_ret (pe_and (pe_callB (call_isiKK (K := K) rfl) (by rfl) T.z_isinstance bt_isinstance (pa_cons (pv 0) (pa_cons (pe_bltn (v := .ty "int") (by rfl) T.z_int bt_int rfl) pa_nil))) (pe_one (pe_not (pe_callB (call_isiKK (K := K) rfl) (by rfl) T.z_isinstance bt_isinstance (pa_cons (pv 0) (pa_cons (pe_bltn (v := .ty "bool") (by rfl) T.z_bool bt_bool rfl) pa_nil)))))))), ?_⟩
    walk_at "sw"
    exact q

/-! ### within, check, plain -/
/-- a value that is a number, a truth or None -/
inductive Pl : V → Prop where
  | int (i : Int) : Pl (.int i)
  | bl (b : Bool) : Pl (.bl b)
  | non : Pl .non
def okN (lo hi : Int) : V → Bool
  | .int i => decide (lo ≤ i) && decide (i ≤ hi)
  | _ => false
def isN : V → Bool
  | .int _ => true
  | _ => false
theorem i_isNI {K : PySem.W.Frag} {H : Hp} {Q : VK} (q : Q (.bl false) H) : rIsi K [.non, .ty "int"] H Q := ⟨.non, .ty "int", .type "NoneType", .type "int", false, rfl, .ty _, .base .non, kit_ty (by decide +kernel), q⟩
theorem i_isBI {K : PySem.W.Frag} {H : Hp} {Q : VK} {b : Bool} (q : Q (.bl true) H) : rIsi K [.bl b, .ty "int"] H Q := ⟨.bl b, .ty "int", .type "bool", .type "int", true, rfl, .ty _, .base (.bl _), kit_ty (by decide +kernel), q⟩
def spWithin : Sp := fun vs H Q _ => ∃ (v : V) (lo hi : Int), vs = [v, .int lo, .int hi] ∧ Pl v ∧ Q (.bl (okN lo hi v)) H
theorem ok_within (T : Tx K mg) : FnOk P w K mg base CX0 1 T.f_within T.fd_within ["value", "low", "high"] spWithin := by
  refine T.F_within.ok sc_within (fun vs H Q E h => ?_) (fun cdv A outer s0 H vs Q E hr h => ?_)
  · obtain ⟨v, lo, hi, rfl, _⟩ := h
    rfl
  · obtain ⟨v, lo, hi, rfl, pl, q⟩ := h
    refine ⟨_, (pss_cons (ps_if ((pw_or (pt_not (pt_val (pe_callB (call_isiKK (K := K) rfl) (by rfl) T.z_isinstance bt_isinstance (pa_cons (pv 0) (pa_cons (pe_bltn (v := .ty "int") (by rfl) T.z_int bt_int rfl) pa_nil))))) (pw_or1 (pt_val (pe_callB (call_isiKK (K := K) rfl) (by rfl) T.z_isinstance bt_isinstance (pa_cons (pv 0) (pa_cons (pe_bltn (v := .ty "bool") (by rfl) T.z_bool bt_bool rfl) pa_nil))))))).pt
      (pss_one (ps_ret pe_bl))
      pss_nil)
      (pss_one (ps_ret (pe_chain op_le op_le (pv 1) (pv 0) (pv 2))))), ?_⟩
    cases pl with
    | int i =>
      walk_at "sw"
      by_cases h : lo ≤ i
      · rw [decide_eq_true h]
        walk_at "sw"
        have e : okN lo hi (.int i) = decide (i ≤ hi) := by
          show (decide (lo ≤ i) && decide (i ≤ hi)) = _
          rw [decide_eq_true h, Bool.true_and]
        rw [← e]
        exact q
      · rw [decide_eq_false h]
        walk_at "sw"
        have e : okN lo hi (.int i) = false := by
          show (decide (lo ≤ i) && decide (i ≤ hi)) = _
          rw [decide_eq_false h, Bool.false_and]
        rw [← e]
        exact q
    | bl b =>
      walk_at "sw"
      refine i_isBI ?_
      walk_at "sw"
      exact q
    | non =>
      walk_at "sw"
      refine i_isNI ?_
      walk_at "sw"
      exact q
def spCheck (C : Addr) : Sp := fun vs H Q E => ∃ (v : V) (lo hi : Int), vs = [v, .int lo, .int hi] ∧ Pl v ∧ (okN lo hi v = true → Q .non H) ∧ (okN lo hi v = false → E (.ref C) none H)
theorem ok_check (T : Tx K mg) : FnOk P w K mg base (L2.CX P w) 2 T.f_check T.fd_check ["value", "low", "high"] (spCheck T.c_BadNumber) := by
  refine T.F_check.okX sc_check (fun vs H Q E h => ?_) (fun cdv A outer s0 H vs Q E hr h => ?_)
  · obtain ⟨v, lo, hi, rfl, _⟩ := h
    rfl
  · obtain ⟨v, lo, hi, rfl, pl, q, qe⟩ := h
    refine ⟨_, (pss_one (ps_if (pt_not (pt_val (pe_call (ok_within T) (hr.mono (by decide)) (by rfl) T.g_within T.F_within.kp T.b_within .nil pass0 (pa_cons (pv 0) (pa_cons (pv 1) (pa_cons (pv 2) pa_nil))))))
      (pss_one (ps_raise rfl (takes_of rfl rfl rfl rfl) (pmk_own0 PySem.F.excBase_ValueError T.x_BadNumber T.g_BadNumber T.e_BadNumber.kp T.e_BadNumber.raises (by rfl))))
      pss_nil)), ?_⟩
    walk_at "sw"
    refine ⟨v, lo, hi, rfl, pl, ?_⟩
    walk_at "sw"
    cases h : okN lo hi v with
    | true =>
      walk_at "sw"
      exact q h
    | false =>
      walk_at "sw"
      exact qe h

/-! ### the program's middle -/
def spMiddle (C : Addr) : Sp := fun vs H Q E => ∃ (a : Addr) (ns : List Int), vs = [.ref a] ∧ H a = some (.lst (ns.map V.int)) ∧ ns.length < 60 ∧ (ns.length < 3 → E (.ref C) none H) ∧
  (3 ≤ ns.length → ∀ (s : List Int) (x y : Int) (H' : Hp), s.Perm ns → s.Pairwise (· ≤ ·) → s[1]? = some x → s[ns.length - 2]? = some y → Same H H' → Q (.int ((x + y) / 2)) H')
theorem ok_middle (T : Tx K mg) : FnOk P w K mg base (L2.CX P w) 1 T.f_middle T.fd_middle ["numbers"] (spMiddle T.c_TooFew) := by
  refine T.F_middle.okX sc_middle (fun vs H Q E h => ?_) (fun cdv A outer s0 H vs Q E hr h => ?_)
  · obtain ⟨a, ns, rfl, _⟩ := h
    rfl
  · obtain ⟨a, ns, rfl, ha, h60, qe, q⟩ := h
    refine ⟨_, (pss_cons (ps_if (pt_cmpR op_lt (pe_callB (call_lenK (K := K) rfl) (by rfl) T.z_len bt_len (pa_cons (pv 0) pa_nil)) pe_int (nomark _))
      (pss_one (ps_raise rfl (takes_of rfl rfl rfl rfl) (pmk_own0 PySem.F.excBase_ValueError T.x_TooFew T.g_TooFew T.e_TooFew.kp T.e_TooFew.raises (by rfl))))
      pss_nil)
      (pss_cons (ps_set (i := 1) sc_middle.nd rfl (Or.inl rfl) (pe_slice (sl_listK (K := K) rfl) (pe_callB (cr_sortedK (K := K) rfl) (by rfl) T.z_sorted bt_sorted (pa_cons (pv 0) pa_nil)) (po_some pe_int) (po_some (pe_un un_neg pe_int))))
      (pss_one (ps_ret (pe_op op_fdiv (pe_op op_add (pe_ix (ix_listK (K := K) rfl) (pv 1) pe_int (fun _ _ => rfl)) (pe_ix (ix_listK (K := K) rfl) (pv 1) (pe_un un_neg pe_int) (fun _ _ => rfl))) pe_int))))), ?_⟩
    walk_at "sw"
    rw [List.length_map]
    refine i_ite (fun h => ?_) (fun h => ?_)
    · walk_at "sw"
      exact qe (by omega)
    · walk_at "sw"
      refine ⟨a, ns, rfl, SqL.of ha, by omega, fun s p hp hs np => ?_⟩
      have h3 : 3 ≤ ns.length := by omega
      have ls : s.length = ns.length := hp.length_eq
      walk_at "sw"
      intro r nr
      have hl : (s.map V.int).length = ns.length := by rw [List.length_map, ls]
      rw [cut_mid _ (by omega)]
      have e1 : s[1]? = some s[1] := List.getElem?_eq_getElem (by omega)
      have e2 : s[ns.length - 2]? = some s[ns.length - 2] := List.getElem?_eq_getElem (by omega)
      have lr : (((s.map V.int).drop 1).take ((s.map V.int).length - 2)).length = ns.length - 2 := by
        rw [List.length_take, List.length_drop, hl]
        omega
      have g1 : atI (((s.map V.int).drop 1).take ((s.map V.int).length - 2)) 0 = some (.int s[1]) := at_of (j := 0) rfl (by
        rw [List.getElem?_take_of_lt (by omega), List.getElem?_drop, List.getElem?_map, Nat.add_zero, e1]
        rfl)
      have g2 : atI (((s.map V.int).drop 1).take ((s.map V.int).length - 2)) (-1) = some (.int s[ns.length - 2]) := at_last (by
        rw [lr, List.getElem?_take_of_lt (by omega), List.getElem?_drop, List.getElem?_map, show 1 + (ns.length - 2 - 1) = ns.length - 2 by omega, e2]
        rfl) (by omega)
      walk_at "sw"
      refine i_ixL upd_same g1 ?_
      walk_at "sw"
      refine i_ixL upd_same g2 ?_
      walk_at "sw"
      exact q h3 s _ _ _ hp hs e1 e2 ((same_new np).trans (same_new nr))

def spPlain : Sp := fun vs H Q _ => ∃ v, vs = [v] ∧ Pl v ∧ Q (.bl (isN v)) H
theorem ok_plain (T : Tx K mg) : FnOk P w K mg base CX0 1 T.f_plain T.fd_plain ["value"] spPlain := by
  refine T.F_plain.ok sc_plain (fun vs H Q E h => ?_) (fun cdv A outer s0 H vs Q E hr h => ?_)
  · obtain ⟨v, rfl, _⟩ := h
    rfl
  · obtain ⟨v, rfl, pl, q⟩ := h
    refine ⟨_, (pss_one (ps_ret (pe_and (pe_callB (call_isiKK (K := K) rfl) (by rfl) T.z_isinstance bt_isinstance (pa_cons (pv 0) (pa_cons (pe_bltn (v := .ty "int") (by rfl) T.z_int bt_int rfl) pa_nil))) (pe_one (pe_not (pe_callB (call_isiKK (K := K) rfl) (by rfl) T.z_isinstance bt_isinstance (pa_cons (pv 0) (pa_cons (pe_bltn (v := .ty "bool") (by rfl) T.z_bool bt_bool rfl) pa_nil)))))))), ?_⟩
    cases pl with
    | int i =>
      walk_at "sw"
      exact q
    | bl b =>
      walk_at "sw"
      refine i_isBI ?_
      walk_at "sw"
      exact q
    | non =>
      walk_at "sw"
      refine i_isNI ?_
      walk_at "sw"
      exact q
def spSlackOf : Sp := fun vs H Q _ => ∃ e g : Int, vs = [.int e, .int g] ∧ Q (.int (2 * e + 2 * g)) H
theorem ok_slack_of (T : Tx K mg) : FnOk P w K mg base CX0 1 T.f_slack_of T.fd_slack_of ["err", "gain"] spSlackOf := by
  refine T.F_slack_of.ok sc_slack_of (fun vs H Q E h => ?_) (fun cdv A outer s0 H vs Q E hr h => ?_)
  · obtain ⟨e, g, rfl, _⟩ := h
    rfl
  · obtain ⟨e, g, rfl, q⟩ := h
    refine ⟨_, (pss_one (ps_ret (pe_op op_add (pe_op op_mul pe_int (pv 0)) (pe_op op_mul pe_int (pv 1))))), ?_⟩
    walk_at "sw"
    exact q
/-! ### the greatest and the least -/
def mx : List Int → Int
  | [] => 0
  | [x] => x
  | x :: y :: r => max x (mx (y :: r))
def mn : List Int → Int
  | [] => 0
  | [x] => x
  | x :: y :: r => min x (mn (y :: r))
theorem mx_is : ∀ {ns : List Int}, ns ≠ [] → mx ns ∈ ns ∧ ∀ y ∈ ns, y ≤ mx ns
  | [], h => absurd rfl h
  | [x], _ => ⟨List.mem_singleton.mpr rfl, fun y hy => by rw [List.mem_singleton.mp hy]; exact Int.le_refl _⟩
  | x :: y :: r, _ => by
    obtain ⟨h1, h2⟩ := mx_is (ns := y :: r) (by simp)
    show max x (mx (y :: r)) ∈ _ ∧ ∀ z ∈ _, z ≤ max x (mx (y :: r))
    refine ⟨?_, fun z hz => ?_⟩
    · by_cases h : x ≤ mx (y :: r)
      · rw [Int.max_eq_right h]
        exact List.mem_cons_of_mem _ h1
      · rw [Int.max_eq_left (by omega)]
        exact List.mem_cons_self
    · rcases List.mem_cons.mp hz with e | e
      · omega
      · have := h2 z e
        omega
theorem mn_is : ∀ {ns : List Int}, ns ≠ [] → mn ns ∈ ns ∧ ∀ y ∈ ns, mn ns ≤ y
  | [], h => absurd rfl h
  | [x], _ => ⟨List.mem_singleton.mpr rfl, fun y hy => by rw [List.mem_singleton.mp hy]; exact Int.le_refl _⟩
  | x :: y :: r, _ => by
    obtain ⟨h1, h2⟩ := mn_is (ns := y :: r) (by simp)
    show min x (mn (y :: r)) ∈ _ ∧ ∀ z ∈ _, min x (mn (y :: r)) ≤ z
    refine ⟨?_, fun z hz => ?_⟩
    · by_cases h : x ≤ mn (y :: r)
      · rw [Int.min_eq_left h]
        exact List.mem_cons_self
      · rw [Int.min_eq_right (by omega)]
        exact List.mem_cons_of_mem _ h1
    · rcases List.mem_cons.mp hz with e | e
      · omega
      · have := h2 z e
        omega
theorem mx_eq {ns : List Int} {m : Int} (h : m ∈ ns) (hm : ∀ y ∈ ns, y ≤ m) : m = mx ns := by
  obtain ⟨h1, h2⟩ := mx_is (ns := ns) (fun z => by rw [z] at h; cases h)
  have := h2 m h
  have := hm _ h1
  omega
theorem mn_eq {ns : List Int} {m : Int} (h : m ∈ ns) (hm : ∀ y ∈ ns, m ≤ y) : m = mn ns := by
  obtain ⟨h1, h2⟩ := mn_is (ns := ns) (fun z => by rw [z] at h; cases h)
  have := h2 m h
  have := hm _ h1
  omega
theorem i_mx {K : PySem.W.Frag} {H : Hp} {Q : VK} {a : Addr} {ns : List Int} (h : H a = some (.lst (ns.map V.int))) (h0 : ns ≠ []) (q : Q (.int (mx ns)) H) : rMax K [.ref a] H Q :=
  ⟨a, ns, rfl, SqL.of h, List.length_pos_iff.mpr h0, fun m h1 h2 => by rw [mx_eq h1 h2]; exact q⟩
theorem i_mn {K : PySem.W.Frag} {H : Hp} {Q : VK} {a : Addr} {ns : List Int} (h : H a = some (.lst (ns.map V.int))) (h0 : ns ≠ []) (q : Q (.int (mn ns)) H) : rMin K [.ref a] H Q :=
  ⟨a, ns, rfl, SqL.of h, List.length_pos_iff.mpr h0, fun m h1 h2 => by rw [mn_eq h1 h2]; exact q⟩
/-! ### the clocks -/
def fsC (A B : Addr) (e g : Int) : List (Str × V) := [("stands", .ref A), ("state", .ref B), ("err", .int e), ("gain", .int g)]
structure ClAt (C : Addr) (H : Hp) (p A B : Addr) (st ss : List Int) (e g : Int) : Prop where
  ob : ∃ dx, H p = some (.ins C dx (fsC A B e g))
  hA : H A = some (.lst (st.map V.int))
  hB : H B = some (.lst (ss.map V.int))
  ne : A ≠ B
  le : ss.length = st.length
  l4 : 4 ≤ st.length
  l7 : st.length ≤ 7
theorem ClAt.same {C : Addr} {H H' : Hp} {p A B : Addr} {st ss : List Int} {e g : Int} (h : ClAt C H p A B st ss e g) (s : Same H H') : ClAt C H' p A B st ss e g := by
  obtain ⟨⟨dx, h1⟩, h2, h3, h4, h5, h6, h7⟩ := h
  exact ⟨⟨dx, s _ _ h1⟩, s _ _ h2, s _ _ h3, h4, h5, h6, h7⟩
def intsV (xs : List V) : List Int := xs.filterMap fun v => match v with | .int i => some i | _ => none
def wideE (xs : List V) : V → V → Nat
  | .int e, .int g => if mx (intsV xs) - mn (intsV xs) > 2 * e + 2 * g then 2 else 0
  | _, _ => 2
/-- what making is answered with: 0 made, 1 too few, 2 a bad number -/
def initE (xs : List V) (e g : V) : Nat :=
  if xs.length < 4 then 1 else if 7 < xs.length then 2 else if (okN 0 1000 e && okN 0 1000 g && xs.all isN) = true then wideE xs e g else 2
def spCInit (CT CB C : Addr) : Sp := fun vs H Q E => ∃ (p l dx : Addr) (xs : List V) (e g : V), vs = [.ref p, .ref l, e, g] ∧ H p = some (.ins C dx []) ∧ H l = some (.lst xs) ∧ xs.length ≤ 20 ∧ (∀ x ∈ xs, Pl x) ∧ Pl e ∧ Pl g ∧
  (initE xs e g = 1 → ∀ H', Same H H' → E (.ref CT) none H') ∧ (initE xs e g = 2 → ∀ H', Same H H' → E (.ref CB) none H') ∧
  (initE xs e g = 0 → ∀ (ns : List Int) (ei gi : Int) (A B : Addr) (H' : Hp), xs = ns.map V.int → e = .int ei → g = .int gi → 0 ≤ ei → ei ≤ 1000 → 0 ≤ gi → gi ≤ 1000 → mx ns - mn ns ≤ 2 * ei + 2 * gi → H A = none → H B = none → ClAt C H' p A B ns (List.replicate ns.length 0) ei gi →
    (∀ b o, H b = some o → b ≠ p → H' b = some o) → Q .non H')
theorem okN_int {lo hi : Int} {v : V} (h : okN lo hi v = true) : ∃ i, v = .int i ∧ lo ≤ i ∧ i ≤ hi := by
  cases v with
  | int i =>
    have : (decide (lo ≤ i) && decide (i ≤ hi)) = true := h
    simp at this
    exact ⟨i, rfl, this.1, this.2⟩
  | _ => cases h
theorem all_int : ∀ {xs : List V}, xs.all isN = true → ∃ ns : List Int, xs = ns.map V.int
  | [], _ => ⟨[], rfl⟩
  | x :: r, h => by
    rw [List.all_cons, Bool.and_eq_true] at h
    obtain ⟨ns, e⟩ := all_int h.2
    cases x with
    | int i => exact ⟨i :: ns, by rw [e]; rfl⟩
    | _ => cases h.1
theorem fm_int (ns : List Int) : intsV (ns.map V.int) = ns := by
  unfold intsV
  rw [List.filterMap_map]
  induction ns with
  | nil => rfl
  | cons x r ih => rw [List.filterMap_cons]; simp [ih]
theorem ok_Clocks_init (T : Tx K mg) : FnOk P w K mg base (L2.CX P w) 3 T.f_Clocks_init T.fd_Clocks_init ["self", "stands", "err", "gain"] (spCInit T.c_TooFew T.c_BadNumber T.c_Clocks) := by
  refine T.F_Clocks_init.okX sc_Clocks_init (fun vs H Q E h => ?_) (fun cdv A outer s0 H vs Q E hr h => ?_)
  · obtain ⟨p, l, dx, xs, e, g, rfl, _⟩ := h
    rfl
  · obtain ⟨p, l, dx, xs, e, g, rfl, hp, hl, h20, hpl, pe, pg, q1, q2, q0⟩ := h
    have cC := T.C_Clocks
    have n1 := T.N_Clocks_stands
    have n2 := T.N_Clocks_state
    have n3 := T.N_Clocks_err
    have n4 := T.N_Clocks_gain
    refine ⟨_, (pss_cons (ps_if (pt_cmpR op_lt (pe_callB (call_lenK (K := K) rfl) (by rfl) T.z_len bt_len (pa_cons (pv 1) pa_nil)) pe_int (nomark _))
      (pss_one (ps_raise rfl (takes_of rfl rfl rfl rfl) (pmk_own0 PySem.F.excBase_ValueError T.x_TooFew T.g_TooFew T.e_TooFew.kp T.e_TooFew.raises (by rfl))))
      pss_nil)
      (pss_cons (ps_if (pt_cmpR op_gt (pe_callB (call_lenK (K := K) rfl) (by rfl) T.z_len bt_len (pa_cons (pv 1) pa_nil)) (pe_glob (v := .int 7) (by rfl) T.g_MOST_CLOCKS ⟨_, rfl⟩) (nomark _))
      (pss_one (ps_raise rfl (takes_of rfl rfl rfl rfl) (pmk_own0 PySem.F.excBase_ValueError T.x_BadNumber T.g_BadNumber T.e_BadNumber.kp T.e_BadNumber.raises (by rfl))))
      pss_nil)
      (pss_cons (ps_expr (pe_callS (ok_check T) (hr.mono (by decide)) (by rfl) T.g_check T.F_check.kp T.b_check (fun σ => passAt (takes_of rfl rfl rfl rfl) σ) (pa_cons (pv 2) (pa_cons pe_int (pa_cons pe_int pa_nil)))))
      (pss_cons (ps_expr (pe_callS (ok_check T) (hr.mono (by decide)) (by rfl) T.g_check T.F_check.kp T.b_check (fun σ => passAt (takes_of rfl rfl rfl rfl) σ) (pa_cons (pv 3) (pa_cons pe_int (pa_cons pe_int pa_nil)))))
      (pss_cons (ps_if (pt_not (pt_val (pe_callB (cr_allK (K := K) rfl (by rfl)) (by rfl) T.z_all bt_all (pa_cons (pe_lc (own := [("stand", 4)]) (by rfl) sc_Clocks_init.nd (pi_listK (K := K) rfl (pv 1)) (blkOk_by (own := [("stand", 4)]) (N := ["self", "stands", "err", "gain", "stand"]) (sc := defScope s_Clocks_init) (by decide +kernel)) (fun _ _ _ _ _ => (pg_name (i := 4) sc_Clocks_init.nd rfl (Or.inl rfl))) (fun _ _ _ _ _ => pts_nil) (fun _ _ _ _ _ => (pe_call (ok_plain T) (hr.mono (by decide)) (by rfl) T.g_plain T.F_plain.kp T.b_plain .nil pass0 (pa_cons (pv 4) pa_nil)))) pa_nil))))
      (pss_one (ps_raise rfl (takes_of rfl rfl rfl rfl) (pmk_own0 PySem.F.excBase_ValueError T.x_BadNumber T.g_BadNumber T.e_BadNumber.kp T.e_BadNumber.raises (by rfl))))
      pss_nil)
      (pss_cons (ps_if (pt_cmpR op_gt (pe_op op_sub (pe_callB (cr_maxK (K := K) rfl (by rfl)) (by rfl) T.z_max bt_max (pa_cons (pv 1) pa_nil)) (pe_callB (cr_minK (K := K) rfl (by rfl)) (by rfl) T.z_min bt_min (pa_cons (pv 1) pa_nil))) (pe_call (ok_slack_of T) (hr.mono (by decide)) (by rfl) T.g_slack_of T.F_slack_of.kp T.b_slack_of .nil pass0 (pa_cons (pv 2) (pa_cons (pv 3) pa_nil))) (nomark _))
      (pss_one (ps_raise rfl (takes_of rfl rfl rfl rfl) (pmk_own0 PySem.F.excBase_ValueError T.x_BadNumber T.g_BadNumber T.e_BadNumber.kp T.e_BadNumber.raises (by rfl))))
      pss_nil)
      (pss_cons (ps_fldK (K := K) rfl (pv 0) (pe_callTy (call_listK (K := K) rfl) (by rfl) T.z_list bt_list (pa_cons (pv 1) pa_nil)) rfl)
      (pss_cons (ps_fldK (K := K) rfl (pv 0) (pe_op op_rep (pe_lst (pa_cons (pe_glob (v := .int 0) (by rfl) T.g_GOOD ⟨_, rfl⟩) pa_nil)) (pe_callB (call_lenK (K := K) rfl) (by rfl) T.z_len bt_len (pa_cons (pv 1) pa_nil))) rfl)
      (pss_cons (ps_fldK (K := K) rfl (pv 0) (pv 2) rfl)
      (pss_one (ps_fldK (K := K) rfl (pv 0) (pv 3) rfl))))))))))), ?_⟩
    walk_at "sw"
    refine i_ite (fun h => ?_) (fun h => ?_)
    · walk_at "sw"
      exact q1 (by unfold initE; rw [if_pos (by omega)]) H (Same.refl H)
    walk_at "sw"
    have e1 : initE xs e g = if 7 < xs.length then 2 else if (okN 0 1000 e && okN 0 1000 g && xs.all isN) = true then wideE xs e g else 2 := by
      unfold initE
      rw [if_neg (by omega)]
    refine i_ite (fun h7 => ?_) (fun h7 => ?_)
    · walk_at "sw"
      exact q2 (by rw [e1, if_pos (by omega)]) H (Same.refl H)
    rw [if_neg (by omega)] at e1
    walk_at "sw"
    refine ⟨e, 0, 1000, rfl, pe, fun he => ?_, fun he => ?_⟩
    · walk_at "sw"
      refine ⟨g, 0, 1000, rfl, pg, fun hg => ?_, fun hg => ?_⟩
      · walk_at "sw"
        refine ⟨l, rfl, ⟨_, SqL.of hl⟩, fun D nD => c_map (xs := xs) (fun v => .bl (isN v)) (SqL.of hl) nD (by omega) (fun v => rfl) ?_ ?_⟩
        · intro x hx H' hH R hR
          walk_at "sw"
          refine ⟨x, rfl, hpl x hx, ?_⟩
          exact hR
        · have s1 : Same H (upd H D (.lst (xs.map fun v => .bl (isN v)))) := same_new nD
          have hD : (upd H D (.lst (xs.map fun v => .bl (isN v)))) D = some (.lst ((xs.map isN).map V.bl)) := by
            rw [upd_same, List.map_map]
            rfl
          obtain ⟨H1, eH1⟩ : ∃ X, X = upd H D (.lst (xs.map fun v => .bl (isN v))) := ⟨_, rfl⟩
          rw [← eH1] at s1 hD ⊢
          have hl1 := s1 _ _ hl
          have hp1 := s1 _ _ hp
          walk_at "sw"
          refine i_all hD ?_
          rw [show (xs.map isN).all id = xs.all isN by rw [List.all_map]; rfl]
          walk_at "sw"
          cases ha : xs.all isN with
          | false =>
            walk_at "sw"
            exact q2 (by rw [e1, ha]; simp) H1 s1
          | true =>
            obtain ⟨ns, rfl⟩ := all_int ha
            obtain ⟨ei, rfl, ei0, ei1⟩ := okN_int he
            obtain ⟨gi, rfl, gi0, gi1⟩ := okN_int hg
            rw [List.length_map] at h h7 h20
            have h0 : ns ≠ [] := fun z => by
              rw [z] at h
              exact h (by decide)
            have e2 : initE (ns.map V.int) (.int ei) (.int gi) = if mx ns - mn ns > 2 * ei + 2 * gi then 2 else 0 := by
              rw [e1, he, hg, ha]
              show (if mx (intsV (ns.map V.int)) - mn (intsV (ns.map V.int)) > 2 * ei + 2 * gi then 2 else 0) = _
              rw [fm_int]
            walk_at "sw"
            refine i_mx hl1 h0 ?_
            walk_at "sw"
            refine i_mn hl1 h0 ?_
            walk_at "sw"
            refine ⟨ei, gi, rfl, ?_⟩
            walk_at "sw"
            refine i_ite (fun hz => ?_) (fun hz => ?_)
            · walk_at "sw"
              exact q2 (by rw [e2, if_pos hz]) H1 s1
            · walk_at "sw"
              intro A nA
              have pA : p ≠ A := ne_of_none hp1 nA
              have hl2 : (upd H1 A (.lst (ns.map V.int))) l = some (.lst (ns.map V.int)) := upd_get nA hl1
              have hp2 := upd_get (o := .lst (ns.map V.int)) nA hp1
              walk_at "sw"
              have lp : l ≠ p := fun z => by
                rw [z, hp] at hl
                cases hl
              intro B0 nB0
              have nB1 : (upd H1 A (.lst (ns.map V.int))) B0 = none := by
                have pB : B0 ≠ p := fun z => by
                  rw [z, upd_same] at nB0
                  cases nB0
                rwa [upd_ne pB] at nB0
              walk_at "sw"
              rw [List.length_map]
              refine i_rep upd_same (by omega) fun B nB => ?_
              rw [List.map_replicate.symm]
              walk_at "sw"
              have pB : p ≠ B := fun z => by
                rw [← z, upd_ne (ne_of_none upd_same nB0), upd_same] at nB
                cases nB
              have AB : A ≠ B := fun z => by
                have : (upd (upd H1 A (.lst (ns.map V.int))) p (.ins T.c_Clocks dx (putF "stands" (V.ref A) []))) A = some (.lst (ns.map V.int)) := by rw [upd_ne pA.symm, upd_same]
                rw [← z, upd_get nB0 this] at nB
                cases nB
              have AB0 : A ≠ B0 := fun z => by
                rw [← z, upd_same] at nB1
                cases nB1
              have nB2 : H1 B = none := by
                have b0 : B ≠ B0 := fun z => by
                  rw [z, upd_same] at nB
                  cases nB
                rwa [upd_ne b0, upd_ne pB.symm, upd_ne AB.symm] at nB
              have nB3 : H1 B0 = none := by rwa [upd_ne AB0.symm] at nB1
              refine q0 (by rw [e2, if_neg hz]) ns ei gi A B _ rfl rfl rfl ei0 ei1 gi0 gi1 (by omega) (s1.free nA) (s1.free nB2) ⟨⟨dx, upd_same⟩, ?_, ?_, AB, List.length_replicate, by omega, by omega⟩ fun b o hb hbp => ?_
              · rw [upd_ne pA.symm, upd_ne pA.symm, upd_ne pA.symm, upd_ne AB, upd_ne AB0, upd_ne pA.symm, upd_same]
              · rw [upd_ne pB.symm, upd_ne pB.symm, upd_ne pB.symm, upd_same]
              · have hb1 := s1 _ _ hb
                rw [upd_ne hbp, upd_ne hbp, upd_ne hbp, upd_ne (ne_of_none hb1 nB2), upd_ne (ne_of_none hb1 nB3), upd_ne hbp, upd_ne (ne_of_none hb1 nA)]
                exact hb1
      · exact q2 (by rw [e1, hg]; simp) H (Same.refl H)
    · exact q2 (by rw [e1, he]; simp) H (Same.refl H)

def spFall (CT CB C : Addr) : Sp := fun vs H Q E => ∃ (p A B : Addr) (v : V) (st ss : List Int) (e g : Int), vs = [.ref p, v] ∧ Pl v ∧ ClAt C H p A B st ss e g ∧
  (okN 0 (st.length - 1) v = false → ∀ H', Same H H' → E (.ref CB) none H') ∧ (okN 0 (st.length - 1) v = true → (ss.any fun s => !decide (s = 0)) = true → ∀ H', Same H H' → E (.ref CT) none H') ∧
  ((ss.any fun s => !decide (s = 0)) = false → ∀ (k : Nat) (H' : Hp), v = .int k → k < st.length → ClAt C H' p A B st (ss.set k 1) e g → (∀ b o, H b = some o → b ≠ B → H' b = some o) → Q .non H')
theorem ok_Clocks_fall (T : Tx K mg) : FnOk P w K mg base (L2.CX P w) 3 T.f_Clocks_fall T.fd_Clocks_fall ["self", "at"] (spFall T.c_TooFew T.c_BadNumber T.c_Clocks) := by
  refine T.F_Clocks_fall.okX sc_Clocks_fall (fun vs H Q E h => ?_) (fun cdv A outer s0 H vs Q E hr h => ?_)
  · obtain ⟨p, A, B, v, st, ss, e, g, rfl, _⟩ := h
    rfl
  · obtain ⟨p, A, B, v, st, ss, e, g, rfl, pl, cl, qb, qt, q⟩ := h
    have cC := T.C_Clocks
    have n1 := T.N_Clocks_stands
    have n2 := T.N_Clocks_state
    obtain ⟨⟨dx, hp⟩, hA, hB, AB, hlen, l4, l7⟩ := id cl
    unfold fsC at hp
    refine ⟨_, (pss_cons (ps_expr (pe_callS (ok_check T) (hr.mono (by decide)) (by rfl) T.g_check T.F_check.kp T.b_check (fun σ => passAt (takes_of rfl rfl rfl rfl) σ) (pa_cons (pv 1) (pa_cons pe_int (pa_cons (pe_op op_sub (pe_callB (call_lenK (K := K) rfl) (by rfl) T.z_len bt_len (pa_cons (pe_fldK (K := K) rfl (pv 0) rfl) pa_nil)) pe_int) pa_nil)))))
      (pss_cons (ps_if (pt_val (pe_callB (cr_anyK (K := K) rfl (by rfl)) (by rfl) T.z_any bt_any (pa_cons (pe_lc (own := [("one", 2)]) (by rfl) sc_Clocks_fall.nd (pi_listK (K := K) rfl (pe_fldK (K := K) rfl (pv 0) rfl)) (blkOk_by (own := [("one", 2)]) (N := ["self", "at", "one"]) (sc := defScope s_Clocks_fall) (by decide +kernel)) (fun _ _ _ _ _ => (pg_name (i := 2) sc_Clocks_fall.nd rfl (Or.inl rfl))) (fun _ _ _ _ _ => pts_nil) (fun _ _ _ _ _ => (pe_cmpR op_ne (pv 2) (pe_glob (v := .int 0) (by rfl) T.g_GOOD ⟨_, rfl⟩) (nomark _)))) pa_nil)))
      (pss_one (ps_raise rfl (takes_of rfl rfl rfl rfl) (pmk_own0 PySem.F.excBase_ValueError T.x_TooFew T.g_TooFew T.e_TooFew.kp T.e_TooFew.raises (by rfl))))
      pss_nil)
      (pss_one (ps_asg (pe_glob (v := .int 1) (by rfl) T.g_FALLEN ⟨_, rfl⟩) (pg_sub (pe_fldK (K := K) rfl (pv 0) rfl) (pv 1) set_list))))), ?_⟩
    walk_at "sw"
    rw [List.length_map]
    refine ⟨v, 0, _, rfl, pl, fun hk => ?_, fun hk => qb hk H (Same.refl H)⟩
    obtain ⟨i, rfl, i0, i1⟩ := okN_int hk
    obtain ⟨k, rfl⟩ : ∃ k : Nat, i = k := ⟨i.toNat, by omega⟩
    walk_at "sw"
    refine ⟨B, rfl, ⟨_, SqL.of hB⟩, fun D nD => c_map (xs := ss.map V.int) (fun v => match v with | .int r => .bl (!decide (r = 0)) | _ => .non) (SqL.of hB) nD (by rw [List.length_map]; omega) (fun v => rfl) ?_ ?_⟩
    · intro x hx H' hH R hR
      obtain ⟨r, hr', rfl⟩ := List.mem_map.mp hx
      walk_at "sw"
      exact hR
    · rw [List.map_map]
      have s1 : Same H (upd H D (.lst (ss.map ((fun v => match v with | .int r => .bl (!decide (r = 0)) | _ => .non) ∘ V.int)))) := same_new nD
      have hD : (upd H D (.lst (ss.map ((fun v => match v with | .int r => .bl (!decide (r = 0)) | _ => .non) ∘ V.int)))) D = some (.lst ((ss.map fun r => !decide (r = 0)).map V.bl)) := by
        rw [upd_same, List.map_map]
        rfl
      obtain ⟨H1, eH1⟩ : ∃ X, X = upd H D (.lst (ss.map ((fun v => match v with | .int r => .bl (!decide (r = 0)) | _ => .non) ∘ V.int))) := ⟨_, rfl⟩
      rw [← eH1] at s1 hD ⊢
      have hp1 := s1 _ _ hp
      have hB1 := s1 _ _ hB
      have hA1 := s1 _ _ hA
      walk_at "sw"
      refine i_any hD ?_
      rw [show (ss.map fun r => !decide (r = 0)).any id = ss.any (fun s => !decide (s = 0)) by rw [List.any_map]; rfl]
      walk_at "sw"
      cases ha : ss.any fun s => !decide (s = 0) with
      | true =>
        walk_at "sw"
        exact qt hk ha H1 s1
      | false =>
        walk_at "sw"
        refine i_setL hB1 (j := k) ?_ ?_
        · rw [List.length_map]
          exact ixN_of rfl (by omega)
        · walk_at "sw"
          have pB : p ≠ B := ne_of hp1 hB1 (by intro z; cases z)
          refine q ha k _ rfl (by omega) ⟨⟨dx, by rw [upd_ne pB]; exact hp1⟩, by rw [upd_ne AB]; exact hA1, by rw [upd_same, List.map_set], AB, by rw [List.length_set]; exact hlen, l4, l7⟩ fun b o hb hbB => ?_
          rw [upd_ne hbB]
          exact s1 _ _ hb
/-! ### the words -/
def isNo : V → Bool
  | .non => true
  | _ => false
def wordOk (st ss : List Int) (e : Int) (k : Nat) (v : V) : Bool :=
  if ss.getD k 0 = 0 then okN (st.getD k 0) (st.getD k 0 + e) v else if ss.getD k 0 = 2 then isNo v else isNo v || isN v
def spWord (CB C : Addr) : Sp := fun vs H Q E => ∃ (p A B : Addr) (v : V) (k : Nat) (st ss : List Int) (e g : Int), vs = [.ref p, v, .int k] ∧ Pl v ∧ k < st.length ∧ ClAt C H p A B st ss e g ∧
  (wordOk st ss e k v = true → Q .non H) ∧ (wordOk st ss e k v = false → E (.ref CB) none H)
theorem at_int {ns : List Int} {k : Nat} (h : k < ns.length) : atI (ns.map V.int) (k : Int) = some (.int (ns.getD k 0)) := at_of (j := k) rfl (by
  rw [List.getElem?_map, List.getElem?_eq_getElem h]
  simp [List.getD, List.getElem?_eq_getElem h])
theorem ok_Clocks_judge_word (T : Tx K mg) : FnOk P w K mg base (L2.CX P w) 3 T.f_Clocks_judge_word T.fd_Clocks_judge_word ["self", "word", "at"] (spWord T.c_BadNumber T.c_Clocks) := by
  refine T.F_Clocks_judge_word.okX sc_Clocks_judge_word (fun vs H Q E h => ?_) (fun cdv A outer s0 H vs Q E hr h => ?_)
  · obtain ⟨p, A, B, v, k, st, ss, e, g, rfl, _⟩ := h
    rfl
  · obtain ⟨p, A, B, v, k, st, ss, e, g, rfl, pl, hk, cl, q, qe⟩ := h
    have cC := T.C_Clocks
    have n1 := T.N_Clocks_stands
    have n2 := T.N_Clocks_state
    have n3 := T.N_Clocks_err
    obtain ⟨⟨dx, hp⟩, hA, hB, AB, hlen, l4, l7⟩ := id cl
    unfold fsC at hp
    have aS := at_int (ns := ss) (k := k) (by omega)
    have aT := at_int (ns := st) (k := k) hk
    refine ⟨_, (pss_one (ps_if (pt_cmpR op_eq (pe_ix (ix_listK (K := K) rfl) (pe_fldK (K := K) rfl (pv 0) rfl) (pv 2) (fun _ _ => rfl)) (pe_glob (v := .int 0) (by rfl) T.g_GOOD ⟨_, rfl⟩) (nomark _))
      (pss_one (ps_expr (pe_callS (ok_check T) (hr.mono (by decide)) (by rfl) T.g_check T.F_check.kp T.b_check (fun σ => passAt (takes_of rfl rfl rfl rfl) σ) (pa_cons (pv 1) (pa_cons (pe_ix (ix_listK (K := K) rfl) (pe_fldK (K := K) rfl (pv 0) rfl) (pv 2) (fun _ _ => rfl)) (pa_cons (pe_op op_add (pe_ix (ix_listK (K := K) rfl) (pe_fldK (K := K) rfl (pv 0) rfl) (pv 2) (fun _ _ => rfl)) (pe_fldK (K := K) rfl (pv 0) rfl)) pa_nil))))))
      (pss_one (ps_if (pt_cmpR op_eq (pe_ix (ix_listK (K := K) rfl) (pe_fldK (K := K) rfl (pv 0) rfl) (pv 2) (fun _ _ => rfl)) (pe_glob (v := .int 2) (by rfl) T.g_LISTENS ⟨_, rfl⟩) (nomark _))
      (pss_one (ps_if (pt_cmpR op_notN (pv 1) pe_non (nomark _))
      (pss_one (ps_raise rfl (takes_of rfl rfl rfl rfl) (pmk_own0 PySem.F.excBase_ValueError T.x_BadNumber T.g_BadNumber T.e_BadNumber.kp T.e_BadNumber.raises (by rfl))))
      pss_nil))
      (pss_one (ps_if ((pw_and (pt_cmpR op_notN (pv 1) pe_non (nomark _)) (pw_and1 (pt_not (pt_val (pe_call (ok_plain T) (hr.mono (by decide)) (by rfl) T.g_plain T.F_plain.kp T.b_plain .nil pass0 (pa_cons (pv 1) pa_nil))))))).pt
      (pss_one (ps_raise rfl (takes_of rfl rfl rfl rfl) (pmk_own0 PySem.F.excBase_ValueError T.x_BadNumber T.g_BadNumber T.e_BadNumber.kp T.e_BadNumber.raises (by rfl))))
      pss_nil)))))), ?_⟩
    walk_at "sw"
    refine i_ixL hB aS ?_
    walk_at "sw"
    refine i_ite (fun h => ?_) (fun h => ?_)
    · have e1 : wordOk st ss e k v = okN (st.getD k 0) (st.getD k 0 + e) v := by
        unfold wordOk
        rw [if_pos h]
      rw [e1] at q qe
      walk_at "sw"
      refine i_ixL hA aT ?_
      walk_at "sw"
      refine i_ixL hA aT ?_
      walk_at "sw"
      exact ⟨v, _, _, rfl, pl, q, qe⟩
    · walk_at "sw"
      refine i_ixL hB aS ?_
      walk_at "sw"
      refine i_ite (fun h2 => ?_) (fun h2 => ?_)
      · have e1 : wordOk st ss e k v = isNo v := by
          unfold wordOk
          rw [if_neg h, if_pos h2]
        rw [e1] at q qe
        cases pl with
        | int i =>
          walk_at "sw"
          refine i_iteN (fun _ => ?_) (fun z => nomatch z)
          exact qe rfl
        | bl b =>
          walk_at "sw"
          refine i_iteN (fun _ => ?_) (fun z => nomatch z)
          exact qe rfl
        | non =>
          walk_at "sw"
          refine i_iteN (fun z => absurd rfl z) (fun _ => ?_)
          walk_at "sw"
          exact q rfl
      · have e1 : wordOk st ss e k v = (isNo v || isN v) := by
          unfold wordOk
          rw [if_neg h, if_neg h2]
        rw [e1] at q qe
        cases pl with
        | int i =>
          walk_at "sw"
          refine i_iteN (fun _ => ?_) (fun z => nomatch z)
          walk_at "sw"
          refine ⟨_, rfl, .int i, ?_⟩
          walk_at "sw"
          exact q rfl
        | bl b =>
          walk_at "sw"
          refine i_iteN (fun _ => ?_) (fun z => nomatch z)
          walk_at "sw"
          refine ⟨_, rfl, .bl b, ?_⟩
          walk_at "sw"
          exact qe rfl
        | non =>
          walk_at "sw"
          refine i_iteN (fun z => absurd rfl z) (fun _ => ?_)
          walk_at "sw"
          exact q rfl
/-! ### a turn judged -/
/-- lists of values, by their addresses -/
abbrev Rows (H : Hp) (as : List Addr) (rows : List (List V)) : Prop := Paired (fun a r => H a = some (.lst r)) as rows
def rowOk (st ss : List Int) (e : Int) (r : List V) : Bool := decide (r.length = st.length) && (List.range r.length).all fun k => wordOk st ss e k (r.getD k .non)
def atOk (st ss : List Int) (e g : Int) (k : Nat) (r : List V) (v : V) : Bool := decide (ss.getD k 0 = 1) || (okN 0 g v && rowOk st ss e r)
def turnOk (st ss : List Int) (e g : Int) (rows : List (List V)) (gs : List V) : Bool :=
  decide (rows.length = st.length) && decide (gs.length = st.length) && (List.range st.length).all fun k => atOk st ss e g k (rows.getD k []) (gs.getD k .non)
def spJudge (CB C : Addr) : Sp := fun vs H Q E => ∃ (p A B h l : Addr) (as : List Addr) (rows : List (List V)) (gs : List V) (st ss : List Int) (e g : Int), vs = [.ref p, .ref h, .ref l] ∧ ClAt C H p A B st ss e g ∧
  H h = some (.lst (as.map V.ref)) ∧ Rows H as rows ∧ H l = some (.lst gs) ∧ (∀ r ∈ rows, r.length ≤ 100 ∧ ∀ v ∈ r, Pl v) ∧ (∀ v ∈ gs, Pl v) ∧
  (turnOk st ss e g rows gs = true → ∀ H', Same H H' → Q .non H') ∧ (turnOk st ss e g rows gs = false → ∀ H', Same H H' → E (.ref CB) none H')
theorem all_no {n k : Nat} {f : Nat → Bool} (h : k < n) (e : f k = false) : (List.range n).all f = false := by
  cases z : (List.range n).all f with
  | false => rfl
  | true =>
    rw [List.all_eq_true] at z
    rw [z k (List.mem_range.mpr h)] at e
    cases e
theorem all_yes {n : Nat} {f : Nat → Bool} (h : ∀ k, k < n → f k = true) : (List.range n).all f = true := List.all_eq_true.mpr fun k hk => h k (List.mem_range.mp hk)
theorem getD_at {α : Type} {xs : List α} {k : Nat} {d x : α} (h : xs[k]? = some x) : xs.getD k d = x := by simp [List.getD, h]
theorem ok_Clocks_judge (T : Tx K mg) : FnOk P w K mg base (L2.CX P w) 4 T.f_Clocks_judge T.fd_Clocks_judge ["self", "heard", "gains"] (spJudge T.c_BadNumber T.c_Clocks) := by
  refine T.F_Clocks_judge.okX sc_Clocks_judge (fun vs H Q E h => ?_) (fun cdv A outer s0 H vs Q E hr h => ?_)
  · obtain ⟨p, A, B, h, l, as, rows, gs, st, ss, e, g, rfl, _⟩ := h
    rfl
  · obtain ⟨p, A, B, h, l, as, rows, gs, st, ss, e, g, rfl, cl, hh, hr', hl, pr, pg, q, qe⟩ := h
    have cC := T.C_Clocks
    have n1 := T.N_Clocks_stands
    have n2 := T.N_Clocks_state
    have n3 := T.N_Clocks_err
    have n4 := T.N_Clocks_gain
    obtain ⟨⟨dx, hp⟩, hA, hB, AB, hlen, l4, l7⟩ := id cl
    unfold fsC at hp
    refine ⟨_, (pss_cons (ps_set (i := 3) sc_Clocks_judge.nd rfl (Or.inl rfl) (pe_callB (call_lenK (K := K) rfl) (by rfl) T.z_len bt_len (pa_cons (pe_fldK (K := K) rfl (pv 0) rfl) pa_nil)))
      (pss_cons (ps_if ((pw_or (pt_cmpR op_ne (pe_callB (call_lenK (K := K) rfl) (by rfl) T.z_len bt_len (pa_cons (pv 1) pa_nil)) (pv 3) (nomark _)) (pw_or1 (pt_cmpR op_ne (pe_callB (call_lenK (K := K) rfl) (by rfl) T.z_len bt_len (pa_cons (pv 2) pa_nil)) (pv 3) (nomark _))))).pt
      (pss_one (ps_raise rfl (takes_of rfl rfl rfl rfl) (pmk_own0 PySem.F.excBase_ValueError T.x_BadNumber T.g_BadNumber T.e_BadNumber.kp T.e_BadNumber.raises (by rfl))))
      pss_nil)
      (pss_one (ps_for (passes_of rfl) rfl (pi_range1 (by rfl) T.z_range (pa_cons (pv 3) pa_nil)) (pg_name (i := 4) sc_Clocks_judge.nd rfl (Or.inl rfl))
      (pss_one (ps_if (pt_cmpR op_ne (pe_ix (ix_listK (K := K) rfl) (pe_fldK (K := K) rfl (pv 0) rfl) (pv 4) (fun _ _ => rfl)) (pe_glob (v := .int 1) (by rfl) T.g_FALLEN ⟨_, rfl⟩) (nomark _))
      (pss_cons (ps_if ((pw_or (pt_cmpR op_ne (pe_callB (call_lenK (K := K) rfl) (by rfl) T.z_len bt_len (pa_cons (pe_ix (ix_listK (K := K) rfl) (pv 1) (pv 4) (fun _ _ => rfl)) pa_nil)) (pv 3) (nomark _)) (pw_or1 (pt_not (pt_val (pe_call (ok_within T) (hr.mono (by decide)) (by rfl) T.g_within T.F_within.kp T.b_within .nil pass0 (pa_cons (pe_ix (ix_listK (K := K) rfl) (pv 2) (pv 4) (fun _ _ => rfl)) (pa_cons pe_int (pa_cons (pe_fldK (K := K) rfl (pv 0) rfl) pa_nil))))))))).pt
      (pss_one (ps_raise rfl (takes_of rfl rfl rfl rfl) (pmk_own0 PySem.F.excBase_ValueError T.x_BadNumber T.g_BadNumber T.e_BadNumber.kp T.e_BadNumber.raises (by rfl))))
      pss_nil)
      (pss_one (ps_for (passes_of rfl) rfl (pi_enumK (K := K) rfl (by rfl) T.z_enumerate (pa_cons (pe_ix (ix_listK (K := K) rfl) (pv 1) (pv 4) (fun _ _ => rfl)) pa_nil)) (pg_tupK (K := K) (n := 2) rfl (by rfl) (pgs_cons (pg_name (i := 5) sc_Clocks_judge.nd rfl (Or.inl rfl)) (pgs_cons (pg_name (i := 6) sc_Clocks_judge.nd rfl (Or.inl rfl)) pgs_nil)))
      (pss_one (ps_expr (pe_meS (pv 0) T.C_Clocks T.m_Clocks_judge_word (ok_Clocks_judge_word T) (hr.mono (by decide)) T.b_Clocks_judge_word .nil (fun σ => passAt (takes_of rfl rfl rfl rfl) σ) (pa_cons (pv 6) (pa_cons (pv 5) pa_nil))))))))
      pss_nil)))))), ?_⟩
    walk_at "sw"
    rw [List.length_map, List.length_map, Paired.len hr']
    refine i_iteN (fun h1 => ?_) (fun h1 => ?_)
    · walk_at "sw"
      exact qe (by unfold turnOk; rw [decide_eq_false (by omega)]; rfl) H (Same.refl H)
    walk_at "sw"
    refine i_iteN (fun h2 => ?_) (fun h2 => ?_)
    · walk_at "sw"
      exact qe (by unfold turnOk; rw [decide_eq_false (p := gs.length = st.length) (by omega), Bool.and_false]; rfl) H (Same.refl H)
    have e1 : turnOk st ss e g rows gs = (List.range st.length).all fun k => atOk st ss e g k (rows.getD k []) (gs.getD k .non) := by
      unfold turnOk
      rw [decide_eq_true (p := rows.length = st.length) (by omega), decide_eq_true (p := gs.length = st.length) (by omega)]
      rfl
    walk_at "sw"
    refine ⟨by omega, by omega, l_rng (fun i σ H' => ∃ v4 v5 v6, σ = [some (.ref p), some (.ref h), some (.ref l), some (.int st.length), v4, v5, v6] ∧ Same H H' ∧ ∀ k, k < i → atOk st ss e g k (rows.getD k []) (gs.getD k .non) = true) ⟨_, _, _, rfl, Same.refl H, fun k hk => absurd hk (Nat.not_lt_zero _)⟩ ?_ ?_⟩
    · rintro i σ H1 hi ⟨v4, v5, v6, rfl, s1, hk⟩
      rw [Int.toNat_natCast] at hi
      rw [Int.zero_add]
      have hp1 := s1 _ _ hp
      have hA1 := s1 _ _ hA
      have hB1 := s1 _ _ hB
      have hh1 := s1 _ _ hh
      have hl1 := s1 _ _ hl
      have aS := at_int (ns := ss) (k := i) (by omega)
      have er : rows[i]? = some rows[i] := List.getElem?_eq_getElem (by omega)
      have eg : gs[i]? = some gs[i] := List.getElem?_eq_getElem (by omega)
      obtain ⟨a, ea, ha⟩ := Paired.at hr' i _ er
      have aH : atI (as.map V.ref) (i : Int) = some (.ref a) := at_of (j := i) rfl (by rw [List.getElem?_map, ea]; rfl)
      have aG : atI gs (i : Int) = some gs[i] := at_of (j := i) rfl eg
      have ha1 := s1 _ _ ha
      have prow := pr rows[i] (List.getElem_mem _)
      have eq1 : atOk st ss e g i (rows.getD i []) (gs.getD i .non) = (decide (ss.getD i 0 = 1) || (okN 0 g gs[i] && rowOk st ss e rows[i])) := by
        rw [getD_at er, getD_at eg]
        rfl
      have bad : atOk st ss e g i (rows.getD i []) (gs.getD i .non) = false → turnOk st ss e g rows gs = false := fun z => by
        rw [e1]
        exact all_no (f := fun k => atOk st ss e g k (rows.getD k []) (gs.getD k .non)) hi z
      have good : atOk st ss e g i (rows.getD i []) (gs.getD i .non) = true → ∀ k, k < i + 1 → atOk st ss e g k (rows.getD k []) (gs.getD k .non) = true := fun z k hk1 => by
        by_cases h : k = i
        · rw [h]
          exact z
        · exact hk k (by omega)
      walk_at "sw"
      refine i_ixL hB1 aS ?_
      walk_at "sw"
      refine i_iteN (fun h3 => ?_) (fun h3 => ?_)
      · walk_at "sw"
        refine i_ixL hh1 aH ?_
        walk_at "sw"
        refine i_iteN (fun h4 => ?_) (fun h4 => ?_)
        · walk_at "sw"
          exact qe (bad (by rw [eq1, decide_eq_false h3]; unfold rowOk; rw [decide_eq_false (by omega)]; simp)) H1 s1
        walk_at "sw"
        refine i_ixL hl1 aG ?_
        walk_at "sw"
        refine ⟨_, 0, g, rfl, pg _ (List.getElem_mem _), ?_⟩
        walk_at "sw"
        cases h5 : okN 0 g gs[i] with
        | false =>
          walk_at "sw"
          exact qe (bad (by rw [eq1, h5, decide_eq_false h3]; rfl)) H1 s1
        | true =>
          walk_at "sw"
          refine i_ixL hh1 aH ?_
          walk_at "sw"
          have lrow : (enumL rows[i]).length = rows[i].length := enumL_len
          refine ⟨a, rows[i], rfl, SqL.of ha1, l_pair (walk_enumL (xs := rows[i])) (fun j σ H' => ∃ v5 v6, σ = [some (.ref p), some (.ref h), some (.ref l), some (.int st.length), some (.int i), v5, v6] ∧ Same H1 H' ∧ ∀ k, k < j → wordOk st ss e k (rows[i].getD k .non) = true) ⟨_, _, rfl, Same.refl H1, fun k hk => absurd hk (Nat.not_lt_zero _)⟩ ?_ ?_ ?_⟩
          · rintro j σ H' hj ⟨v5, v6, rfl, s2, _⟩
            exact SqL.of (s2 _ _ ha1)
          · rintro j x y σ H2 Tq hxy ⟨v5, v6, rfl, s2, hw⟩ nT
            obtain ⟨rfl, ey⟩ := enumL_at hxy
            have hjr : j < rows[i].length := (List.getElem?_eq_some_iff.mp ey).1
            have s3 : Same H (upd H2 Tq (.tup [.int j, y])) := (s1.trans s2).trans (same_new nT)
            have hp3 := s3 _ _ hp
            walk_at "sw"
            refine ⟨p, A, B, y, j, st, ss, e, g, rfl, prow.2 y (List.mem_of_getElem? ey), by omega, cl.same s3, fun z => ?_, fun z => ?_⟩
            · walk_at "sw"
              refine ⟨_, _, rfl, s2.trans (same_new nT), fun k hk2 => ?_⟩
              by_cases hz : k = j
              · rw [hz, getD_at ey]
                exact z
              · exact hw k (by omega)
            · refine qe (bad ?_) _ s3
              rw [eq1, decide_eq_false h3, h5]
              show rowOk st ss e rows[i] = false
              unfold rowOk
              rw [all_no (f := fun k => wordOk st ss e k (rows[i].getD k .non)) hjr (by rw [getD_at ey]; exact z), Bool.and_false]
          · rintro σ H2 ⟨v5, v6, rfl, s2, hw⟩
            refine ⟨_, _, _, rfl, s1.trans s2, good ?_⟩
            rw [eq1, h5]
            unfold rowOk
            rw [decide_eq_true (p := rows[i].length = st.length) (by omega), all_yes fun k hk2 => hw k (by omega)]
            simp
      · walk_at "sw"
        exact ⟨_, _, _, rfl, s1, good (by rw [eq1, decide_eq_true h3]; rfl)⟩
    · rintro σ H1 ⟨v4, v5, v6, rfl, s1, hk⟩
      rw [Int.toNat_natCast] at hk
      exact q (by rw [e1]; exact all_yes hk) H1 s1

/-! ### what is told -/
def toldV (st ss : List Int) : List V := (st.zip ss).map fun x => if x.2 = 0 then .int x.1 else .non
def goodL (st ss : List Int) : List Int := ((st.zip ss).filter fun x => decide (x.2 = 0)).map (·.1)
def pickV : V → V → V
  | x, .int o => if o = 0 then x else .non
  | _, _ => .non
theorem told_coll : ∀ (st ss : List Int), coll (fun _ _ => true) pickV ((st.map V.int).zip (ss.map V.int)) = toldV st ss
  | [], ss => by cases ss <;> rfl
  | x :: r, [] => rfl
  | x :: r, y :: q => by
    have ih := told_coll r q
    unfold coll toldV at ih ⊢
    rw [List.map_cons, List.map_cons, List.zip_cons_cons, List.zip_cons_cons, List.filter_cons_of_pos rfl, List.map_cons, List.map_cons, ih]
    rfl
def spTold (C : Addr) : Sp := fun vs H Q _ => ∃ (p A B : Addr) (st ss : List Int) (e g : Int), vs = [.ref p] ∧ ClAt C H p A B st ss e g ∧ ∀ r H', H r = none → Same H H' → H' r = some (.lst (toldV st ss)) → Q (.ref r) H'
theorem zip_at {st ss : List Int} {k : Nat} {x y : V} (h : ((st.map V.int).zip (ss.map V.int))[k]? = some (x, y)) : ∃ a b, x = .int a ∧ y = .int b ∧ (st.zip ss)[k]? = some (a, b) := by
  rw [List.getElem?_zip_eq_some, List.getElem?_map, List.getElem?_map] at h
  obtain ⟨h1, h2⟩ := h
  cases e1 : st[k]? with
  | none => rw [e1] at h1; cases h1
  | some a =>
    cases e2 : ss[k]? with
    | none => rw [e2] at h2; cases h2
    | some b =>
      rw [e1] at h1
      rw [e2] at h2
      exact ⟨a, b, (Option.some.inj h1).symm, (Option.some.inj h2).symm, by rw [List.getElem?_zip_eq_some]; exact ⟨e1, e2⟩⟩
theorem ok_Clocks_told (T : Tx K mg) : FnOk P w K mg base CX0 1 T.f_Clocks_told T.fd_Clocks_told ["self"] (spTold T.c_Clocks) := by
  refine T.F_Clocks_told.ok sc_Clocks_told (fun vs H Q E h => ?_) (fun cdv A outer s0 H vs Q E hr h => ?_)
  · obtain ⟨p, A, B, st, ss, e, g, rfl, _⟩ := h
    rfl
  · obtain ⟨p, A, B, st, ss, e, g, rfl, cl, q⟩ := h
    have cC := T.C_Clocks
    have n1 := T.N_Clocks_stands
    have n2 := T.N_Clocks_state
    obtain ⟨⟨dx, hp⟩, hA, hB, AB, hlen, l4, l7⟩ := id cl
    unfold fsC at hp
    refine ⟨_, (pss_one (ps_ret (pe_lc (own := [("stand", 1), ("one", 2)]) (by rfl) sc_Clocks_told.nd (pi_zipK (K := K) rfl (by rfl) T.z_zip (pa_cons (pe_fldK (K := K) rfl (pv 0) rfl) (pa_cons (pe_fldK (K := K) rfl (pv 0) rfl) pa_nil))) (blkOk_by (own := [("stand", 1), ("one", 2)]) (N := ["self", "stand", "one"]) (sc := defScope s_Clocks_told) (by decide +kernel)) (fun _ _ _ _ _ => (pg_tupK (K := K) (n := 2) rfl (by rfl) (pgs_cons (pg_name (i := 1) sc_Clocks_told.nd rfl (Or.inl rfl)) (pgs_cons (pg_name (i := 2) sc_Clocks_told.nd rfl (Or.inl rfl)) pgs_nil)))) (fun _ _ _ _ _ => pts_nil) (fun _ _ _ _ _ => (pe_ifExp (pt_cmpR op_eq (pv 2) (pe_glob (v := .int 0) (by rfl) T.g_GOOD ⟨_, rfl⟩) (nomark _)) (pv 1) pe_non))))), ?_⟩
    walk_at "sw"
    refine ⟨A, B, _, _, rfl, SqL.of hA, SqL.of hB, fun D nD => c_pair (L := (st.map V.int).zip (ss.map V.int)) (fun _ _ => true) pickV walk_zipL (by rw [List.length_zip, List.length_map, List.length_map]; omega) nD (fun H' h => ⟨SqL.of (h _ _ hA), SqL.of (h _ _ hB)⟩) (fun v u => rfl) ?_ ?_ ?_⟩
    · intro k x y hxy H' hH R hR
      walk_at "sw"
      exact hR
    · intro k x y hxy _ H' hH R hR
      obtain ⟨a, b, rfl, rfl, _⟩ := zip_at hxy
      walk_at "sw"
      refine i_ite (fun h => ?_) (fun h => ?_)
      · walk_at "sw"
        have := hR H' (Same.refl H')
        rwa [show pickV (.int a) (.int b) = .int a from if_pos h] at this
      · walk_at "sw"
        have := hR H' (Same.refl H')
        rwa [show pickV (.int a) (.int b) = .non from if_neg h] at this
    · intro H' hH hD
      rw [told_coll] at hD
      walk_at "sw"
      exact q D H' nD hH hD
def spWidth (C : Addr) : Sp := fun vs H Q _ => ∃ (p A B : Addr) (st ss : List Int) (e g : Int), vs = [.ref p] ∧ ClAt C H p A B st ss e g ∧ goodL st ss ≠ [] ∧ ∀ H', Same H H' → Q (.int (mx (goodL st ss) - mn (goodL st ss))) H'
theorem told_good : ∀ (st ss : List Int), (toldV st ss).filter (fun v => !isNo v) = (goodL st ss).map V.int
  | [], ss => by cases ss <;> rfl
  | x :: r, [] => rfl
  | x :: r, y :: q => by
    have ih := told_good r q
    unfold toldV goodL at ih ⊢
    rw [List.zip_cons_cons, List.map_cons]
    by_cases h : y = 0
    · rw [List.filter_cons_of_pos (by rw [if_pos h]; rfl), ih, List.filter_cons_of_pos (by simp [h]), List.map_cons, List.map_cons, if_pos h]
    · rw [List.filter_cons_of_neg (by rw [if_neg h]; simp [isNo]), ih, List.filter_cons_of_neg (by simp [h])]
theorem told_len (st ss : List Int) : (toldV st ss).length ≤ st.length := by
  unfold toldV
  rw [List.length_map, List.length_zip]
  omega
theorem isNo_eq (v : V) : (!decide (v = V.non)) = !isNo v := by cases v <;> rfl
/-- [w for w in xs if w is not None] -/
theorem c_some {σ : L2.St} {H : Hp} {K : PySem.W.Frag} {Q : VK} {vs : List Nat} {a D : Addr} {j : Nat} {xs : List V} (hl : SqL K H a xs) (hD : H D = none) (hn : xs.length ≤ 1000) (hw : ∀ v, wipe ((wipe σ vs).set j (some v)) vs = wipe σ vs)
    (hj : ∀ v, ((wipe σ vs).set j (some v))[j]? = some (some v)) (q : Q (.ref D) (upd H D (.lst (xs.filter fun v => !isNo v)))) :
    COMP (Itl K a) (gName j) (tTest (tOp (fun x y H Q => y = V.non ∧ Q (V.bl !decide (x = V.non)) H) (tVar j) (tC V.non))) (tVar j) vs σ H D Q := by
  refine c_pure (fun v => !isNo v) id hl hD hn hw (fun x hx H' hH R hR => ?_) (fun x hx _ H' hH R hR => ?_) (by rw [List.map_id]; exact q)
  · refine ⟨x, hj x, rfl, !isNo x, ?_, hR⟩
    rw [isNo_eq]
  · exact ⟨x, hj x, hR⟩
theorem ok_Clocks_width (T : Tx K mg) : FnOk P w K mg base CX0 2 T.f_Clocks_width T.fd_Clocks_width ["self"] (spWidth T.c_Clocks) := by
  refine T.F_Clocks_width.ok sc_Clocks_width (fun vs H Q E h => ?_) (fun cdv A outer s0 H vs Q E hr h => ?_)
  · obtain ⟨p, A, B, st, ss, e, g, rfl, _⟩ := h
    rfl
  · obtain ⟨p, A, B, st, ss, e, g, rfl, cl, h0, q⟩ := h
    obtain ⟨⟨dx, hp⟩, hA, hB, AB, hlen, l4, l7⟩ := id cl
    unfold fsC at hp
    refine ⟨_, (pss_cons (ps_setLc (i := 1) (own := [("stand", 2)]) (by rfl) sc_Clocks_width.nd rfl rfl (sw_true rfl rfl rfl (by decide +kernel)) (pi_listK (K := K) rfl (pe_meth0 (pv 0) T.C_Clocks T.m_Clocks_told (ok_Clocks_told T) (hr.mono (by decide)) T.b_Clocks_told .nil pass0)) (blkOk_by (own := [("stand", 2)]) (N := ["self", "good", "stand"]) (sc := defScope s_Clocks_width) (by decide +kernel)) (fun _ _ _ _ _ => (pg_name (i := 2) sc_Clocks_width.nd rfl (Or.inl rfl))) (fun _ _ _ _ _ => (pts_one (pt_cmpR op_notN (pv 2) pe_non (nomark _)))) (fun _ _ _ _ _ => (pv 2)))
      (pss_one (ps_ret (pe_op op_sub (pe_callB (cr_maxK (K := K) rfl (by rfl)) (by rfl) T.z_max bt_max (pa_cons (pv 1) pa_nil)) (pe_callB (cr_minK (K := K) rfl (by rfl)) (by rfl) T.z_min bt_min (pa_cons (pv 1) pa_nil)))))), ?_⟩
    walk_at "sw"
    refine ⟨p, A, B, st, ss, e, g, rfl, cl, fun r H1 nr s1 hr1 => ?_⟩
    walk_at "sw"
    refine ⟨r, rfl, ⟨_, SqL.of hr1⟩, fun D nD => c_some (SqL.of hr1) nD (Nat.le_trans (told_len st ss) (by omega)) (fun v => rfl) (fun v => rfl) ?_⟩
    rw [told_good]
    walk_at "sw"
    refine i_mx upd_same h0 ?_
    walk_at "sw"
    refine i_mn upd_same h0 ?_
    walk_at "sw"
    exact q _ (s1.trans (same_new nD))
/-! ### a turn -/
/-- the middle of some numbers -/
def midOf (ws : List Int) : Int := ((ws.mergeSort fun a b => decide (a ≤ b)).getD 1 0 + (ws.mergeSort fun a b => decide (a ≤ b)).getD (ws.length - 2) 0) / 2
theorem sort_eq {ws s : List Int} (hp : s.Perm ws) (hs : s.Pairwise (· ≤ ·)) : s = ws.mergeSort fun a b => decide (a ≤ b) := by
  have h1 : (ws.mergeSort fun a b => decide (a ≤ b)).Perm ws := List.mergeSort_perm ..
  refine rising_eq (hp.trans h1.symm) hs ?_
  have := List.pairwise_mergeSort (le := fun (a b : Int) => decide (a ≤ b)) (fun a b c h1 h2 => by simp at *; omega) (fun a b => by simp; omega) ws
  exact this.imp fun h => by simpa using h
theorem mid_eq {ws s : List Int} {x y : Int} (hp : s.Perm ws) (hs : s.Pairwise (· ≤ ·)) (h1 : s[1]? = some x) (h2 : s[ws.length - 2]? = some y) : (x + y) / 2 = midOf ws := by
  unfold midOf
  rw [← sort_eq hp hs]
  simp [List.getD, h1, h2]
theorem i_mid {C : Addr} {H : Hp} {Q : VK} {E : XK} {a : Addr} {ns : List Int} (h : H a = some (.lst (ns.map V.int))) (h3 : 3 ≤ ns.length) (h60 : ns.length < 60) (q : ∀ H', Same H H' → Q (.int (midOf ns)) H') : spMiddle C [.ref a] H Q E :=
  ⟨a, ns, rfl, h, h60, fun z => absurd z (by omega), fun _ s x y H' h1 h2 h3 h4 h5 => by rw [mid_eq h1 h2 h3 h4]; exact q H' h5⟩
def intV : V → Int
  | .int i => i
  | _ => 0
def newSt (st ss : List Int) (rows : List (List V)) (gs : List V) : List Int :=
  (List.range st.length).map fun k => if ss.getD k 0 = 1 then st.getD k 0 else midOf (intsV (rows.getD k [])) + intV (gs.getD k .non)
def curSt (st : List Int) (f : Nat → Int) (i : Nat) : List Int := (List.range st.length).map fun k => if k < i then f k else st.getD k 0
theorem cur_zero (st : List Int) (f : Nat → Int) : curSt st f 0 = st := by
  unfold curSt
  refine List.ext_getElem (by rw [List.length_map, List.length_range]) fun k h1 h2 => ?_
  rw [List.getElem_map, List.getElem_range, if_neg (Nat.not_lt_zero _)]
  simp [List.getD, h2]
theorem cur_len (st : List Int) (f : Nat → Int) (i : Nat) : (curSt st f i).length = st.length := by
  unfold curSt
  rw [List.length_map, List.length_range]
theorem cur_at (st : List Int) (f : Nat → Int) (i k : Nat) (hk : k < st.length) : (curSt st f i)[k]? = some (if k < i then f k else st.getD k 0) := by
  unfold curSt
  rw [List.getElem?_map, List.getElem?_range hk]
  rfl
theorem cur_out (st : List Int) (f : Nat → Int) (i k : Nat) (hk : ¬ k < st.length) : (curSt st f i)[k]? = none := List.getElem?_eq_none (by rw [cur_len]; omega)
theorem cur_set (st : List Int) (f : Nat → Int) (i : Nat) (hi : i < st.length) : (curSt st f i).set i (f i) = curSt st f (i + 1) := by
  refine List.ext_getElem? fun k => ?_
  rw [List.getElem?_set, cur_len]
  by_cases hk : k < st.length
  · rw [cur_at st f (i + 1) k hk]
    by_cases h : i = k
    · subst h
      rw [if_pos rfl, if_pos hi, if_pos (by omega)]
    · rw [if_neg h, cur_at st f i k hk]
      by_cases h' : k < i
      · rw [if_pos h', if_pos (by omega)]
      · rw [if_neg h', if_neg (by omega)]
  · rw [if_neg (by omega), cur_out st f i k hk, cur_out st f (i + 1) k hk]
theorem cur_keep (st : List Int) (f : Nat → Int) (i : Nat) (hi : i < st.length) (h : f i = st.getD i 0) : curSt st f (i + 1) = curSt st f i := by
  refine List.ext_getElem? fun k => ?_
  by_cases hk : k < st.length
  · rw [cur_at st f (i + 1) k hk, cur_at st f i k hk]
    by_cases h' : k < i
    · rw [if_pos h', if_pos (by omega)]
    · by_cases z : k = i
      · subst z
        rw [if_pos (by omega), if_neg (by omega), h]
      · rw [if_neg h', if_neg (by omega)]
  · rw [cur_out st f i k hk, cur_out st f (i + 1) k hk]
theorem cur_all (st : List Int) (f : Nat → Int) : curSt st f st.length = (List.range st.length).map f := by
  unfold curSt
  refine List.map_congr_left fun k hk => ?_
  rw [if_pos (List.mem_range.mp hk)]
def newSs (ss : List Int) : List Int := ss.map fun s => if s = 1 then 1 else 0
/-- all but one are good -/
def OneBad (ss : List Int) : Prop := ∃ j : Nat, ∀ k, k ≠ j → ss.getD k 0 = 0
theorem ints_filter : ∀ {r : List V}, (∀ v ∈ r, isNo v = true ∨ isN v = true) → (r.filter fun v => !isNo v) = (intsV r).map V.int
  | [], _ => rfl
  | v :: r, h => by
    have ih := ints_filter (r := r) fun x hx => h x (List.mem_cons_of_mem _ hx)
    unfold intsV at ih ⊢
    cases v with
    | int i =>
      rw [List.filter_cons_of_pos rfl, ih, List.filterMap_cons]
      rfl
    | non =>
      rw [List.filter_cons_of_neg (by simp [isNo]), ih, List.filterMap_cons]
    | _ =>
      have := h _ List.mem_cons_self
      simp [isNo, isN] at this
theorem ints_all : ∀ {r : List V}, (∀ v ∈ r, isN v = true) → (intsV r).length = r.length
  | [], _ => rfl
  | v :: r, h => by
    have ih := ints_all (r := r) fun x hx => h x (List.mem_cons_of_mem _ hx)
    unfold intsV at ih ⊢
    have hv := h _ List.mem_cons_self
    cases v with
    | int i => rw [List.filterMap_cons]; simp [ih]
    | _ => cases hv
theorem ints_most : ∀ {r : List V} (j : Nat), (∀ (k : Nat) (v : V), k ≠ j → r[k]? = some v → isN v = true) → r.length ≤ (intsV r).length + 1
  | [], _, _ => Nat.zero_le _
  | v :: r, 0, h => by
    have e : (intsV r).length = r.length := ints_all fun x hx => by
      obtain ⟨k, hk, rfl⟩ := List.getElem_of_mem hx
      exact h (k + 1) _ (by omega) (by rw [List.getElem?_cons_succ]; exact List.getElem?_eq_getElem hk)
    have : (intsV r).length ≤ (intsV (v :: r)).length := by
      unfold intsV
      rw [List.filterMap_cons]
      split <;> simp
    rw [List.length_cons]
    omega
  | v :: r, j + 1, h => by
    have ih := ints_most (r := r) j fun k x hk hx => h (k + 1) x (by omega) hx
    have hv := h 0 v (by omega) rfl
    cases v with
    | int i =>
      have : (intsV (V.int i :: r)).length = (intsV r).length + 1 := by
        unfold intsV
        rw [List.filterMap_cons]
        rfl
      rw [this, List.length_cons]
      omega
    | _ => cases hv
theorem word_kind {st ss : List Int} {e : Int} {k : Nat} {v : V} (h : wordOk st ss e k v = true) : (isNo v = true ∨ isN v = true) ∧ (ss.getD k 0 = 0 → isN v = true) := by
  unfold wordOk at h
  by_cases h0 : ss.getD k 0 = 0
  · rw [if_pos h0] at h
    obtain ⟨i, rfl, _⟩ := okN_int h
    exact ⟨.inr rfl, fun _ => rfl⟩
  · rw [if_neg h0] at h
    refine ⟨?_, fun z => absurd z h0⟩
    by_cases h2 : ss.getD k 0 = 2
    · rw [if_pos h2] at h
      exact .inl h
    · rw [if_neg h2, Bool.or_eq_true] at h
      exact h
theorem row_good {st ss : List Int} {e : Int} {r : List V} (h : rowOk st ss e r = true) (ob : OneBad ss) (h4 : 4 ≤ st.length) : (r.filter fun v => !isNo v) = (intsV r).map V.int ∧ 3 ≤ (intsV r).length ∧ (intsV r).length ≤ st.length := by
  unfold rowOk at h
  rw [Bool.and_eq_true, decide_eq_true_eq, List.all_eq_true] at h
  obtain ⟨hl, ha⟩ := h
  have hw : ∀ (k : Nat) (v : V), r[k]? = some v → wordOk st ss e k v = true := fun k v hv => by
    have := ha k (List.mem_range.mpr (List.getElem?_eq_some_iff.mp hv).1)
    rwa [getD_at hv] at this
  obtain ⟨j, hj⟩ := ob
  refine ⟨ints_filter fun v hv => ?_, ?_, ?_⟩
  · obtain ⟨k, hk, rfl⟩ := List.getElem_of_mem hv
    exact (word_kind (hw k _ (List.getElem?_eq_getElem hk))).1
  · have := ints_most (r := r) j fun k v hk hv => (word_kind (hw k v hv)).2 (hj k hk)
    omega
  · rw [← hl]
    exact List.length_filterMap_le ..
def spTurn (CB C : Addr) : Sp := fun vs H Q E => ∃ (p A B h l : Addr) (as : List Addr) (rows : List (List V)) (gs : List V) (st ss : List Int) (e g : Int), vs = [.ref p, .ref h, .ref l] ∧ ClAt C H p A B st ss e g ∧
  H h = some (.lst (as.map V.ref)) ∧ Rows H as rows ∧ H l = some (.lst gs) ∧ (∀ r ∈ rows, r.length ≤ 100 ∧ ∀ v ∈ r, Pl v) ∧ (∀ v ∈ gs, Pl v) ∧ OneBad ss ∧
  (turnOk st ss e g rows gs = false → ∀ H', Same H H' → E (.ref CB) none H') ∧
  (turnOk st ss e g rows gs = true → ∀ (A' B' : Addr) (H' : Hp), H A' = none → H B' = none → ClAt C H' p A' B' (newSt st ss rows gs) (newSs ss) e g → (∀ b o, H b = some o → b ≠ p → H' b = some o) → Q .non H')
theorem ok_Clocks_turn (T : Tx K mg) : FnOk P w K mg base (L2.CX P w) 5 T.f_Clocks_turn T.fd_Clocks_turn ["self", "heard", "gains"] (spTurn T.c_BadNumber T.c_Clocks) := by
  refine T.F_Clocks_turn.okX sc_Clocks_turn (fun vs H Q E h => ?_) (fun cdv A outer s0 H vs Q E hr h => ?_)
  · obtain ⟨p, A, B, h, l, as, rows, gs, st, ss, e, g, rfl, _⟩ := h
    rfl
  · obtain ⟨p, A, B, h, l, as, rows, gs, st, ss, e, g, rfl, cl, hh, hr', hl, pr, pg, ob, qe, q⟩ := h
    have cC := T.C_Clocks
    have n1 := T.N_Clocks_stands
    have n2 := T.N_Clocks_state
    obtain ⟨⟨dx, hp⟩, hA, hB, AB, hlen, l4, l7⟩ := id cl
    unfold fsC at hp
    refine ⟨_, (pss_cons (ps_expr (pe_meS (pv 0) T.C_Clocks T.m_Clocks_judge (ok_Clocks_judge T) (hr.mono (by decide)) T.b_Clocks_judge .nil (fun σ => passAt (takes_of rfl rfl rfl rfl) σ) (pa_cons (pv 1) (pa_cons (pv 2) pa_nil))))
      (pss_cons (ps_set (i := 3) sc_Clocks_turn.nd rfl (Or.inl rfl) (pe_callTy (call_listK (K := K) rfl) (by rfl) T.z_list bt_list (pa_cons (pe_fldK (K := K) rfl (pv 0) rfl) pa_nil)))
      (pss_cons (ps_for (passes_of rfl) rfl (pi_range1 (by rfl) T.z_range (pa_cons (pe_callB (call_lenK (K := K) rfl) (by rfl) T.z_len bt_len (pa_cons (pv 3) pa_nil)) pa_nil)) (pg_name (i := 4) sc_Clocks_turn.nd rfl (Or.inl rfl))
      (pss_one (ps_if (pt_cmpR op_ne (pe_ix (ix_listK (K := K) rfl) (pe_fldK (K := K) rfl (pv 0) rfl) (pv 4) (fun _ _ => rfl)) (pe_glob (v := .int 1) (by rfl) T.g_FALLEN ⟨_, rfl⟩) (nomark _))
      (pss_one (ps_asg (pe_op op_add (pe_callS (ok_middle T) (hr.mono (by decide)) (by rfl) T.g_middle T.F_middle.kp T.b_middle (fun σ => passAt (takes_of rfl rfl rfl rfl) σ) (pa_cons (pe_lc (own := [("word", 5)]) (by rfl) sc_Clocks_turn.nd (pi_listK (K := K) rfl (pe_ix (ix_listK (K := K) rfl) (pv 1) (pv 4) (fun _ _ => rfl))) (blkOk_by (own := [("word", 5)]) (N := ["self", "heard", "gains", "found", "at", "word", "one"]) (sc := defScope s_Clocks_turn) (by decide +kernel)) (fun _ _ _ _ _ => (pg_name (i := 5) sc_Clocks_turn.nd rfl (Or.inl rfl))) (fun _ _ _ _ _ => (pts_one (pt_cmpR op_notN (pv 5) pe_non (nomark _)))) (fun _ _ _ _ _ => (pv 5))) pa_nil)) (pe_ix (ix_listK (K := K) rfl) (pv 2) (pv 4) (fun _ _ => rfl))) (pg_sub (pv 3) (pv 4) set_list)))
      pss_nil)))
      (pss_cons (ps_fldK (K := K) rfl (pv 0) (pv 3) rfl)
      (pss_one (ps_fldK (K := K) rfl (pv 0) (pe_lc (own := [("one", 6)]) (by rfl) sc_Clocks_turn.nd (pi_listK (K := K) rfl (pe_fldK (K := K) rfl (pv 0) rfl)) (blkOk_by (own := [("one", 6)]) (N := ["self", "heard", "gains", "found", "at", "word", "one"]) (sc := defScope s_Clocks_turn) (by decide +kernel)) (fun _ _ _ _ _ => (pg_name (i := 6) sc_Clocks_turn.nd rfl (Or.inl rfl))) (fun _ _ _ _ _ => pts_nil) (fun _ _ _ _ _ => (pe_ifExp (pt_cmpR op_eq (pv 6) (pe_glob (v := .int 1) (by rfl) T.g_FALLEN ⟨_, rfl⟩) (nomark _)) (pe_glob (v := .int 1) (by rfl) T.g_FALLEN ⟨_, rfl⟩) (pe_glob (v := .int 0) (by rfl) T.g_GOOD ⟨_, rfl⟩)))) rfl)))))), ?_⟩
    walk_at "sw"
    refine ⟨p, A, B, h, l, as, rows, gs, st, ss, e, g, rfl, cl, hh, hr', hl, pr, pg, fun ht H1 s1 => ?_, qe⟩
    have hp1 := s1 _ _ hp
    have hA1 := s1 _ _ hA
    have hB1 := s1 _ _ hB
    walk_at "sw"
    intro F nF
    have s2 : Same H1 (upd H1 F (.lst (st.map V.int))) := same_new nF
    have hF2 : (upd H1 F (.lst (st.map V.int))) F = some (.lst (st.map V.int)) := upd_same
    obtain ⟨H2, eH2⟩ : ∃ X, X = upd H1 F (.lst (st.map V.int)) := ⟨_, rfl⟩
    rw [← eH2] at s2 hF2 ⊢
    obtain ⟨nw, enw⟩ : ∃ nw : Nat → Int, nw = fun k => if ss.getD k 0 = 1 then st.getD k 0 else midOf (intsV (rows.getD k [])) + intV (gs.getD k .non) := ⟨_, rfl⟩
    have t1 := ht
    unfold turnOk at t1
    rw [Bool.and_eq_true, Bool.and_eq_true, decide_eq_true_eq, decide_eq_true_eq, List.all_eq_true] at t1
    obtain ⟨⟨lr, lg⟩, hat⟩ := t1
    walk_at "sw"
    rw [List.length_map]
    refine ⟨by omega, by omega, l_rng (fun i σ H' => ∃ v4, σ = [some (.ref p), some (.ref h), some (.ref l), some (.ref F), v4, none, none] ∧ Same H1 H' ∧ H' F = some (.lst ((curSt st nw i).map V.int))) ⟨_, rfl, s2, by rw [cur_zero]; exact hF2⟩ ?_ ?_⟩
    · rintro i σ H3 hi ⟨v4, rfl, s3, hF3⟩
      rw [Int.toNat_natCast] at hi
      rw [Int.zero_add]
      have hp3 := s3 _ _ hp1
      have hB3 := s3 _ _ hB1
      have hh3 := s3 _ _ (s1 _ _ hh)
      have hl3 := s3 _ _ (s1 _ _ hl)
      have aS := at_int (ns := ss) (k := i) (by omega)
      have er : rows[i]? = some rows[i] := List.getElem?_eq_getElem (by omega)
      have eg : gs[i]? = some gs[i] := List.getElem?_eq_getElem (by omega)
      obtain ⟨a, ea, ha⟩ := Paired.at hr' i _ er
      have aH : atI (as.map V.ref) (i : Int) = some (.ref a) := at_of (j := i) rfl (by rw [List.getElem?_map, ea]; rfl)
      have ha3 := s3 _ _ (s1 _ _ ha)
      have hati := hat i (List.mem_range.mpr hi)
      rw [getD_at er, getD_at eg] at hati
      walk_at "sw"
      refine i_ixL hB3 aS ?_
      walk_at "sw"
      refine i_iteN (fun h3 => ?_) (fun h3 => ?_)
      · unfold atOk at hati
        rw [decide_eq_false h3, Bool.false_or, Bool.and_eq_true] at hati
        obtain ⟨gi, egi, _, _⟩ := okN_int hati.1
        obtain ⟨f1, f2, f3⟩ := row_good hati.2 ob l4
        have aG : atI gs (i : Int) = some (.int gi) := at_of (j := i) rfl (by rw [eg, egi])
        walk_at "sw"
        refine i_ixL hh3 aH ?_
        refine ⟨a, rfl, ⟨_, SqL.of ha3⟩, fun D nD => c_some (SqL.of ha3) nD (Nat.le_trans (pr _ (List.getElem_mem _)).1 (by decide)) (fun v => rfl) (fun v => rfl) ?_⟩
        rw [f1]
        walk_at "sw"
        refine i_mid upd_same f2 (by omega) fun H4 s4 => ?_
        have s5 : Same H3 H4 := (same_new nD).trans s4
        have hl4 := s5 _ _ hl3
        have hF4 := s5 _ _ hF3
        walk_at "sw"
        refine i_ixL hl4 aG ?_
        walk_at "sw"
        refine i_setL hF4 (j := i) (by rw [List.length_map, cur_len]; exact ixN_of rfl hi) ?_
        refine ⟨_, rfl, same_mut (s3.trans s5) nF, ?_⟩
        rw [upd_same, ← cur_set st nw i hi, List.map_set, enw]
        show some (HO.lst (((curSt st _ i).map V.int).set i (.int (midOf (intsV rows[i]) + gi)))) = some (HO.lst (((curSt st _ i).map V.int).set i (.int (if ss.getD i 0 = 1 then st.getD i 0 else midOf (intsV (rows.getD i [])) + intV (gs.getD i .non)))))
        rw [if_neg h3, getD_at er, getD_at eg, egi]
        rfl
      · walk_at "sw"
        refine ⟨_, rfl, s3, ?_⟩
        rw [cur_keep st nw i hi (by rw [enw]; exact if_pos h3)]
        exact hF3
    · rintro σ H3 ⟨v4, rfl, s3, hF3⟩
      rw [Int.toNat_natCast, cur_all] at hF3
      have eN : (List.range st.length).map nw = newSt st ss rows gs := by rw [enw]; rfl
      rw [eN] at hF3
      have hp3 := s3 _ _ hp1
      have hB3 := s3 _ _ hB1
      have pF : p ≠ F := ne_of_none hp1 nF
      have pB : p ≠ B := ne_of hp hB (by intro z; cases z)
      walk_at "sw"
      have hB4 : (upd H3 p (HO.ins T.c_Clocks dx (putF "stands" (V.ref F) [("stands", V.ref A), ("state", V.ref B), ("err", V.int e), ("gain", V.int g)]))) B = some (.lst (ss.map V.int)) := by
        rw [upd_ne pB.symm]
        exact hB3
      refine ⟨B, rfl, ⟨_, SqL.of hB4⟩, fun D nD => c_map (xs := ss.map V.int) (fun v => match v with | .int r => .int (if r = 1 then 1 else 0) | _ => .non) (SqL.of hB4) nD (by rw [List.length_map]; omega) (fun v => rfl) ?_ ?_⟩
      · intro x hx H' hH R hR
        obtain ⟨r, hr'', rfl⟩ := List.mem_map.mp hx
        walk_at "sw"
        refine i_ite (fun z => ?_) (fun z => ?_)
        · walk_at "sw"
          have hR2 : R (.int (if r = 1 then 1 else 0)) H' := hR
          rw [if_pos z] at hR2
          exact hR2
        · walk_at "sw"
          have hR2 : R (.int (if r = 1 then 1 else 0)) H' := hR
          rw [if_neg z] at hR2
          exact hR2
      · have eS : (ss.map V.int).map (fun v => match v with | .int r => .int (if r = 1 then 1 else 0) | _ => .non) = (newSs ss).map V.int := by
          unfold newSs
          rw [List.map_map, List.map_map]
          rfl
        rw [eS]
        walk_at "sw"
        have pD : D ≠ p := fun z => by
          rw [z, upd_same] at nD
          cases nD
        have nD3 : H3 D = none := by rwa [upd_ne pD] at nD
        have FD : F ≠ D := ne_of_none hF3 nD3
        refine q ht F D _ (s1.free nF) ((s1.trans s3).free nD3) ⟨⟨dx, upd_same⟩, ?_, ?_, FD, ?_, ?_, ?_⟩ fun b o hb hbp => ?_
        · rw [upd_ne pF.symm, upd_ne FD, upd_ne pF.symm]
          exact hF3
        · rw [upd_ne pD, upd_same]
        · unfold newSs newSt
          rw [List.length_map, List.length_map, List.length_range]
          exact hlen
        · unfold newSt
          rw [List.length_map, List.length_range]
          exact l4
        · unfold newSt
          rw [List.length_map, List.length_range]
          exact l7
        · have hb3 := s3 _ _ (s1 _ _ hb)
          rw [upd_ne hbp, upd_ne (ne_of_none hb3 nD3), upd_ne hbp]
          exact hb3

def spMidN : Sp := fun vs H Q _ => ∃ (a : Addr) (xs : List V), vs = [.ref a] ∧ H a = some (.lst xs) ∧ xs.length < 60 ∧ (∀ v ∈ xs, isNo v = true ∨ isN v = true) ∧ 3 ≤ (intsV xs).length ∧ ∀ H', Same H H' → Q (.int (midOf (intsV xs))) H'
theorem ok_law_middle (T : Tx K mg) : FnOk P w K mg base CX0 1 T.f_law_middle T.fd_law_middle ["_law_words"] spMidN := by
  refine T.F_law_middle.ok sc_law_middle (fun vs H Q E h => ?_) (fun cdv A outer s0 H vs Q E hr h => ?_)
  · obtain ⟨a, xs, rfl, _⟩ := h
    rfl
  · obtain ⟨a, xs, rfl, ha, h60', hx, h3, q⟩ := h
    obtain ⟨ns, ens⟩ : ∃ ns, ns = intsV xs := ⟨_, rfl⟩
    have efl := ints_filter hx
    rw [← ens] at h3 q efl
    have h60 : ns.length < 60 := by
      rw [ens]
      exact Nat.lt_of_le_of_lt (List.length_filterMap_le ..) h60'
    refine ⟨_, (pss_cons (ps_set (i := 1) sc_law_middle.nd rfl (Or.inl rfl) (pe_slice (sl_listK (K := K) rfl) (pe_callB (cr_sortedK (K := K) rfl) (by rfl) T.z_sorted bt_sorted (pa_cons (pe_lc (own := [("_law_word", 2)]) (by rfl) sc_law_middle.nd (pi_listK (K := K) rfl (pv 0)) (blkOk_by (own := [("_law_word", 2)]) (N := ["_law_words", "_law_rest", "_law_word"]) (sc := defScope s_law_middle) (by decide +kernel)) (fun _ _ _ _ _ => (pg_name (i := 2) sc_law_middle.nd rfl (Or.inl rfl))) (fun _ _ _ _ _ => (pts_one (pt_cmpR op_notN (pv 2) pe_non (nomark _)))) (fun _ _ _ _ _ => (pv 2))) pa_nil)) (po_some pe_int) (po_some (pe_un un_neg pe_int))))
      (pss_one (ps_ret (pe_op op_fdiv (pe_op op_add (pe_ix (ix_listK (K := K) rfl) (pv 1) pe_int (fun _ _ => rfl)) (pe_ix (ix_listK (K := K) rfl) (pv 1) (pe_un un_neg pe_int) (fun _ _ => rfl))) pe_int)))), ?_⟩
    walk_at "sw"
    refine ⟨a, rfl, ⟨_, SqL.of ha⟩, fun C nC => c_some (SqL.of ha) nC (by omega) (fun v => rfl) (fun v => rfl) ?_⟩
    · rw [efl]
      walk_at "sw"
      refine ⟨C, ns, rfl, SqL.of upd_same, by omega, fun s p hp hs np => ?_⟩
      have ls : s.length = ns.length := hp.length_eq
      walk_at "sw"
      intro r nr
      have hl : (s.map V.int).length = ns.length := by rw [List.length_map, ls]
      rw [cut_mid _ (by omega)]
      have e1 : s[1]? = some s[1] := List.getElem?_eq_getElem (by omega)
      have e2 : s[ns.length - 2]? = some s[ns.length - 2] := List.getElem?_eq_getElem (by omega)
      have lr : (((s.map V.int).drop 1).take ((s.map V.int).length - 2)).length = ns.length - 2 := by
        rw [List.length_take, List.length_drop, hl]
        omega
      have g1 : atI (((s.map V.int).drop 1).take ((s.map V.int).length - 2)) 0 = some (.int s[1]) := at_of (j := 0) rfl (by
        rw [List.getElem?_take_of_lt (by omega), List.getElem?_drop, List.getElem?_map, Nat.add_zero, e1]
        rfl)
      have g2 : atI (((s.map V.int).drop 1).take ((s.map V.int).length - 2)) (-1) = some (.int s[ns.length - 2]) := at_last (by
        rw [lr, List.getElem?_take_of_lt (by omega), List.getElem?_drop, List.getElem?_map, show 1 + (ns.length - 2 - 1) = ns.length - 2 by omega, e2]
        rfl) (by omega)
      walk_at "sw"
      refine i_ixL upd_same g1 ?_
      walk_at "sw"
      refine i_ixL upd_same g2 ?_
      walk_at "sw"
      rw [mid_eq hp hs e1 e2]
      exact q _ ((same_new nC).trans ((same_new np).trans (same_new nr)))

def spWider : Sp := fun vs H Q _ => ∃ e g : Int, vs = [.int e, .int g] ∧ (2 * e + 2 * g = 0 → Q .non H) ∧ (2 * e + 2 * g ≠ 0 → ∀ (t S M G r1 r2 r3 r4 : Addr) (H' : Hp), Same H H' → H' t = some (.tup [.ref S, .ref M, .ref G]) → H' S = some (.lst ([0, 1, 2 * e + 2 * g - 1, 0].map V.int)) →
  H' M = some (.lst ([r1, r2, r3, r4].map V.ref)) → H' G = some (.lst ([0, 0, g, 0].map V.int)) → H' r1 = some (.lst ([0, 1, 2 * e + 2 * g - 1, 0].map V.int)) → H' r2 = some (.lst ([0, 1, 2 * e + 2 * g - 1, 0].map V.int)) →
  H' r3 = some (.lst ([e, 1 + e, 2 * e + 2 * g - 1 + e, 2 * e + 2 * g - 1 + e].map V.int)) → H' r4 = some (.lst ([0, 1, 2 * e + 2 * g - 1, 0].map V.int)) → Q (.ref t) H')
theorem ok_wider (T : Tx K mg) : FnOk P w K mg base CX0 2 T.f_wider T.fd_wider ["err", "gain"] spWider := by
  refine T.F_wider.ok sc_wider (fun vs H Q E h => ?_) (fun cdv A outer s0 H vs Q E hr h => ?_)
  · obtain ⟨e, g, rfl, _⟩ := h
    rfl
  · obtain ⟨e, g, rfl, q0, q1⟩ := h
    refine ⟨_, (pss_cons (ps_set (i := 2) sc_wider.nd rfl (Or.inl rfl) (pe_call (ok_slack_of T) (hr.mono (by decide)) (by rfl) T.g_slack_of T.F_slack_of.kp T.b_slack_of .nil pass0 (pa_cons (pv 0) (pa_cons (pv 1) pa_nil))))
      (pss_cons (ps_if (pt_cmpR op_eq (pv 2) pe_int (nomark _))
      (pss_one (ps_ret pe_non))
      pss_nil)
      (pss_cons (ps_set (i := 3) sc_wider.nd rfl (Or.inl rfl) (pe_op op_sub (pv 2) pe_int))
      (pss_cons (ps_set (i := 4) sc_wider.nd rfl (Or.inl rfl) (pe_lst (pa_cons pe_int (pa_cons pe_int (pa_cons (pv 3) (pa_cons pe_int pa_nil))))))
      (pss_cons (ps_set (i := 5) sc_wider.nd rfl (Or.inl rfl) (pe_lst (pa_cons (pv 0) (pa_cons (pe_op op_add pe_int (pv 0)) (pa_cons (pe_op op_add (pv 3) (pv 0)) (pa_cons (pe_op op_add (pv 3) (pv 0)) pa_nil))))))
      (pss_one (ps_ret (pe_tup (pa_cons (pe_lst (pa_cons pe_int (pa_cons pe_int (pa_cons (pv 3) (pa_cons pe_int pa_nil))))) (pa_cons (pe_lst (pa_cons (pe_callTy (call_listK (K := K) rfl) (by rfl) T.z_list bt_list (pa_cons (pv 4) pa_nil)) (pa_cons (pe_callTy (call_listK (K := K) rfl) (by rfl) T.z_list bt_list (pa_cons (pv 4) pa_nil)) (pa_cons (pv 5) (pa_cons (pv 4) pa_nil))))) (pa_cons (pe_lst (pa_cons pe_int (pa_cons pe_int (pa_cons (pv 1) (pa_cons pe_int pa_nil))))) pa_nil))))))))))), ?_⟩
    walk_at "sw"
    refine ⟨e, g, rfl, ?_⟩
    walk_at "sw"
    refine i_ite (fun h => ?_) (fun h => ?_)
    · walk_at "sw"
      exact q0 h
    walk_at "sw"
    intro lo nlo
    walk_at "sw"
    intro hi nhi
    walk_at "sw"
    intro S nS
    walk_at "sw"
    intro c1 n1
    walk_at "sw"
    intro c2 n2
    walk_at "sw"
    intro M nM
    walk_at "sw"
    intro G nG
    walk_at "sw"
    intro t nt
    refine q1 h t S M G c1 c2 hi lo _ ((same_new nlo).trans ((same_new nhi).trans ((same_new nS).trans ((same_new n1).trans ((same_new n2).trans ((same_new nM).trans ((same_new nG).trans (same_new nt)))))))) upd_same ?_ ?_ ?_ ?_ ?_ ?_ ?_
    all_goals (try walk_at "hp")
def spNumbers : Sp := fun vs H Q _ => ∃ (a : Addr) (ns : List Int) (n : Int), vs = [.ref a, .int n] ∧ H a = some (.lst (ns.map V.int)) ∧ (ns.length : Int) = n ∧ ns.length ≤ 1000 ∧ ∀ H', Same H H' → Q (.bl true) H'
theorem ok_law_numbers (T : Tx K mg) : FnOk P w K mg base CX0 2 T.f_law_numbers T.fd_law_numbers ["_law_row", "_law_count"] spNumbers := by
  refine T.F_law_numbers.ok sc_law_numbers (fun vs H Q E h => ?_) (fun cdv A outer s0 H vs Q E hr h => ?_)
  · obtain ⟨a, ns, n, rfl, _⟩ := h
    rfl
  · obtain ⟨a, ns, n, rfl, ha, hn, hl, q⟩ := h
    refine ⟨_, (pss_one (ps_ret (pe_and (pe_callB (call_isiKK (K := K) rfl) (by rfl) T.z_isinstance bt_isinstance (pa_cons (pv 0) (pa_cons (pe_bltn (v := .ty "list") (by rfl) T.z_list bt_list rfl) pa_nil))) (pe_and (pe_cmpR op_eq (pe_callB (call_lenK (K := K) rfl) (by rfl) T.z_len bt_len (pa_cons (pv 0) pa_nil)) (pv 1) (nomark _)) (pe_one (pe_callB (cr_allK (K := K) rfl (by rfl)) (by rfl) T.z_all bt_all (pa_cons (pe_lc (own := [("_law_x", 2)]) (by rfl) sc_law_numbers.nd (pi_listK (K := K) rfl (pv 0)) (blkOk_by (own := [("_law_x", 2)]) (N := ["_law_row", "_law_count", "_law_x"]) (sc := defScope s_law_numbers) (by decide +kernel)) (fun _ _ _ _ _ => (pg_name (i := 2) sc_law_numbers.nd rfl (Or.inl rfl))) (fun _ _ _ _ _ => pts_nil) (fun _ _ _ _ _ => (pe_call (ok_law_whole T) (hr.mono (by decide)) (by rfl) T.g_law_whole T.F_law_whole.kp T.b_law_whole .nil pass0 (pa_cons (pv 2) pa_nil)))) pa_nil))))))), ?_⟩
    walk_at "sw"
    rw [List.length_map, decide_eq_true hn]
    walk_at "sw"
    refine ⟨a, rfl, ⟨_, SqL.of ha⟩, fun D nD => c_map (xs := ns.map V.int) (fun _ => .bl true) (SqL.of ha) nD (by rw [List.length_map]; exact hl) (fun v => rfl) ?_ ?_⟩
    · intro x hx H' hH R hR
      obtain ⟨r, hr', rfl⟩ := List.mem_map.mp hx
      walk_at "sw"
      exact ⟨_, rfl, ⟨_, rfl⟩, hR⟩
    · walk_at "sw"
      refine i_all (bs := ns.map fun _ => true) (by rw [upd_same, List.map_map, List.map_map]; rfl) ?_
      rw [show (ns.map fun _ => true).all id = true by rw [List.all_eq_true]; intro x hx; obtain ⟨_, _, rfl⟩ := List.mem_map.mp hx; rfl]
      exact q _ (same_new nD)
theorem ok_law (T : Tx K mg) : FnOk P w K mg base CX0 6 T.f_law T.fd_law ["_law_script"] (spLaw K) := by
  refine T.F_law.ok sc_law (fun vs H Q E h => ?_) (fun cdv A outer s0 H vs Q E hr h => ?_)
  · obtain ⟨a, ns, rfl, _⟩ := h
    rfl
  · obtain ⟨a, ns, rfl, hS, hlen, hbits, q⟩ := h
    obtain ⟨mv_kb_Clocks_init_err_gain, hkb_Clocks_init_err_gain⟩ := kb_Clocks_init_err_gain T
    refine ⟨_, (pss_cons (ps_set (i := 1) sc_law.nd rfl (Or.inl rfl) (pe_call (ok_law_start T) (hr.mono (by decide)) (by rfl) T.g_law_start T.F_law_start.kp T.b_law_start .nil pass0 (pa_cons (pv 0) pa_nil)))
      (pss_cons (ps_set (i := 2) sc_law.nd rfl (Or.inl rfl) (pe_ix (ix_listK (K := K) rfl) (pe_lst (pa_cons pe_int (pa_cons pe_int pa_nil))) (pe_call (ok_law_draw T) (hr.mono (by decide)) (by rfl) T.g_law_draw T.F_law_draw.kp T.b_law_draw .nil pass0 (pa_cons (pv 1) (pa_cons pe_int pa_nil))) (fun _ _ => rfl)))
      (pss_cons (ps_set (i := 3) sc_law.nd rfl (Or.inr rfl) (pe_call (ok_law_draw T) (hr.mono (by decide)) (by rfl) T.g_law_draw T.F_law_draw.kp T.b_law_draw .nil pass0 (pa_cons (pv 1) (pa_cons (pv 2) pa_nil))))
      (pss_cons (ps_set (i := 4) sc_law.nd rfl (Or.inl rfl) (pe_call (ok_law_draw T) (hr.mono (by decide)) (by rfl) T.g_law_draw T.F_law_draw.kp T.b_law_draw .nil pass0 (pa_cons (pv 1) (pa_cons (pv 2) pa_nil))))
      (pss_cons (ps_set (i := 5) sc_law.nd rfl (Or.inl rfl) (pe_call (ok_wider T) (hr.mono (by decide)) (by rfl) T.g_wider T.F_wider.kp T.b_wider .nil pass0 (pa_cons (pv 3) (pa_cons (pv 4) pa_nil))))
      (pss_cons (ps_if (pt_cmpR op_eq (pe_op op_add (pv 3) (pv 4)) pe_int (nomark _))
      (pss_one (ps_ret (pe_cmpR op_isN (pv 5) pe_non (nomark _))))
      pss_nil)
      (pss_cons (ps_if ((pw_or (pt_not (pt_val (pe_callB (call_isiKK (K := K) rfl) (by rfl) T.z_isinstance bt_isinstance (pa_cons (pv 5) (pa_cons (pe_bltn (v := .ty "tuple") (by rfl) T.z_tuple bt_tuple rfl) pa_nil))))) (pw_or (pt_cmpR op_ne (pe_callB (call_lenK (K := K) rfl) (by rfl) T.z_len bt_len (pa_cons (pv 5) pa_nil)) pe_int (nomark _)) (pw_or (pt_not (pt_val (pe_callB (call_isiKK (K := K) rfl) (by rfl) T.z_isinstance bt_isinstance (pa_cons (pe_ix (ix_tupK (K := K) rfl) (pv 5) pe_int (fun _ _ => rfl)) (pa_cons (pe_bltn (v := .ty "list") (by rfl) T.z_list bt_list rfl) pa_nil))))) (pw_or1 (pt_cmpR op_ne (pe_callB (call_lenK (K := K) rfl) (by rfl) T.z_len bt_len (pa_cons (pe_ix (ix_tupK (K := K) rfl) (pv 5) pe_int (fun _ _ => rfl)) pa_nil)) pe_int (nomark _))))))).pt
      (pss_one (ps_ret pe_bl))
      pss_nil)
      (pss_cons (ps_asg (pv 5) (pg_tupK (K := K) (n := 3) rfl (by rfl) (pgs_cons (pg_name (i := 6) sc_law.nd rfl (Or.inr rfl)) (pgs_cons (pg_name (i := 7) sc_law.nd rfl (Or.inr rfl)) (pgs_cons (pg_name (i := 8) sc_law.nd rfl (Or.inl rfl)) pgs_nil)))))
      (pss_cons (ps_if ((pw_or (pt_not (pt_val (pe_call (ok_law_numbers T) (hr.mono (by decide)) (by rfl) T.g_law_numbers T.F_law_numbers.kp T.b_law_numbers .nil pass0 (pa_cons (pv 6) (pa_cons pe_int pa_nil))))) (pw_or (pt_not (pt_val (pe_call (ok_law_numbers T) (hr.mono (by decide)) (by rfl) T.g_law_numbers T.F_law_numbers.kp T.b_law_numbers .nil pass0 (pa_cons (pv 8) (pa_cons pe_int pa_nil))))) (pw_or1 (pt_cmpR op_ne (pe_ix (ix_listK (K := K) rfl) (pv 6) pe_int (fun _ _ => rfl)) pe_int (nomark _)))))).pt
      (pss_one (ps_ret pe_bl))
      pss_nil)
      (pss_cons (ps_set (i := 9) sc_law.nd rfl (Or.inl rfl) (pe_lst pa_nil))
      (pss_cons (ps_for PassesOwn.never rfl (pi_range1 (by rfl) T.z_range (pa_cons pe_int pa_nil)) (pg_name (i := 10) sc_law.nd rfl (Or.inr rfl))
      (pss_cons (ps_if ((pw_or (pt_not (pt_val (pe_callB (call_isiKK (K := K) rfl) (by rfl) T.z_isinstance bt_isinstance (pa_cons (pe_ix (ix_listK (K := K) rfl) (pv 7) (pv 10) (fun _ _ => rfl)) (pa_cons (pe_bltn (v := .ty "list") (by rfl) T.z_list bt_list rfl) pa_nil))))) (pw_or (pt_cmpR op_ne (pe_callB (call_lenK (K := K) rfl) (by rfl) T.z_len bt_len (pa_cons (pe_ix (ix_listK (K := K) rfl) (pv 7) (pv 10) (fun _ _ => rfl)) pa_nil)) pe_int (nomark _)) (pw_or1 (pt_not (pt_chain op_le op_le pe_int (pe_ix (ix_listK (K := K) rfl) (pv 8) (pv 10) (fun _ _ => rfl)) (pv 4))))))).pt
      (pss_one (ps_ret pe_bl))
      pss_nil)
      (pss_cons (ps_if (pt_not (pt_val (pe_callB (cr_allK (K := K) rfl (by rfl)) (by rfl) T.z_all bt_all (pa_cons (pe_lc (own := [("_law_other", 13), ("_law_word", 14)]) (by rfl) sc_law.nd (pi_enumK (K := K) rfl (by rfl) T.z_enumerate (pa_cons (pe_ix (ix_listK (K := K) rfl) (pv 7) (pv 10) (fun _ _ => rfl)) pa_nil)) (blkOk_by (own := [("_law_other", 13), ("_law_word", 14)]) (N := ["_law_script", "_law_s", "_law_top", "_law_fault", "_law_more", "_law_found", "_law_stands", "_law_heard", "_law_gains", "_law_after", "_law_at", "_law_wide", "_law_clocks", "_law_other", "_law_word"]) (sc := defScope s_law) (by decide +kernel)) (fun _ _ _ _ _ => (pg_tupK (K := K) (n := 2) rfl (by rfl) (pgs_cons (pg_name (i := 13) sc_law.nd rfl (Or.inl rfl)) (pgs_cons (pg_name (i := 14) sc_law.nd rfl (Or.inl rfl)) pgs_nil)))) (fun _ _ _ _ _ => pts_nil) (fun _ _ _ _ _ => (pe_or (pe_call (ok_law_whole T) (hr.mono (by decide)) (by rfl) T.g_law_whole T.F_law_whole.kp T.b_law_whole .nil pass0 (pa_cons (pv 14) pa_nil)) (pe_one (pe_and (pe_cmpR op_isN (pv 14) pe_non (nomark _)) (pe_one (pe_cmpR op_eq (pv 13) pe_int (nomark _)))))))) pa_nil))))
      (pss_one (ps_ret pe_bl))
      pss_nil)
      (pss_cons (ps_if (pt_not (pt_val (pe_callB (cr_allK (K := K) rfl (by rfl)) (by rfl) T.z_all bt_all (pa_cons (pe_lc (own := [("_law_other", 13)]) (by rfl) sc_law.nd (pi_range1 (by rfl) T.z_range (pa_cons pe_int pa_nil)) (blkOk_by (own := [("_law_other", 13)]) (N := ["_law_script", "_law_s", "_law_top", "_law_fault", "_law_more", "_law_found", "_law_stands", "_law_heard", "_law_gains", "_law_after", "_law_at", "_law_wide", "_law_clocks", "_law_other", "_law_word"]) (sc := defScope s_law) (by decide +kernel)) (fun _ _ _ _ _ => (pg_name (i := 13) sc_law.nd rfl (Or.inl rfl))) (fun _ _ _ _ _ => pts_nil) (fun _ _ _ _ _ => (pe_chain op_le op_le pe_int (pe_op op_sub (pe_ix (ix_listK (K := K) rfl) (pe_ix (ix_listK (K := K) rfl) (pv 7) (pv 10) (fun _ _ => rfl)) (pv 13) (fun _ _ => rfl)) (pe_ix (ix_listK (K := K) rfl) (pv 6) (pv 13) (fun _ _ => rfl))) (pv 3)))) pa_nil))))
      (pss_one (ps_ret pe_bl))
      pss_nil)
      (pss_one (ps_expr (pe_bm PySem.F.plainAttrs_list PySem.F.slot_list_append PySem.F.type_list_append mt_append (pv 9) (pa_cons (pe_op op_add (pe_call (ok_law_middle T) (hr.mono (by decide)) (by rfl) T.g_law_middle T.F_law_middle.kp T.b_law_middle .nil pass0 (pa_cons (pe_ix (ix_listK (K := K) rfl) (pv 7) (pv 10) (fun _ _ => rfl)) pa_nil)) (pe_ix (ix_listK (K := K) rfl) (pv 8) (pv 10) (fun _ _ => rfl))) pa_nil))))))))
      (pss_cons (ps_set (i := 11) sc_law.nd rfl (Or.inl rfl) (pe_op op_add (pe_op op_mul pe_int (pv 3)) (pe_op op_mul pe_int (pv 4))))
      (pss_cons (ps_if ((pw_or (pt_cmpR op_ne (pe_op op_sub (pe_callB (cr_maxK (K := K) rfl (by rfl)) (by rfl) T.z_max bt_max (pa_cons (pe_slice (sl_listK (K := K) rfl) (pv 6) po_none (po_some pe_int)) pa_nil)) (pe_callB (cr_minK (K := K) rfl (by rfl)) (by rfl) T.z_min bt_min (pa_cons (pe_slice (sl_listK (K := K) rfl) (pv 6) po_none (po_some pe_int)) pa_nil))) (pe_op op_sub (pv 11) pe_int) (nomark _)) (pw_or1 (pt_cmpR op_ne (pe_op op_sub (pe_callB (cr_maxK (K := K) rfl (by rfl)) (by rfl) T.z_max bt_max (pa_cons (pv 9) pa_nil)) (pe_callB (cr_minK (K := K) rfl (by rfl)) (by rfl) T.z_min bt_min (pa_cons (pv 9) pa_nil))) (pv 11) (nomark _))))).pt
      (pss_one (ps_ret pe_bl))
      pss_nil)
      (pss_cons (ps_set (i := 12) sc_law.nd rfl (Or.inl rfl) (pe_mkNS T.M_Clocks (ok_Clocks_init T) (hr.mono (by decide)) (by rfl) T.g_Clocks hkb_Clocks_init_err_gain coldAt (pa_cons (pe_op op_cat (pe_slice (sl_listK (K := K) rfl) (pv 6) po_none (po_some pe_int)) (pe_lst (pa_cons (pe_ix (ix_listK (K := K) rfl) (pv 6) pe_int (fun _ _ => rfl)) pa_nil))) pa_nil) (pk_cons (pv 3) (pk_cons (pv 4) pk_nil))))
      (pss_cons (ps_expr (pe_meS (pv 12) T.C_Clocks T.m_Clocks_fall (ok_Clocks_fall T) (hr.mono (by decide)) T.b_Clocks_fall .nil coldAt (pa_cons pe_int pa_nil)))
      (pss_cons (ps_expr (pe_meS (pv 12) T.C_Clocks T.m_Clocks_turn (ok_Clocks_turn T) (hr.mono (by decide)) T.b_Clocks_turn .nil coldAt (pa_cons (pv 7) (pa_cons (pv 8) pa_nil))))
      (pss_one (ps_ret (pe_and (pe_cmpR (op_eqDK (K := K) rfl hr.units) (pe_meth0 (pv 12) T.C_Clocks T.m_Clocks_told (ok_Clocks_told T) (hr.mono (by decide)) T.b_Clocks_told .nil pass0) (pe_op op_cat (pv 9) (pe_lst (pa_cons pe_non pa_nil))) (nomark _)) (pe_one (pe_cmpR op_eq (pe_meth0 (pv 12) T.C_Clocks T.m_Clocks_width (ok_Clocks_width T) (hr.mono (by decide)) T.b_Clocks_width .nil pass0) (pv 11) (nomark _)))))))))))))))))))))), ?_⟩
    walk_at "sw"
    refine ⟨a, ns, H, rfl, hS, Same.refl H, fun s U H1 g D n0 => ?_⟩
    have hU := g.vh
    walk_at "sw"
    intro p np
    have nUp := hU.free np
    walk_at "sw"
    refine ⟨s, 2, upd U p (.lst [.int 4, .int 1001]), rfl, by decide, by decide, same_both hU, D.new np hU, fun c H2 c0 c1 hU2 D2 ho => ?_⟩
    obtain ⟨top, ht, t0, t1⟩ : ∃ top : Int, atI [V.int 4, V.int 1001] c = some (.int top) ∧ 4 ≤ top ∧ top ≤ 1001 := by
      have : c = 0 ∨ c = 1 := by omega
      rcases this with rfl | rfl
      · exact ⟨_, rfl, by decide, by decide⟩
      · exact ⟨_, rfl, by decide, by decide⟩
    refine i_ixL (hU2 _ _ upd_same) ht ?_
    walk_at "sw"
    obtain ⟨U2, eU2⟩ : ∃ X, X = upd U p (.lst [.int 4, .int 1001]) := ⟨_, rfl⟩
    rw [← eU2] at hU2 D2
    clear ho eU2
    refine ⟨s, top, U2, rfl, by omega, by omega, hU2, D2, fun e H3 e0 e1 hU3 D3 ho3 => ?_⟩
    walk_at "sw"
    refine ⟨s, top, U2, rfl, by omega, by omega, hU3, D3, fun m H4 m0 m1 hU4 D4 ho4 => ?_⟩
    walk_at "sw"
    refine ⟨e, m, rfl, fun z => ?_, fun z tt S M G r1 r2 r3 r4 H5 s5 ht5 hS5 hM5 hG5 hr1 hr2 hr3 hr4 => ?_⟩
    · walk_at "sw"
      rw [decide_eq_true (by omega)]
      walk_at "sw"
      exact q _
    · walk_at "sw"
      rw [decide_eq_false (by omega)]
      walk_at "sw"
      refine i_iteN (fun h => absurd rfl h) (fun _ => ?_)
      walk_at "sw"
      refine i_iteN (fun h => absurd rfl h) (fun _ => ?_)
      walk_at "sw"
      refine ⟨S, _, 4, rfl, hS5, rfl, Nat.le_of_ble_eq_true rfl, fun H6 s6 => ?_⟩
      have hG6 := s6 _ _ hG5
      walk_at "sw"
      refine ⟨G, _, 4, rfl, hG6, rfl, Nat.le_of_ble_eq_true rfl, fun H7 s7' => ?_⟩
      have s7 := s6.trans s7'
      have hS7 := s7 _ _ hS5
      walk_at "sw"
      refine i_iteN (fun h => absurd rfl h) (fun _ => ?_)
      walk_at "sw"
      intro L nL
      have s8 : Same H5 (upd H7 L (.lst [])) := s7.trans (same_new nL)
      obtain ⟨sl, esl⟩ : ∃ sl, sl = 2 * e + 2 * m := ⟨_, rfl⟩
      rw [← esl] at z hS5 hr1 hr2 hr3 hr4
      have lowm : midOf [0, 1, sl - 1, 0] = 0 := by
        rw [← mid_eq (s := [0, 0, 1, sl - 1]) (x := 0) (y := 1) ?_ ?_ rfl rfl]
        · rfl
        · exact (List.perm_append_comm (l₁ := [0]) (l₂ := [0, 1, sl - 1]))
        · simp
          omega
      have him : midOf [e, 1 + e, sl - 1 + e, sl - 1 + e] + m = sl := by
        rw [← mid_eq (s := [e, 1 + e, sl - 1 + e, sl - 1 + e]) (x := 1 + e) (y := sl - 1 + e) (List.Perm.refl _) ?_ rfl rfl]
        · omega
        · simp
          omega
      have row : ∀ i : Nat, i < 3 → ∃ (r : Addr) (ws : List Int) (gi : Int), ([r1, r2, r3, r4].map V.ref)[i]? = some (.ref r) ∧ H5 r = some (.lst (ws.map V.int)) ∧ ws.length = 4 ∧ ([0, 0, m, 0] : List Int)[i]? = some gi ∧ 0 ≤ gi ∧ gi ≤ m ∧
          (∀ o : Nat, o < 3 → 0 ≤ ws.getD o 0 - ([0, 1, sl - 1, 0] : List Int).getD o 0 ∧ ws.getD o 0 - ([0, 1, sl - 1, 0] : List Int).getD o 0 ≤ e) ∧ ([0, 0, sl] : List Int).take (i + 1) = ([0, 0, sl] : List Int).take i ++ [midOf ws + gi] := by
        have o3 : ∀ o : Nat, o < 3 → o = 0 ∨ o = 1 ∨ o = 2 := fun o h => by omega
        intro i hi
        rcases o3 i hi with rfl | rfl | rfl
        · exact ⟨r1, _, 0, rfl, hr1, rfl, rfl, by omega, by omega, fun o ho => by rcases o3 o ho with rfl | rfl | rfl <;> simp <;> omega, by rw [lowm]; rfl⟩
        · exact ⟨r2, _, 0, rfl, hr2, rfl, rfl, by omega, by omega, fun o ho => by rcases o3 o ho with rfl | rfl | rfl <;> simp <;> omega, by rw [lowm]; rfl⟩
        · exact ⟨r3, _, m, rfl, hr3, rfl, rfl, by omega, by omega, fun o ho => by rcases o3 o ho with rfl | rfl | rfl <;> simp <;> omega, by rw [him]; rfl⟩
      walk_at "sw"
      refine ⟨by decide, by decide, l_rng (fun i σ H' => ∃ v10, σ = [some (.ref a), some (.ref s), some (.int top), some (.int e), some (.int m), some (.ref tt), some (.ref S), some (.ref M), some (.ref G), some (.ref L), v10, none, none, none, none] ∧ Same H7 H' ∧
        H' L = some (.lst ((([0, 0, sl] : List Int).take i).map V.int))) ⟨_, rfl, same_new nL, upd_same⟩ ?_ ?_⟩
      · rintro i σ H8 hi ⟨v10, rfl, s9, hL8⟩
        obtain ⟨r, ws, gi, er, hr8, lw, eg, g0, g1, hw, htk⟩ := row i hi
        have hM8 := s9 _ _ (s7 _ _ hM5)
        have hS8 := s9 _ _ (s7 _ _ hS5)
        have hG8 := s9 _ _ (s7 _ _ hG5)
        have hr8 := s9 _ _ (s7 _ _ hr8)
        have aM : atI ([r1, r2, r3, r4].map V.ref) (i : Int) = some (.ref r) := at_of (j := i) rfl er
        have aG : atI (([0, 0, m, 0] : List Int).map V.int) (i : Int) = some (.int gi) := at_of (j := i) rfl (by rw [List.getElem?_map, eg]; rfl)
        rw [Int.zero_add]
        walk_at "sw"
        refine i_ixL hM8 aM ?_
        walk_at "sw"
        refine i_ixL hM8 aM ?_
        walk_at "sw"
        rw [List.length_map, lw]
        refine i_iteN (fun h => absurd rfl h) (fun _ => ?_)
        walk_at "sw"
        refine i_ixL hG8 aG ?_
        walk_at "sw"
        refine i_ite (fun _ => ?_) (fun h => absurd g0 h)
        walk_at "sw"
        rw [decide_eq_true g1]
        walk_at "sw"
        refine i_ixL hM8 aM ?_
        walk_at "sw"
        refine ⟨r, _, rfl, SqL.of hr8, fun D1 nD1 => c_pair (L := enumL (ws.map V.int)) (fun _ _ => true) (fun _ _ => .bl true) walk_enumL (by rw [enumL_len, List.length_map]; omega) nD1 (fun H' h => SqL.of (h _ _ hr8)) (fun v u => rfl) ?_ ?_ ?_⟩
        · intro k x y hxy H' hH R hR
          walk_at "sw"
          exact hR
        · intro k x y hxy _ H' hH R hR
          obtain ⟨rfl, ey⟩ := enumL_at hxy
          rw [List.getElem?_map] at ey
          obtain ⟨v, rfl⟩ : ∃ v, y = .int v := by
            cases ez : ws[k]? with
            | none => rw [ez] at ey; cases ey
            | some v => rw [ez] at ey; exact ⟨v, (Option.some.inj ey).symm⟩
          walk_at "sw"
          refine ⟨_, rfl, ⟨_, rfl⟩, ?_⟩
          walk_at "sw"
          exact hR H' (Same.refl H')
        · intro H9 s10 hD1
          have hM9 := s10 _ _ hM8
          have hS9 := s10 _ _ hS8
          have hG9 := s10 _ _ hG8
          have hr9 := s10 _ _ hr8
          have hL9 := s10 _ _ hL8
          walk_at "sw"
          refine i_all (bs := (enumL (ws.map V.int)).map fun _ => true) ?_ ?_
          · rw [hD1, List.map_map]
            unfold coll
            rw [List.filter_eq_self.mpr (fun _ _ => rfl)]
            rfl
          rw [show ((enumL (ws.map V.int)).map fun _ => true).all id = true by rw [List.all_eq_true]; intro x hx; obtain ⟨_, _, rfl⟩ := List.mem_map.mp hx; rfl]
          walk_at "sw"
          refine ⟨by decide, by decide, fun D2 nD2 => c_mapR (fun _ => .bl true) nD2 (by decide) (fun v => rfl) ?_ ?_⟩
          · intro o ho H' hH R hR
            have ho3 : o < 3 := ho
            obtain ⟨w0, w1⟩ := hw o ho3
            have hx : ∀ b o', H9 b = some o' → H' b = some o' := fun b o' hb => by rw [hH b (ne_of_none hb nD2)]; exact hb
            have aW := at_int (ns := ws) (k := o) (by omega)
            have aT := at_int (ns := ([0, 1, sl - 1, 0] : List Int)) (k := o) (by show o < 4; omega)
            rw [Int.zero_add]
            walk_at "sw"
            refine i_ixL (hx _ _ hM9) aM ?_
            walk_at "sw"
            refine i_ixL (hx _ _ hr9) aW ?_
            walk_at "sw"
            refine i_ixL (hx _ _ hS9) aT ?_
            walk_at "sw"
            refine i_ite (fun _ => ?_) (fun h => absurd w0 h)
            walk_at "sw"
            rw [decide_eq_true w1]
            exact hR
          · have s11 := s10.trans (same_new (o := .lst ((List.range (3 : Int).toNat).map fun _ => V.bl true)) nD2)
            obtain ⟨Hx, eHx⟩ : ∃ X, X = upd H9 D2 (.lst ((List.range (3 : Int).toNat).map fun _ => V.bl true)) := ⟨_, rfl⟩
            have hD2 : Hx D2 = some (.lst (([true, true, true] : List Bool).map V.bl)) := by rw [eHx, upd_same]; rfl
            rw [← eHx] at s11 ⊢
            have hMx := s11 _ _ hM8
            have hGx := s11 _ _ hG8
            have hrx := s11 _ _ hr8
            walk_at "sw"
            refine i_all hD2 ?_
            rw [show ([true, true, true] : List Bool).all id = true from rfl]
            have hLx := s11 _ _ hL8
            walk_at "sw"
            refine i_ixL hMx aM ?_
            walk_at "sw"
            have isn : ∀ v ∈ ws.map V.int, isN v = true := fun v hv => by
              obtain ⟨_, _, rfl⟩ := List.mem_map.mp hv
              rfl
            refine ⟨r, _, rfl, hrx, by rw [List.length_map]; omega, fun v hv => .inr (isn v hv), by rw [fm_int]; omega, fun Hy sy => ?_⟩
            rw [fm_int]
            have hGy := sy _ _ hGx
            have hLy := sy _ _ hLx
            walk_at "sw"
            refine i_ixL hGy aG ?_
            walk_at "sw"
            refine ⟨_, rfl, same_mut (s9.trans (s11.trans sy)) nL, ?_⟩
            rw [upd_same, htk, List.map_append]
            rfl
      · rintro σ H8 ⟨v10, rfl, s9, hL8⟩
        have hL8 : H8 L = some (.lst (([0, 0, sl] : List Int).map V.int)) := hL8
        have hM8 := s9 _ _ (s7 _ _ hM5)
        have hS8 := s9 _ _ (s7 _ _ hS5)
        have hG8 := s9 _ _ (s7 _ _ hG5)
        have z2 : 2 ≤ sl := by omega
        have mx3 : mx [0, 1, sl - 1] = sl - 1 := by
          show max 0 (max 1 (sl - 1)) = _
          omega
        have mn3 : mn [0, 1, sl - 1] = 0 := by
          show min 0 (min 1 (sl - 1)) = _
          omega
        have cut3 : cutV (([0, 1, sl - 1, 0] : List Int).map V.int) none (some 3) = ([0, 1, sl - 1] : List Int).map V.int := cut_to (([0, 1, sl - 1, 0] : List Int).map V.int) 3
        walk_at "sw"
        rw [cut3, ← esl]
        intro c1 nc1
        walk_at "sw"
        refine i_mx upd_same (by simp) ?_
        walk_at "sw"
        rw [cut3]
        intro c2 nc2
        walk_at "sw"
        refine i_mn upd_same (by simp) ?_
        walk_at "sw"
        rw [mx3, mn3, decide_eq_true (show sl - 1 - 0 = sl - 1 by omega)]
        have mxA : mx [0, 0, sl] = sl := by
          show max 0 (max 0 sl) = _
          omega
        have mnA : mn [0, 0, sl] = 0 := by
          show min 0 (min 0 sl) = _
          omega
        walk_at "sw"
        refine i_mx (by walk_at "hp") (by simp) ?_
        walk_at "sw"
        refine i_mn (by walk_at "hp") (by simp) ?_
        walk_at "sw"
        rw [mxA, mnA, decide_eq_true (show sl - 0 = sl by omega)]
        walk_at "sw"
        rw [cut3]
        have sB := (same_new (o := .lst (([0, 1, sl - 1] : List Int).map V.int)) nc1).trans (same_new (o := .lst (([0, 1, sl - 1] : List Int).map V.int)) nc2)
        obtain ⟨H9, eH9⟩ : ∃ X, X = upd (upd H8 c1 (.lst (([0, 1, sl - 1] : List Int).map V.int))) c2 (.lst (([0, 1, sl - 1] : List Int).map V.int)) := ⟨_, rfl⟩
        rw [← eH9] at sB ⊢
        clear eH9
        have hL9 := sB _ _ hL8
        have hM9 := sB _ _ hM8
        have hS9 := sB _ _ hS8
        have hG9 := sB _ _ hG8
        intro d1 nd1
        walk_at "sw"
        intro d2 nd2
        refine ⟨d1, d2, _, _, rfl, rfl, upd_get nd2 upd_same, upd_same, Nat.le_of_ble_eq_true rfl, fun d3 nd3 => ?_⟩
        have sC := ((same_new nd1).trans (same_new nd2)).trans (same_new (o := .lst (([0, 1, sl - 1] : List Int).map V.int ++ [V.int 0])) nd3)
        have hd3 : (upd (upd (upd H9 d1 (.lst (([0, 1, sl - 1] : List Int).map V.int))) d2 (.lst [V.int 0])) d3 (.lst (([0, 1, sl - 1] : List Int).map V.int ++ [V.int 0]))) d3 = some (.lst (([0, 1, sl - 1, 0] : List Int).map V.int)) := upd_same
        obtain ⟨HA, eHA⟩ : ∃ X, X = upd (upd (upd H9 d1 (.lst (([0, 1, sl - 1] : List Int).map V.int))) d2 (.lst [V.int 0])) d3 (.lst (([0, 1, sl - 1] : List Int).map V.int ++ [V.int 0])) := ⟨_, rfl⟩
        rw [← eHA] at sC hd3 ⊢
        clear eHA
        have sA : Same H5 HA := (s7.trans s9).trans (sB.trans sC)
        have hLA := sC _ _ hL9
        walk_at "sw"
        refine ⟨rfl, rfl, fun x dx nx ndx nex => ?_⟩
        have sD := (same_new (o := .own x) ndx).trans (same_new (o := .ins T.c_Clocks dx []) (by rw [upd_ne nex.symm]; exact nx))
        have ie : initE (([0, 1, sl - 1, 0] : List Int).map V.int) (.int e) (.int m) = 0 := by
          have hmx : mx [0, 1, sl - 1, 0] = sl - 1 := by
            show max 0 (max 1 (max (sl - 1) 0)) = _
            omega
          have hmn : mn [0, 1, sl - 1, 0] = 0 := by
            show min 0 (min 1 (min (sl - 1) 0)) = _
            omega
          have ok1 : ∀ v : Int, 0 ≤ v → v ≤ 1000 → okN 0 1000 (.int v) = true := fun v h1 h2 => by
            show (decide (0 ≤ v) && decide (v ≤ 1000)) = true
            rw [decide_eq_true h1, decide_eq_true h2]
            rfl
          unfold initE
          rw [if_neg (by simp), if_neg (by simp), ok1 e (by omega) (by omega), ok1 m (by omega) (by omega)]
          show (if (true && true && true) = true then wideE (([0, 1, sl - 1, 0] : List Int).map V.int) (.int e) (.int m) else 2) = 0
          show (if mx (intsV (([0, 1, sl - 1, 0] : List Int).map V.int)) - mn (intsV (([0, 1, sl - 1, 0] : List Int).map V.int)) > 2 * e + 2 * m then 2 else 0) = 0
          rw [fm_int, hmx, hmn, if_neg (by omega)]
        refine ⟨x, d3, dx, _, _, _, rfl, upd_same, sD _ _ hd3, Nat.le_of_ble_eq_true rfl, ?_, .int e, .int m, fun h => ?_, fun h => ?_, fun _ ns' ei gi A' B' HB e1 e2 e3 _ _ _ _ _ nA nB cl fr => ⟨rfl, ?_⟩⟩
        · intro v hv
          obtain ⟨i, _, rfl⟩ := List.mem_map.mp hv
          exact .int i
        · rw [ie] at h
          cases h
        · rw [ie] at h
          cases h
        have e1' : ns' = [0, 1, sl - 1, 0] := ((List.map_inj_right (f := V.int) (fun a b h => V.int.inj h)).mp e1).symm
        cases e2
        cases e3
        subst e1'
        have xM : ∀ b o, HA b = some o → HB b = some o := fun b o hb => fr b o (sD _ _ hb) (ne_of_none hb nx)
        obtain ⟨⟨dxB, hxB⟩, _⟩ := id cl
        unfold fsC at hxB
        walk_at "sw"
        refine ⟨x, A', B', .int 3, _, _, e, m, rfl, .int 3, cl, fun h => ?_, fun _ h => ?_, fun _ k HC ek hk clC frC => ?_⟩
        · have : okN 0 ((([0, 1, sl - 1, 0] : List Int).length : Int) - 1) (.int 3) = true := rfl
          rw [this] at h
          cases h
        · cases h
        have ek' : k = 3 := by
          have := V.int.inj ek
          omega
        subst ek'
        have xC : ∀ b o, HA b = some o → HC b = some o := fun b o hb => frC b o (xM b o hb) (ne_of_none (sD _ _ hb) nB)
        obtain ⟨⟨dxC, hxC⟩, _⟩ := id clC
        unfold fsC at hxC
        walk_at "sw"
        have tok : turnOk [0, 1, sl - 1, 0] [0, 0, 0, 1] e m [([0, 1, sl - 1, 0] : List Int).map V.int, ([0, 1, sl - 1, 0] : List Int).map V.int, ([e, 1 + e, sl - 1 + e, sl - 1 + e] : List Int).map V.int, ([0, 1, sl - 1, 0] : List Int).map V.int] (([0, 0, m, 0] : List Int).map V.int) = true := by
          simp [turnOk, atOk, rowOk, wordOk, okN, isN, isNo, List.range_succ]
          omega
        refine ⟨x, A', B', M, G, [r1, r2, r3, r4], _, _, _, _, e, m, rfl, clC, xC _ _ (sA _ _ hM5), .cons (xC _ _ (sA _ _ hr1)) (.cons (xC _ _ (sA _ _ hr2)) (.cons (xC _ _ (sA _ _ hr3)) (.cons (xC _ _ (sA _ _ hr4)) .nil))), xC _ _ (sA _ _ hG5), ?_, ?_, ⟨3, ?_⟩, fun h => ?_, fun _ A2 B2 HD nA2 nB2 clD frD => ?_⟩
        · intro r hr'
          simp only [List.mem_cons, List.not_mem_nil, or_false] at hr'
          rcases hr' with rfl | rfl | rfl | rfl <;> refine ⟨Nat.le_of_ble_eq_true rfl, fun v hv => ?_⟩ <;> (obtain ⟨i, _, rfl⟩ := List.mem_map.mp hv; exact .int i)
        · intro v hv
          obtain ⟨i, _, rfl⟩ := List.mem_map.mp hv
          exact .int i
        · intro k hk'
          match k, hk' with
          | 0, _ => rfl
          | 1, _ => rfl
          | 2, _ => rfl
          | 3, h => exact absurd rfl h
          | k + 4, _ => rfl
        · exact nomatch (tok.symm.trans h)
        have eN : newSt [0, 1, sl - 1, 0] ((List.replicate ([0, 1, sl - 1, 0] : List Int).length (0 : Int)).set 3 1) [([0, 1, sl - 1, 0] : List Int).map V.int, ([0, 1, sl - 1, 0] : List Int).map V.int, ([e, 1 + e, sl - 1 + e, sl - 1 + e] : List Int).map V.int, ([0, 1, sl - 1, 0] : List Int).map V.int] (([0, 0, m, 0] : List Int).map V.int) = [0, 0, sl, 0] := by
          show [midOf (intsV (([0, 1, sl - 1, 0] : List Int).map V.int)) + 0, midOf (intsV (([0, 1, sl - 1, 0] : List Int).map V.int)) + 0, midOf (intsV (([e, 1 + e, sl - 1 + e, sl - 1 + e] : List Int).map V.int)) + m, 0] = _
          rw [fm_int, fm_int, lowm, him]
          rfl
        rw [eN] at clD
        have xD : ∀ b o, HC b = some o → b ≠ x → HD b = some o := frD
        have Lx : L ≠ x := ne_of_none hLA nx
        have hLD := xD _ _ (xC _ _ hLA) Lx
        obtain ⟨⟨dxD, hxD⟩, _⟩ := id clD
        unfold fsC at hxD
        walk_at "sw"
        refine ⟨x, A2, B2, _, _, e, m, rfl, clD, fun tl HE ntl sE htl => ?_⟩
        have hLE := sE _ _ hLD
        have clE := clD.same sE
        obtain ⟨⟨dxE, hxE⟩, _⟩ := id clE
        unfold fsC at hxE
        walk_at "sw"
        intro n1 nn1
        have aftL : ([0, 0, sl] : List Int).map V.int ++ [V.non] = [V.int 0, V.int 0, V.int sl, V.non] := rfl
        refine ⟨L, n1, _, _, rfl, rfl, upd_get nn1 hLE, upd_same, Nat.le_of_ble_eq_true rfl, fun n2 nn2 => ?_⟩
        have sF : Same HE (upd (upd HE n1 (.lst [V.non])) n2 (.lst (([0, 0, sl] : List Int).map V.int ++ [V.non]))) := (same_new nn1).trans (same_new nn2)
        have hn2 : (upd (upd HE n1 (.lst [V.non])) n2 (.lst (([0, 0, sl] : List Int).map V.int ++ [V.non]))) n2 = some (.lst [V.int 0, V.int 0, V.int sl, V.non]) := upd_same
        obtain ⟨HF, eHF⟩ : ∃ X, X = upd (upd HE n1 (.lst [V.non])) n2 (.lst (([0, 0, sl] : List Int).map V.int ++ [V.non])) := ⟨_, rfl⟩
        rw [← eHF] at sF hn2 ⊢
        clear eHF
        have htl : HE tl = some (.lst [V.int 0, V.int 0, V.int sl, V.non]) := htl
        have dd : ∀ r, HF r = some (.lst [V.int 0, V.int 0, V.int sl, V.non]) → Dp K HF (.ref r) (.list [.int 0, .int 0, .int sl, .none]) := fun r h => .lst (SqL.of h) (.cons (.int _) (.cons (.int _) (.cons (.int _) (.cons .non .nil))))
        refine i_eqT (dd _ (sF _ _ htl)) (dd _ hn2) ?_ ?_
        · refine (lay_list (n := 0) fun x hx => ?_).up (by decide)
          simp only [List.mem_cons, List.not_mem_nil, or_false] at hx
          rcases hx with rfl | rfl | rfl | rfl <;> first | exact lay_int | exact lay_none
        have clF := clE.same sF
        obtain ⟨⟨dxF, hxF⟩, _⟩ := id clF
        unfold fsC at hxF
        walk_at "sw"
        refine ⟨x, A2, B2, _, _, e, m, rfl, clF, ?_, fun HG sG => ?_⟩
        · intro z
          cases z
        have eg : goodL [0, 0, sl, 0] (newSs ((List.replicate ([0, 1, sl - 1, 0] : List Int).length (0 : Int)).set 3 1)) = [0, 0, sl] := rfl
        rw [eg, mxA, mnA]
        walk_at "sw"
        rw [decide_eq_true (show sl - 0 = sl by omega)]
        exact q _

end
theorem all_mk {l : PySem.W.OpenLaw} {w : World} {K : PySem.W.Frag} {h : Heap} {mg : Str → Option Value} {fa : Addr} (X : K.In h) (G : h.Ns mainGlobals mg) (hfa : mg "law" = some (.ref fa))
    {oc_Clocks : Addr}
    {f0 : Addr} {od0 an0 : Option Addr} {sl0 : Array (Option Value)} {oc0 kV0 dc0 pm0 cd0 ct0 : Value}
    {f1 : Addr} {od1 an1 : Option Addr} {sl1 : Array (Option Value)} {oc1 kV1 dc1 pm1 cd1 ct1 : Value}
    {f2 : Addr} {od2 an2 : Option Addr} {sl2 : Array (Option Value)} {oc2 kV2 dc2 pm2 cd2 ct2 : Value}
    {f3 : Addr} {od3 an3 : Option Addr} {sl3 : Array (Option Value)} {oc3 kV3 dc3 pm3 cd3 ct3 : Value}
    {f4 : Addr} {od4 an4 : Option Addr} {sl4 : Array (Option Value)} {oc4 kV4 dc4 pm4 cd4 ct4 : Value}
    {f5 : Addr} {od5 an5 : Option Addr} {sl5 : Array (Option Value)} {oc5 dc5 pm5 cd5 ct5 : Value} {DD5 : Addr} {tk5_0 : Tok} {tk5_1 : Tok}
    {f6 : Addr} {od6 an6 : Option Addr} {sl6 : Array (Option Value)} {oc6 kV6 dc6 pm6 cd6 ct6 : Value}
    {f7 : Addr} {od7 an7 : Option Addr} {sl7 : Array (Option Value)} {oc7 kV7 dc7 pm7 cd7 ct7 : Value}
    {f8 : Addr} {od8 an8 : Option Addr} {sl8 : Array (Option Value)} {oc8 kV8 dc8 pm8 cd8 ct8 : Value}
    {f9 : Addr} {od9 an9 : Option Addr} {sl9 : Array (Option Value)} {oc9 kV9 dc9 pm9 cd9 ct9 : Value}
    {f10 : Addr} {od10 an10 : Option Addr} {sl10 : Array (Option Value)} {oc10 kV10 dc10 pm10 cd10 ct10 : Value}
    {f11 : Addr} {od11 an11 : Option Addr} {sl11 : Array (Option Value)} {oc11 kV11 dc11 pm11 cd11 ct11 : Value}
    {f12 : Addr} {od12 an12 : Option Addr} {sl12 : Array (Option Value)} {oc12 kV12 dc12 pm12 cd12 ct12 : Value}
    {f13 : Addr} {od13 an13 : Option Addr} {sl13 : Array (Option Value)} {oc13 kV13 dc13 pm13 cd13 ct13 : Value}
    {f14 : Addr} {od14 an14 : Option Addr} {sl14 : Array (Option Value)} {oc14 kV14 dc14 pm14 cd14 ct14 : Value}
    {f15 : Addr} {od15 an15 : Option Addr} {sl15 : Array (Option Value)} {oc15 kV15 dc15 pm15 cd15 ct15 : Value}
    {f16 : Addr} {od16 an16 : Option Addr} {sl16 : Array (Option Value)} {oc16 kV16 dc16 pm16 cd16 ct16 : Value}
    {f17 : Addr} {od17 an17 : Option Addr} {sl17 : Array (Option Value)} {oc17 kV17 dc17 pm17 cd17 ct17 : Value}
    {f18 : Addr} {od18 an18 : Option Addr} {sl18 : Array (Option Value)} {oc18 kV18 dc18 pm18 cd18 ct18 : Value}
    {tc_FALLEN : Tok}
    {tc_GOOD : Tok}
    {tc_LISTENS : Tok}
    {tc_MOST_CLOCKS : Tok}
    {ec_NetError : Addr} {ec_BadNumber : Addr} {ec_TooFew : Addr}
    (oa_Clocks : PySem.W.nsIn K mainGlobals "Clocks" = some (some (.ref oc_Clocks))) (opg_Clocks : PySem.W.plainGet K oc_Clocks Str.empty = true) (ohd_Clocks : PySem.W.hasDictIn K oc_Clocks = true) (opo_Clocks : PySem.W.plainOver K oc_Clocks = true) (osa_Clocks : PySem.W.findIn K (.ref oc_Clocks) "__setattr__" = some (some (.builtin "object.__setattr__")))
    (on_Clocks_stands : PySem.W.findIn K (.ref oc_Clocks) "stands" = some none)
    (on_Clocks_state : PySem.W.findIn K (.ref oc_Clocks) "state" = some none)
    (on_Clocks_err : PySem.W.findIn K (.ref oc_Clocks) "err" = some none)
    (on_Clocks_gain : PySem.W.findIn K (.ref oc_Clocks) "gain" = some none)
    (omk_Clocks : PySem.W.makesIn K oc_Clocks = true) (okp_Clocks : PySem.W.keepIn K (.ref oc_Clocks) = true)
    (a0 : PySem.W.nsIn K mainGlobals "within" = some (some (.ref f0))) (l0 : K.lookup f0 = some ⟨oc0, od0, .func (PySem.W.fnOf "within" "within" (defArgs s_within) (defBody s_within) (defScope s_within) .none kV0 dc0 pm0 an0 cd0 ct0), sl0⟩) (c0 : PySem.W.codeIn K cd0 "within" = true) (k0 : PySem.W.keepIn K (.ref f0) = true)
    (a1 : PySem.W.nsIn K mainGlobals "check" = some (some (.ref f1))) (l1 : K.lookup f1 = some ⟨oc1, od1, .func (PySem.W.fnOf "check" "check" (defArgs s_check) (defBody s_check) (defScope s_check) .none kV1 dc1 pm1 an1 cd1 ct1), sl1⟩) (c1 : PySem.W.codeIn K cd1 "check" = true) (k1 : PySem.W.keepIn K (.ref f1) = true)
    (a2 : PySem.W.nsIn K mainGlobals "middle" = some (some (.ref f2))) (l2 : K.lookup f2 = some ⟨oc2, od2, .func (PySem.W.fnOf "middle" "middle" (defArgs s_middle) (defBody s_middle) (defScope s_middle) .none kV2 dc2 pm2 an2 cd2 ct2), sl2⟩) (c2 : PySem.W.codeIn K cd2 "middle" = true) (k2 : PySem.W.keepIn K (.ref f2) = true)
    (a3 : PySem.W.nsIn K mainGlobals "slack_of" = some (some (.ref f3))) (l3 : K.lookup f3 = some ⟨oc3, od3, .func (PySem.W.fnOf "slack_of" "slack_of" (defArgs s_slack_of) (defBody s_slack_of) (defScope s_slack_of) .none kV3 dc3 pm3 an3 cd3 ct3), sl3⟩) (c3 : PySem.W.codeIn K cd3 "slack_of" = true) (k3 : PySem.W.keepIn K (.ref f3) = true)
    (a4 : PySem.W.nsIn K mainGlobals "plain" = some (some (.ref f4))) (l4 : K.lookup f4 = some ⟨oc4, od4, .func (PySem.W.fnOf "plain" "plain" (defArgs s_plain) (defBody s_plain) (defScope s_plain) .none kV4 dc4 pm4 an4 cd4 ct4), sl4⟩) (c4 : PySem.W.codeIn K cd4 "plain" = true) (k4 : PySem.W.keepIn K (.ref f4) = true)
    (a5 : PySem.W.findIn K (.ref oc_Clocks) "__init__" = some (some (.ref f5))) (i5 : PySem.W.isFn K (.ref f5) = true) (l5 : K.lookup f5 = some ⟨oc5, od5, .func (PySem.W.fnOf "__init__" "Clocks.__init__" (defArgs s_Clocks_init) (defBody s_Clocks_init) (defScope s_Clocks_init) .none (.ref DD5) dc5 pm5 an5 cd5 ct5), sl5⟩) (c5 : PySem.W.codeIn K cd5 "Clocks.__init__" = true) (k5 : PySem.W.keepIn K (.ref f5) = true)
    (q5_0 : PySem.W.nsIn K DD5 "err" = some (some (.int 0 tk5_0)))
    (q5_1 : PySem.W.nsIn K DD5 "gain" = some (some (.int 0 tk5_1)))
    (a6 : PySem.W.findIn K (.ref oc_Clocks) "fall" = some (some (.ref f6))) (i6 : PySem.W.isFn K (.ref f6) = true) (l6 : K.lookup f6 = some ⟨oc6, od6, .func (PySem.W.fnOf "fall" "Clocks.fall" (defArgs s_Clocks_fall) (defBody s_Clocks_fall) (defScope s_Clocks_fall) .none kV6 dc6 pm6 an6 cd6 ct6), sl6⟩) (c6 : PySem.W.codeIn K cd6 "Clocks.fall" = true) (k6 : PySem.W.keepIn K (.ref f6) = true)
    (a7 : PySem.W.findIn K (.ref oc_Clocks) "judge_word" = some (some (.ref f7))) (i7 : PySem.W.isFn K (.ref f7) = true) (l7 : K.lookup f7 = some ⟨oc7, od7, .func (PySem.W.fnOf "judge_word" "Clocks.judge_word" (defArgs s_Clocks_judge_word) (defBody s_Clocks_judge_word) (defScope s_Clocks_judge_word) .none kV7 dc7 pm7 an7 cd7 ct7), sl7⟩) (c7 : PySem.W.codeIn K cd7 "Clocks.judge_word" = true) (k7 : PySem.W.keepIn K (.ref f7) = true)
    (a8 : PySem.W.findIn K (.ref oc_Clocks) "judge" = some (some (.ref f8))) (i8 : PySem.W.isFn K (.ref f8) = true) (l8 : K.lookup f8 = some ⟨oc8, od8, .func (PySem.W.fnOf "judge" "Clocks.judge" (defArgs s_Clocks_judge) (defBody s_Clocks_judge) (defScope s_Clocks_judge) .none kV8 dc8 pm8 an8 cd8 ct8), sl8⟩) (c8 : PySem.W.codeIn K cd8 "Clocks.judge" = true) (k8 : PySem.W.keepIn K (.ref f8) = true)
    (a9 : PySem.W.findIn K (.ref oc_Clocks) "turn" = some (some (.ref f9))) (i9 : PySem.W.isFn K (.ref f9) = true) (l9 : K.lookup f9 = some ⟨oc9, od9, .func (PySem.W.fnOf "turn" "Clocks.turn" (defArgs s_Clocks_turn) (defBody s_Clocks_turn) (defScope s_Clocks_turn) .none kV9 dc9 pm9 an9 cd9 ct9), sl9⟩) (c9 : PySem.W.codeIn K cd9 "Clocks.turn" = true) (k9 : PySem.W.keepIn K (.ref f9) = true)
    (a10 : PySem.W.findIn K (.ref oc_Clocks) "told" = some (some (.ref f10))) (i10 : PySem.W.isFn K (.ref f10) = true) (l10 : K.lookup f10 = some ⟨oc10, od10, .func (PySem.W.fnOf "told" "Clocks.told" (defArgs s_Clocks_told) (defBody s_Clocks_told) (defScope s_Clocks_told) .none kV10 dc10 pm10 an10 cd10 ct10), sl10⟩) (c10 : PySem.W.codeIn K cd10 "Clocks.told" = true) (k10 : PySem.W.keepIn K (.ref f10) = true)
    (a11 : PySem.W.findIn K (.ref oc_Clocks) "width" = some (some (.ref f11))) (i11 : PySem.W.isFn K (.ref f11) = true) (l11 : K.lookup f11 = some ⟨oc11, od11, .func (PySem.W.fnOf "width" "Clocks.width" (defArgs s_Clocks_width) (defBody s_Clocks_width) (defScope s_Clocks_width) .none kV11 dc11 pm11 an11 cd11 ct11), sl11⟩) (c11 : PySem.W.codeIn K cd11 "Clocks.width" = true) (k11 : PySem.W.keepIn K (.ref f11) = true)
    (a12 : PySem.W.nsIn K mainGlobals "wider" = some (some (.ref f12))) (l12 : K.lookup f12 = some ⟨oc12, od12, .func (PySem.W.fnOf "wider" "wider" (defArgs s_wider) (defBody s_wider) (defScope s_wider) .none kV12 dc12 pm12 an12 cd12 ct12), sl12⟩) (c12 : PySem.W.codeIn K cd12 "wider" = true) (k12 : PySem.W.keepIn K (.ref f12) = true)
    (a13 : PySem.W.nsIn K mainGlobals "_law_start" = some (some (.ref f13))) (l13 : K.lookup f13 = some ⟨oc13, od13, .func (PySem.W.fnOf "_law_start" "_law_start" (defArgs s_law_start) (defBody s_law_start) (defScope s_law_start) .none kV13 dc13 pm13 an13 cd13 ct13), sl13⟩) (c13 : PySem.W.codeIn K cd13 "_law_start" = true) (k13 : PySem.W.keepIn K (.ref f13) = true)
    (a14 : PySem.W.nsIn K mainGlobals "_law_draw" = some (some (.ref f14))) (l14 : K.lookup f14 = some ⟨oc14, od14, .func (PySem.W.fnOf "_law_draw" "_law_draw" (defArgs s_law_draw) (defBody s_law_draw) (defScope s_law_draw) .none kV14 dc14 pm14 an14 cd14 ct14), sl14⟩) (c14 : PySem.W.codeIn K cd14 "_law_draw" = true) (k14 : PySem.W.keepIn K (.ref f14) = true)
    (a15 : PySem.W.nsIn K mainGlobals "_law_whole" = some (some (.ref f15))) (l15 : K.lookup f15 = some ⟨oc15, od15, .func (PySem.W.fnOf "_law_whole" "_law_whole" (defArgs s_law_whole) (defBody s_law_whole) (defScope s_law_whole) .none kV15 dc15 pm15 an15 cd15 ct15), sl15⟩) (c15 : PySem.W.codeIn K cd15 "_law_whole" = true) (k15 : PySem.W.keepIn K (.ref f15) = true)
    (a16 : PySem.W.nsIn K mainGlobals "_law_middle" = some (some (.ref f16))) (l16 : K.lookup f16 = some ⟨oc16, od16, .func (PySem.W.fnOf "_law_middle" "_law_middle" (defArgs s_law_middle) (defBody s_law_middle) (defScope s_law_middle) .none kV16 dc16 pm16 an16 cd16 ct16), sl16⟩) (c16 : PySem.W.codeIn K cd16 "_law_middle" = true) (k16 : PySem.W.keepIn K (.ref f16) = true)
    (a17 : PySem.W.nsIn K mainGlobals "_law_numbers" = some (some (.ref f17))) (l17 : K.lookup f17 = some ⟨oc17, od17, .func (PySem.W.fnOf "_law_numbers" "_law_numbers" (defArgs s_law_numbers) (defBody s_law_numbers) (defScope s_law_numbers) .none kV17 dc17 pm17 an17 cd17 ct17), sl17⟩) (c17 : PySem.W.codeIn K cd17 "_law_numbers" = true) (k17 : PySem.W.keepIn K (.ref f17) = true)
    (a18 : PySem.W.nsIn K mainGlobals "law" = some (some (.ref f18))) (l18 : K.lookup f18 = some ⟨oc18, od18, .func (PySem.W.fnOf "law" "law" (defArgs s_law) (defBody s_law) (defScope s_law) .none kV18 dc18 pm18 an18 cd18 ct18), sl18⟩) (c18 : PySem.W.codeIn K cd18 "law" = true) (k18 : PySem.W.keepIn K (.ref f18) = true)
    (ac_FALLEN : PySem.W.nsIn K mainGlobals "FALLEN" = some (some (.int 1 tc_FALLEN)))
    (ac_GOOD : PySem.W.nsIn K mainGlobals "GOOD" = some (some (.int 0 tc_GOOD)))
    (ac_LISTENS : PySem.W.nsIn K mainGlobals "LISTENS" = some (some (.int 2 tc_LISTENS)))
    (ac_MOST_CLOCKS : PySem.W.nsIn K mainGlobals "MOST_CLOCKS" = some (some (.int 7 tc_MOST_CLOCKS)))
    (z_abs : PySem.W.nsIn K mainGlobals "abs" = some none)
    (z_all : PySem.W.nsIn K mainGlobals "all" = some none)
    (z_any : PySem.W.nsIn K mainGlobals "any" = some none)
    (z_bool : PySem.W.nsIn K mainGlobals "bool" = some none)
    (z_enumerate : PySem.W.nsIn K mainGlobals "enumerate" = some none)
    (z_int : PySem.W.nsIn K mainGlobals "int" = some none)
    (z_isinstance : PySem.W.nsIn K mainGlobals "isinstance" = some none)
    (z_len : PySem.W.nsIn K mainGlobals "len" = some none)
    (z_list : PySem.W.nsIn K mainGlobals "list" = some none)
    (z_max : PySem.W.nsIn K mainGlobals "max" = some none)
    (z_min : PySem.W.nsIn K mainGlobals "min" = some none)
    (z_range : PySem.W.nsIn K mainGlobals "range" = some none)
    (z_sorted : PySem.W.nsIn K mainGlobals "sorted" = some none)
    (z_tuple : PySem.W.nsIn K mainGlobals "tuple" = some none)
    (z_zip : PySem.W.nsIn K mainGlobals "zip" = some none)
    (ea_NetError : PySem.W.nsIn K mainGlobals "NetError" = some (some (.ref ec_NetError))) (eb_base : PySem.W.subIn K (.ref ec_NetError) (.type "BaseException") = some true) (eb_dict : PySem.W.hasDictIn K ec_NetError = true) (eb_type : PySem.W.typeIn K (.ref ec_NetError) = some (.type "type")) (eb_get : PySem.W.specialIn K (.builtin "object.__class__") "__get__" = some (some (.builtin "getset_descriptor.__get__"))) (eb_tak : PySem.W.takesIn K (.builtin "object.__class__") = some true)
    (ea_BadNumber : PySem.W.nsIn K mainGlobals "BadNumber" = some (some (.ref ec_BadNumber))) (ee_BadNumber : errB K ec_BadNumber ec_NetError = true)
    (ex_BadNumber : PySem.W.excIn K ec_BadNumber [.type "ValueError", .type "Exception", .type "BaseException", .type "object"] "ValueError.__new__" = true)
    (ea_TooFew : PySem.W.nsIn K mainGlobals "TooFew" = some (some (.ref ec_TooFew))) (ee_TooFew : errB K ec_TooFew ec_NetError = true)
    (ex_TooFew : PySem.W.excIn K ec_TooFew [.type "ValueError", .type "Exception", .type "BaseException", .type "object"] "ValueError.__new__" = true)
    (e_nd : [ec_NetError, ec_BadNumber, ec_TooFew].Nodup) :
    ∃ fd : FuncData, (∀ (s : Shared) (v : Value), BindsTo s fd ⟨[v], []⟩ [("_law_script", v)]) ∧ ∀ base : Heap, K.In base → base.Ns mainGlobals mg → FnOk l.prog w K mg base CX0 6 fa fd ["_law_script"] (spLaw K) := by
  have e := hfa.symm.trans (PySem.W.mg_of X G a18)
  cases e
  have F0 := fun_mk (st := s_within) l0 c0 k0
  have b0 := F0.binds (ps := ["value", "low", "high"]) fun _ _ _ _ _ _ us hl => match us, hl with | [_, _, _], _ => rfl
  have F1 := fun_mk (st := s_check) l1 c1 k1
  have b1 := F1.binds (ps := ["value", "low", "high"]) fun _ _ _ _ _ _ us hl => match us, hl with | [_, _, _], _ => rfl
  have F2 := fun_mk (st := s_middle) l2 c2 k2
  have b2 := F2.binds (ps := ["numbers"]) fun _ _ _ _ _ _ us hl => match us, hl with | [_], _ => rfl
  have F3 := fun_mk (st := s_slack_of) l3 c3 k3
  have b3 := F3.binds (ps := ["err", "gain"]) fun _ _ _ _ _ _ us hl => match us, hl with | [_, _], _ => rfl
  have F4 := fun_mk (st := s_plain) l4 c4 k4
  have b4 := F4.binds (ps := ["value"]) fun _ _ _ _ _ _ us hl => match us, hl with | [_], _ => rfl
  have F5 := fun_mk (st := s_Clocks_init) l5 c5 k5
  have D5 : FunD K "__init__" "Clocks.__init__" (defArgs s_Clocks_init) (defBody s_Clocks_init) (defScope s_Clocks_init) [] [("err", V.int 0), ("gain", V.int 0)] f5 _ := ⟨⟨_, _, _, _, _, _, _, _, _, _, rfl, l5, c5, .inl ⟨rfl, rfl⟩, .inr ⟨_, rfl, (by intro q h; simp only [List.mem_cons, List.not_mem_nil, or_false] at h; rcases h with rfl | rfl <;> first | exact ⟨_, q5_0, ⟨_, rfl⟩⟩ | exact ⟨_, q5_1, ⟨_, rfl⟩⟩)⟩⟩, k5⟩
  have F6 := fun_mk (st := s_Clocks_fall) l6 c6 k6
  have b6 := F6.binds (ps := ["self", "at"]) fun _ _ _ _ _ _ us hl => match us, hl with | [_, _], _ => rfl
  have F7 := fun_mk (st := s_Clocks_judge_word) l7 c7 k7
  have b7 := F7.binds (ps := ["self", "word", "at"]) fun _ _ _ _ _ _ us hl => match us, hl with | [_, _, _], _ => rfl
  have F8 := fun_mk (st := s_Clocks_judge) l8 c8 k8
  have b8 := F8.binds (ps := ["self", "heard", "gains"]) fun _ _ _ _ _ _ us hl => match us, hl with | [_, _, _], _ => rfl
  have F9 := fun_mk (st := s_Clocks_turn) l9 c9 k9
  have b9 := F9.binds (ps := ["self", "heard", "gains"]) fun _ _ _ _ _ _ us hl => match us, hl with | [_, _, _], _ => rfl
  have F10 := fun_mk (st := s_Clocks_told) l10 c10 k10
  have b10 := F10.binds (ps := ["self"]) fun _ _ _ _ _ _ us hl => match us, hl with | [_], _ => rfl
  have F11 := fun_mk (st := s_Clocks_width) l11 c11 k11
  have b11 := F11.binds (ps := ["self"]) fun _ _ _ _ _ _ us hl => match us, hl with | [_], _ => rfl
  have F12 := fun_mk (st := s_wider) l12 c12 k12
  have b12 := F12.binds (ps := ["err", "gain"]) fun _ _ _ _ _ _ us hl => match us, hl with | [_, _], _ => rfl
  have F13 := fun_mk (st := s_law_start) l13 c13 k13
  have b13 := F13.binds (ps := ["_law_script"]) fun _ _ _ _ _ _ us hl => match us, hl with | [_], _ => rfl
  have F14 := fun_mk (st := s_law_draw) l14 c14 k14
  have b14 := F14.binds (ps := ["_law_s", "_law_many"]) fun _ _ _ _ _ _ us hl => match us, hl with | [_, _], _ => rfl
  have F15 := fun_mk (st := s_law_whole) l15 c15 k15
  have b15 := F15.binds (ps := ["_law_x"]) fun _ _ _ _ _ _ us hl => match us, hl with | [_], _ => rfl
  have F16 := fun_mk (st := s_law_middle) l16 c16 k16
  have b16 := F16.binds (ps := ["_law_words"]) fun _ _ _ _ _ _ us hl => match us, hl with | [_], _ => rfl
  have F17 := fun_mk (st := s_law_numbers) l17 c17 k17
  have b17 := F17.binds (ps := ["_law_row", "_law_count"]) fun _ _ _ _ _ _ us hl => match us, hl with | [_, _], _ => rfl
  have F18 := fun_mk (st := s_law) l18 c18 k18
  have b18 := F18.binds (ps := ["_law_script"]) fun _ _ _ _ _ _ us hl => match us, hl with | [_], _ => rfl
  refine ⟨PySem.W.fnOf "law" "law" (defArgs s_law) (defBody s_law) (defScope s_law) .none kV18 dc18 pm18 an18 cd18 ct18, fun s v => .of_eq rfl, fun base _ _ => ?_⟩
  exact ok_law (T := ({ c_Clocks := oc_Clocks, g_Clocks := PySem.W.mg_of X G oa_Clocks, C_Clocks := ⟨opg_Clocks, ohd_Clocks, opo_Clocks, osa_Clocks⟩, N_Clocks_stands := on_Clocks_stands, N_Clocks_state := on_Clocks_state, N_Clocks_err := on_Clocks_err, N_Clocks_gain := on_Clocks_gain, f_within := f0, fd_within := _, F_within := F0, b_within := b0, g_within := PySem.W.mg_of X G a0, f_check := f1, fd_check := _, F_check := F1, b_check := b1, g_check := PySem.W.mg_of X G a1, f_middle := f2, fd_middle := _, F_middle := F2, b_middle := b2, g_middle := PySem.W.mg_of X G a2, f_slack_of := f3, fd_slack_of := _, F_slack_of := F3, b_slack_of := b3, g_slack_of := PySem.W.mg_of X G a3, f_plain := f4, fd_plain := _, F_plain := F4, b_plain := b4, g_plain := PySem.W.mg_of X G a4, f_Clocks_init := f5, fd_Clocks_init := _, F_Clocks_init := F5, D_Clocks_init := D5, m_Clocks_init := ⟨a5, i5, k5⟩, M_Clocks := ⟨omk_Clocks, a5, i5, okp_Clocks⟩, f_Clocks_fall := f6, fd_Clocks_fall := _, F_Clocks_fall := F6, b_Clocks_fall := b6, m_Clocks_fall := ⟨a6, i6, k6⟩, f_Clocks_judge_word := f7, fd_Clocks_judge_word := _, F_Clocks_judge_word := F7, b_Clocks_judge_word := b7, m_Clocks_judge_word := ⟨a7, i7, k7⟩, f_Clocks_judge := f8, fd_Clocks_judge := _, F_Clocks_judge := F8, b_Clocks_judge := b8, m_Clocks_judge := ⟨a8, i8, k8⟩, f_Clocks_turn := f9, fd_Clocks_turn := _, F_Clocks_turn := F9, b_Clocks_turn := b9, m_Clocks_turn := ⟨a9, i9, k9⟩, f_Clocks_told := f10, fd_Clocks_told := _, F_Clocks_told := F10, b_Clocks_told := b10, m_Clocks_told := ⟨a10, i10, k10⟩, f_Clocks_width := f11, fd_Clocks_width := _, F_Clocks_width := F11, b_Clocks_width := b11, m_Clocks_width := ⟨a11, i11, k11⟩, f_wider := f12, fd_wider := _, F_wider := F12, b_wider := b12, g_wider := PySem.W.mg_of X G a12, f_law_start := f13, fd_law_start := _, F_law_start := F13, b_law_start := b13, g_law_start := PySem.W.mg_of X G a13, f_law_draw := f14, fd_law_draw := _, F_law_draw := F14, b_law_draw := b14, g_law_draw := PySem.W.mg_of X G a14, f_law_whole := f15, fd_law_whole := _, F_law_whole := F15, b_law_whole := b15, g_law_whole := PySem.W.mg_of X G a15, f_law_middle := f16, fd_law_middle := _, F_law_middle := F16, b_law_middle := b16, g_law_middle := PySem.W.mg_of X G a16, f_law_numbers := f17, fd_law_numbers := _, F_law_numbers := F17, b_law_numbers := b17, g_law_numbers := PySem.W.mg_of X G a17, f_law := fa, fd_law := _, F_law := F18, b_law := b18, g_law := PySem.W.mg_of X G a18, t_FALLEN := tc_FALLEN, g_FALLEN := PySem.W.mg_of X G ac_FALLEN, t_GOOD := tc_GOOD, g_GOOD := PySem.W.mg_of X G ac_GOOD, t_LISTENS := tc_LISTENS, g_LISTENS := PySem.W.mg_of X G ac_LISTENS, t_MOST_CLOCKS := tc_MOST_CLOCKS, g_MOST_CLOCKS := PySem.W.mg_of X G ac_MOST_CLOCKS, z_abs := PySem.W.mg_none_of X G z_abs, z_all := PySem.W.mg_none_of X G z_all, z_any := PySem.W.mg_none_of X G z_any, z_bool := PySem.W.mg_none_of X G z_bool, z_enumerate := PySem.W.mg_none_of X G z_enumerate, z_int := PySem.W.mg_none_of X G z_int, z_isinstance := PySem.W.mg_none_of X G z_isinstance, z_len := PySem.W.mg_none_of X G z_len, z_list := PySem.W.mg_none_of X G z_list, z_max := PySem.W.mg_none_of X G z_max, z_min := PySem.W.mg_none_of X G z_min, z_range := PySem.W.mg_none_of X G z_range, z_sorted := PySem.W.mg_none_of X G z_sorted, z_tuple := PySem.W.mg_none_of X G z_tuple, z_zip := PySem.W.mg_none_of X G z_zip, c_NetError := ec_NetError, g_NetError := PySem.W.mg_of X G ea_NetError, k_base := eb_base, k_dict := eb_dict, k_type := eb_type, k_get := eb_get, k_tak := eb_tak, c_BadNumber := ec_BadNumber, g_BadNumber := PySem.W.mg_of X G ea_BadNumber, e_BadNumber := errC_of ee_BadNumber, x_BadNumber := ex_BadNumber, c_TooFew := ec_TooFew, g_TooFew := PySem.W.mg_of X G ea_TooFew, e_TooFew := errC_of ee_TooFew, x_TooFew := ex_TooFew, k_nd := e_nd } : Tx K mg))

end SW
open PySem PySem.W PyProof.Rows
set_option maxRecDepth 100000 in
set_option maxHeartbeats 0 in
theorem PySem.Challenge.cw_slotwright_k43_whole_slack_is_met_holds : PySem.Challenge.rw_slotwright_k43_whole_slack_is_met.Holds := by
  w_on; o_law; k_head; (case hw => w_witness2)
  k_fill
  refine L2.walk_ofB (l := PySem.Challenge.rw_slotwright_k43_whole_slack_is_met) (n := 63) (k := 6) (x := "_law_script") (CX := fun _ => L2.CX0) (sp := fun w => SW.spLaw _) rfl (by decide) rfl ⟨rfl, by decide, by decide⟩ (fun w h Y => PySem.W.kIn_of Y) ?F (fun _ _ a ns hl hb _ hS => ⟨a, ns, rfl, hS, hl, hb, fun _ => rfl⟩) (fun _ _ _ _ _ h => h)
  case F =>
    intro w mg fa h KX G hmg
    refine' SW.all_mk KX G hmg ?oa_Clocks ?opg_Clocks ?ohd_Clocks ?opo_Clocks ?osa_Clocks ?on_Clocks_stands ?on_Clocks_state ?on_Clocks_err ?on_Clocks_gain ?omk_Clocks ?okp_Clocks ?a0 ?l0 ?c0 ?k0 ?a1 ?l1 ?c1 ?k1 ?a2 ?l2 ?c2 ?k2 ?a3 ?l3 ?c3 ?k3 ?a4 ?l4 ?c4 ?k4 ?a5 ?i5 ?l5 ?c5 ?k5 ?q5_0 ?q5_1 ?a6 ?i6 ?l6 ?c6 ?k6 ?a7 ?i7 ?l7 ?c7 ?k7 ?a8 ?i8 ?l8 ?c8 ?k8 ?a9 ?i9 ?l9 ?c9 ?k9 ?a10 ?i10 ?l10 ?c10 ?k10 ?a11 ?i11 ?l11 ?c11 ?k11 ?a12 ?l12 ?c12 ?k12 ?a13 ?l13 ?c13 ?k13 ?a14 ?l14 ?c14 ?k14 ?a15 ?l15 ?c15 ?k15 ?a16 ?l16 ?c16 ?k16 ?a17 ?l17 ?c17 ?k17 ?a18 ?l18 ?c18 ?k18 ?ac_FALLEN ?ac_GOOD ?ac_LISTENS ?ac_MOST_CLOCKS ?z_abs ?z_all ?z_any ?z_bool ?z_enumerate ?z_int ?z_isinstance ?z_len ?z_list ?z_max ?z_min ?z_range ?z_sorted ?z_tuple ?z_zip ?ea_NetError ?eb_base ?eb_dict ?eb_type ?eb_get ?eb_tak ?ea_BadNumber ?ee_BadNumber ?ex_BadNumber ?ea_TooFew ?ee_TooFew ?ex_TooFew ?e_nd
    (case oa_Clocks => k_is)
    (case opg_Clocks => k_is)
    (case ohd_Clocks => k_is)
    (case opo_Clocks => k_is)
    (case osa_Clocks => k_is)
    (case on_Clocks_stands => k_is)
    (case on_Clocks_state => k_is)
    (case on_Clocks_err => k_is)
    (case on_Clocks_gain => k_is)
    (case omk_Clocks => k_is)
    (case okp_Clocks => k_is)
    (case a0 => k_is)
    (case l0 => k_is)
    (case c0 => k_is)
    (case k0 => k_is)
    (case a1 => k_is)
    (case l1 => k_is)
    (case c1 => k_is)
    (case k1 => k_is)
    (case a2 => k_is)
    (case l2 => k_is)
    (case c2 => k_is)
    (case k2 => k_is)
    (case a3 => k_is)
    (case l3 => k_is)
    (case c3 => k_is)
    (case k3 => k_is)
    (case a4 => k_is)
    (case l4 => k_is)
    (case c4 => k_is)
    (case k4 => k_is)
    (case a5 => k_is)
    (case i5 => k_is)
    (case l5 => k_is)
    (case c5 => k_is)
    (case k5 => k_is)
    (case q5_0 => k_is)
    (case q5_1 => k_is)
    (case a6 => k_is)
    (case i6 => k_is)
    (case l6 => k_is)
    (case c6 => k_is)
    (case k6 => k_is)
    (case a7 => k_is)
    (case i7 => k_is)
    (case l7 => k_is)
    (case c7 => k_is)
    (case k7 => k_is)
    (case a8 => k_is)
    (case i8 => k_is)
    (case l8 => k_is)
    (case c8 => k_is)
    (case k8 => k_is)
    (case a9 => k_is)
    (case i9 => k_is)
    (case l9 => k_is)
    (case c9 => k_is)
    (case k9 => k_is)
    (case a10 => k_is)
    (case i10 => k_is)
    (case l10 => k_is)
    (case c10 => k_is)
    (case k10 => k_is)
    (case a11 => k_is)
    (case i11 => k_is)
    (case l11 => k_is)
    (case c11 => k_is)
    (case k11 => k_is)
    (case a12 => k_is)
    (case l12 => k_is)
    (case c12 => k_is)
    (case k12 => k_is)
    (case a13 => k_is)
    (case l13 => k_is)
    (case c13 => k_is)
    (case k13 => k_is)
    (case a14 => k_is)
    (case l14 => k_is)
    (case c14 => k_is)
    (case k14 => k_is)
    (case a15 => k_is)
    (case l15 => k_is)
    (case c15 => k_is)
    (case k15 => k_is)
    (case a16 => k_is)
    (case l16 => k_is)
    (case c16 => k_is)
    (case k16 => k_is)
    (case a17 => k_is)
    (case l17 => k_is)
    (case c17 => k_is)
    (case k17 => k_is)
    (case a18 => k_is)
    (case l18 => k_is)
    (case c18 => k_is)
    (case k18 => k_is)
    (case ac_FALLEN => k_is)
    (case ac_GOOD => k_is)
    (case ac_LISTENS => k_is)
    (case ac_MOST_CLOCKS => k_is)
    (case z_abs => k_is)
    (case z_all => k_is)
    (case z_any => k_is)
    (case z_bool => k_is)
    (case z_enumerate => k_is)
    (case z_int => k_is)
    (case z_isinstance => k_is)
    (case z_len => k_is)
    (case z_list => k_is)
    (case z_max => k_is)
    (case z_min => k_is)
    (case z_range => k_is)
    (case z_sorted => k_is)
    (case z_tuple => k_is)
    (case z_zip => k_is)
    (case ea_NetError => k_is)
    (case eb_base => k_is)
    (case eb_dict => k_is)
    (case eb_type => k_is)
    (case eb_get => k_is)
    (case eb_tak => k_is)
    (case ea_BadNumber => k_is)
    (case ee_BadNumber => kernel_rfl)
    (case ex_BadNumber => kernel_rfl)
    (case ea_TooFew => k_is)
    (case ee_TooFew => kernel_rfl)
    (case ex_TooFew => kernel_rfl)
    (case e_nd => decide +kernel)
#print axioms PySem.Challenge.cw_slotwright_k43_whole_slack_is_met_holds

