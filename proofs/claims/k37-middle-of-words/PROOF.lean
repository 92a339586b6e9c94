import PyProof.Rows.All
import Wide.All
import OpenK.AllK
import Wide.FinOn
import HandS.ForMost
import HandS.Wide
import HandS.IsInst
import HandS.EndBits
import HandS.Flow
import HandS.Defaults
import HandS.MakeKwOnly
import HandS.Exc
import HandS.ExcOwn
import HandS.WordsExc
import HandS.TryOnly
import HandS.HotCalls
import HandS.Small
import HandS.ExcField
import KE.KExcIs
import HandS.ExcIs
import HandS.SetFor
import PySem.Challenge.RW_slotwright_k37_middle_of_words
set_option Elab.async false
set_option linter.all false
set_option maxRecDepth 100000
set_option maxHeartbeats 4000000

namespace SW
open PySem L2
/-! ### heaps by a view: U is what never changes, H is all -/
theorem same_new {U : Hp} {p : Addr} {o : HO} (h : U p = none) : Same U (upd U p o) := fun b x e => by
  rw [upd_ne (ne_of_none e h)]
  exact e
theorem same_mut {U H : Hp} {p : Addr} {o : HO} (e : Same U H) (h : U p = none) : Same U (upd H p o) := fun a u ha => by
  rw [upd_ne (ne_of_none ha h)]
  exact e a u ha
theorem same_back {U H : Hp} {p : Addr} (e : Same U H) (h : H p = none) : U p = none := e.free h
theorem upd_get {H : Hp} {p a : Addr} {o x : HO} (n : H p = none) (h : H a = some x) : upd H p o a = some x := by
  rw [upd_ne (ne_of_none h n)]
  exact h
structure Gr (M : List Addr) (U H U' H' : Hp) : Prop where
  vv : Same U U'
  vh : Same U' H'
  hh : ∀ a o, a ∉ M → H a = some o → H' a = some o
  dom : ∀ a, H a ≠ none → H' a ≠ none
  fr : ∀ a, U a = none → H a ≠ none → U' a = none
theorem Gr.refl {M : List Addr} {U H : Hp} (e : Same U H) : Gr M U H U H := ⟨Same.refl _, e, fun _ _ _ h => h, fun _ h => h, fun _ h _ => h⟩
theorem Gr.trans {M : List Addr} {U0 H0 U1 H1 U2 H2 : Hp} (a : Gr M U0 H0 U1 H1) (b : Gr M U1 H1 U2 H2) : Gr M U0 H0 U2 H2 :=
  ⟨a.vv.trans b.vv, b.vh, fun x o m h => b.hh x o m (a.hh x o m h), fun x h => b.dom x (a.dom x h), fun x h k => b.fr x (a.fr x h k) (a.dom x k)⟩
theorem Gr.weak {M N : List Addr} {U0 H0 U1 H1 : Hp} (a : Gr M U0 H0 U1 H1) (s : ∀ x, x ∈ M → x ∈ N) : Gr N U0 H0 U1 H1 :=
  ⟨a.vv, a.vh, fun x o m h => a.hh x o (fun z => m (s x z)) h, a.dom, a.fr⟩
theorem Gr.any {N : List Addr} {U0 H0 U1 H1 : Hp} (a : Gr [] U0 H0 U1 H1) : Gr N U0 H0 U1 H1 := a.weak fun _ h => nomatch h
/-- a new object that never changes -/
theorem Gr.new {M : List Addr} {U0 H0 U H : Hp} {p : Addr} {o : HO} (g : Gr M U0 H0 U H) (n : H p = none) : Gr M U0 H0 (upd U p o) (upd H p o) := by
  have nu : U p = none := g.vh.free n
  have n0 : H0 p = none := by
    cases e : H0 p with
    | none => rfl
    | some x => exact absurd n (g.dom p (by rw [e]; intro z; cases z))
  refine ⟨g.vv.trans (same_new nu), fun a x h => ?_, fun a x m h => ?_, fun a h => ?_, fun a h k => ?_⟩
  · by_cases e : a = p
    · subst e
      rw [upd_same] at h ⊢
      exact h
    · rw [upd_ne e] at h ⊢
      exact g.vh a x h
  · rw [upd_ne (ne_of_none h n0)]
    exact g.hh a x m h
  · by_cases e : a = p
    · subst e
      rw [upd_same]
      intro z
      cases z
    · rw [upd_ne e]
      exact g.dom a h
  · have e : a ≠ p := fun z => by
      subst z
      exact k n0
    rw [upd_ne e]
    exact g.fr a h k
/-- a new object that will change -/
theorem Gr.newM {M : List Addr} {U0 H0 U H : Hp} {p : Addr} {o : HO} (g : Gr M U0 H0 U H) (n : H p = none) : Gr M U0 H0 U (upd H p o) := by
  have nu : U p = none := g.vh.free n
  refine ⟨g.vv, same_mut g.vh nu, fun a x m h => ?_, fun a h => ?_, g.fr⟩
  · rw [upd_ne (ne_of_none (g.hh a x m h) n)]
    exact g.hh a x m h
  · by_cases e : a = p
    · subst e
      rw [upd_same]
      intro z
      cases z
    · rw [upd_ne e]
      exact g.dom a h
/-- an object outside of the view changes: one of M, or one that is newer than H0 -/
theorem Gr.mut {M : List Addr} {U0 H0 U H : Hp} {p : Addr} {o : HO} (g : Gr M U0 H0 U H) (nu : U p = none) (n0 : p ∈ M ∨ H0 p = none) : Gr M U0 H0 U (upd H p o) := by
  refine ⟨g.vv, same_mut g.vh nu, fun a x m h => ?_, fun a h => ?_, g.fr⟩
  · have e : a ≠ p := fun z => by
      subst z
      rcases n0 with n0 | n0
      · exact m n0
      · rw [n0] at h
        cases h
    rw [upd_ne e]
    exact g.hh a x m h
  · by_cases e : a = p
    · subst e
      rw [upd_same]
      intro z
      cases z
    · rw [upd_ne e]
      exact g.dom a h
/-- what will change no more comes into the view -/
theorem Gr.seal {M : List Addr} {U0 H0 U H : Hp} {p : Addr} {o : HO} (g : Gr M U0 H0 U H) (h : H p = some o) (nu : U p = none) (n0 : H0 p = none) : Gr M U0 H0 (upd U p o) H := by
  refine ⟨g.vv.trans (same_new nu), fun a x e => ?_, g.hh, g.dom, fun a e k => ?_⟩
  · by_cases z : a = p
    · subst z
      rw [upd_same] at e
      rw [h]
      exact e
    · rw [upd_ne z] at e
      exact g.vh a x e
  · have z : a ≠ p := fun z => by
      subst z
      exact k n0
    rw [upd_ne z]
    exact g.fr a e k
theorem Gr.fresh {M : List Addr} {U0 H0 U H : Hp} {p : Addr} (g : Gr M U0 H0 U H) (n : H p = none) : H0 p = none := by
  cases e : H0 p with
  | none => rfl
  | some x => exact absurd n (g.dom p (by rw [e]; intro z; cases z))
/-! ### the rules with the written part named (so that they serve inside comprehensions too) -/
section
variable {X : Cx} {K : PySem.W.Frag}
theorem ix_listK (h : X.K = K) : IxR X (rIxL K) := by subst h; exact ix_list
theorem ix_tupK (h : X.K = K) : IxR X (rIxT K) := by subst h; exact ix_tup
theorem sl_listK (h : X.K = K) : SlR X (rSlL K) := by subst h; exact sl_list
theorem sl_tupK (h : X.K = K) : SlR X (rSlT K) := by subst h; exact sl_tup
theorem op_inK (h : X.K = K) : OpR X (compareOp .In) (rIn K false) := by subst h; exact op_in_seq
theorem op_notInK (h : X.K = K) : OpR X (compareOp .NotIn) (rIn K true) := by subst h; exact op_notIn_seq
theorem op_eqDK (h : X.K = K) (hu : X.A.units + 64 < cLine) : OpR X (compareOp .Eq) (rEqD K) := by subst h; exact op_eqD hu
theorem op_neDK (h : X.K = K) (hu : X.A.units + 64 < cLine) : OpR X (compareOp .NotEq) (rNeD K) := by subst h; exact op_neD hu
theorem op_catTK (h : X.K = K) : OpR X (binaryOp .Add) (rCatT K) := by subst h; exact op_catT
def rLenK (K : PySem.W.Frag) : List V → Hp → VK → Prop := fun xs H Q => ∃ p ys, xs = [.ref p] ∧ (SqL K H p ys ∨ SqT K H p ys) ∧ Q (.int ys.length) H
def rListK (K : PySem.W.Frag) : List V → Hp → VK → Prop := fun xs H Q => ∃ p ys, xs = [.ref p] ∧ (SqL K H p ys ∨ SqT K H p ys) ∧ ∀ l, H l = none → Q (.ref l) (upd H l (.lst ys))
def rTupleK (K : PySem.W.Frag) : List V → Hp → VK → Prop := fun xs H Q => ∃ p ys, xs = [.ref p] ∧ ((SqL K H p ys ∧ ∀ l, H l = none → Q (.ref l) (upd H l (.tup ys))) ∨ (SqT K H p ys ∧ Q (.ref p) H))
theorem call_lenK (h : X.K = K) : CallR X (.builtin "len") (rLenK K) := by subst h; exact call_len_seq
theorem call_listK (h : X.K = K) : CallR X (.type "list") (rListK K) := by subst h; exact call_list_of
theorem call_tupleK (h : X.K = K) : CallR X (.type "tuple") (rTupleK K) := by subst h; exact call_tuple_of
theorem cr_sumK (h : X.K = K) (hc : X.calm = true) : CallR X (.builtin "sum") (rSum K) := by subst h; exact cr_sum hc
theorem cr_maxK (h : X.K = K) (hc : X.calm = true) : CallR X (.builtin "max") (rMax K) := by subst h; exact cr_max hc
theorem cr_minK (h : X.K = K) (hc : X.calm = true) : CallR X (.builtin "min") (rMin K) := by subst h; exact cr_min hc
theorem cr_allK (h : X.K = K) (hc : X.calm = true) : CallR X (.builtin "all") (rAll K) := by subst h; exact cr_all hc
theorem cr_anyK (h : X.K = K) (hc : X.calm = true) : CallR X (.builtin "any") (rAny K) := by subst h; exact cr_any hc
theorem cr_sortedK (h : X.K = K) : CallR X (.builtin "sorted") (rSorted K) := by subst h; exact cr_sorted
theorem call_isiKK (h : X.K = K) : CallR X (.builtin "isinstance") (rIsi K) := by subst h; exact call_isi
theorem pi_listK {tg e : Expr} {te : TE} (h : X.K = K) (he : PE X e te) : PI X tg e (iList K te) := by subst h; exact pi_list he
theorem pi_tupK {tg e : Expr} {te : TE} (h : X.K = K) (he : PE X e te) : PI X tg e (iTup K te) := by subst h; exact pi_tup he
theorem pg_tupK {pos : Pos} {es : List Expr} {k : Nat} {t : TGs} {n : Nat} (h : X.K = K) (hc : X.calm = true) (hh : PGs X es t) (hn : (assignEach es X.env).length = n := by rfl) (hst : (assignEach es X.env).findIdx? (·.1) = none := by rfl) : PG X (.Tuple es k pos) (gTup K n t) := by subst h; exact pg_tup hc hh hn hst
theorem pe_fldK {pos : Pos} {e : Expr} {ta : TE} {f : Str} (h : X.K = K) (he : PE X e ta) (hb : attributeBase e f X.env (eval e X.env) = eval e X.env) : PE X (.Attribute e f pos) (tFld K ta f) := by subst h; exact pe_fld he hb
end
/-! ### the readings, step by step -/
section
variable {σ : L2.St} {H : Hp} {Q : VK} {te ta tb tc : TE} {i : Nat} {v x y : V} {K : PySem.W.Frag} {n bk ct : L2.St → Hp → Prop} {rt : VK} {t u : TS} {g : TG}
theorem i_var (h : σ[i]? = some (some v)) (q : Q v H) : tVar i σ H Q := ⟨v, h, q⟩
theorem i_c (q : Q v H) : tC v σ H Q := q
theorem i_op {r : R2} (q : ta σ H (fun x H1 => tb σ H1 fun y H2 => r x y H2 Q)) : tOp r ta tb σ H Q := q
theorem i_un {r : V → Hp → VK → Prop} (q : ta σ H (fun x H1 => r x H1 Q)) : tUn r ta σ H Q := q
theorem i_rI0 {f : Int → Int → V} {a b : Int} (q : Q (f a b) H) : rI0 f (.int a) (.int b) H Q := ⟨a, b, rfl, rfl, q⟩
theorem i_rI {C : Int → Int → Prop} {f : Int → Int → V} {a b : Int} (c : C a b) (q : Q (f a b) H) : rI C f (.int a) (.int b) H Q := ⟨a, b, rfl, rfl, c, q⟩
theorem i_mulR {f : Int → Int → V} {a b : Int} (h0 : -(2 ^ 64) < b) (h1 : b < 2 ^ 64) (q : Q (f a b) H) : rI CMul f (.int a) (.int b) H Q := ⟨a, b, rfl, rfl, .inr ⟨h0, h1⟩, q⟩
theorem i_mulL {f : Int → Int → V} {a b : Int} (h0 : -(2 ^ 64) < a) (h1 : a < 2 ^ 64) (q : Q (f a b) H) : rI CMul f (.int a) (.int b) H Q := ⟨a, b, rfl, rfl, .inl ⟨h0, h1⟩, q⟩
theorem i_rU {f : Int → V} {a : Int} (q : Q (f a) H) : rU f (.int a) H Q := ⟨a, rfl, q⟩
theorem i_eqI {a b : Int} (q : Q (.bl (decide (a = b))) H) : rEq (.int a) (.int b) H Q := ⟨rfl, by
  have e : decide (V.int a = V.int b) = decide (a = b) := by
    by_cases h : a = b
    · rw [decide_eq_true h, decide_eq_true (congrArg V.int h)]
    · rw [decide_eq_false h, decide_eq_false (fun z => h (V.int.inj z))]
  show Q (.bl (decide (V.int a = V.int b))) H
  rw [e]
  exact q⟩
theorem i_neI {a b : Int} (q : Q (.bl (!decide (a = b))) H) : rNe (.int a) (.int b) H Q := ⟨rfl, by
  have e : decide (V.int a = V.int b) = decide (a = b) := by
    by_cases h : a = b
    · rw [decide_eq_true h, decide_eq_true (congrArg V.int h)]
    · rw [decide_eq_false h, decide_eq_false (fun z => h (V.int.inj z))]
  show Q (.bl (!decide (V.int a = V.int b))) H
  rw [e]
  exact q⟩
theorem i_eqS {a b : Str} (q : Q (.bl (decide (a = b))) H) : rEq (.str a) (.str b) H Q := ⟨rfl, by
  have e : decide (V.str a = V.str b) = decide (a = b) := by
    by_cases h : a = b
    · rw [decide_eq_true h, decide_eq_true (congrArg V.str h)]
    · rw [decide_eq_false h, decide_eq_false (fun z => h (V.str.inj z))]
  show Q (.bl (decide (V.str a = V.str b))) H
  rw [e]
  exact q⟩
theorem i_neS {a b : Str} (q : Q (.bl (!decide (a = b))) H) : rNe (.str a) (.str b) H Q := ⟨rfl, by
  have e : decide (V.str a = V.str b) = decide (a = b) := by
    by_cases h : a = b
    · rw [decide_eq_true h, decide_eq_true (congrArg V.str h)]
    · rw [decide_eq_false h, decide_eq_false (fun z => h (V.str.inj z))]
  show Q (.bl (!decide (V.str a = V.str b))) H
  rw [e]
  exact q⟩
theorem i_nil {R : List V → Hp → Prop} (q : R [] H) : tNil σ H R := q
theorem i_cons {R : List V → Hp → Prop} {tr : TA} (q : ta σ H (fun x H1 => tr σ H1 fun xs H2 => R (x :: xs) H2)) : tCons ta tr σ H R := q
theorem i_cb {r : List V → Hp → VK → Prop} {tr : TA} (q : tr σ H (fun vs H1 => r vs H1 Q)) : tCB r tr σ H Q := q
theorem i_call {sp : Sp} {dvs : List V} {E : XK} {tr : TA} (q : tr σ H (fun vs H1 => sp (vs ++ dvs) H1 Q E)) : tCall sp dvs E tr σ H Q := q
theorem i_callN {k m : Nat} {sp : Sp} {gV : List V → List V → List V} {E : XK} {tr tk : TA} (q : tr σ H fun vs H1 => tk σ H1 fun zs H2 => vs.length = k ∧ zs.length = m ∧ sp (gV vs zs) H2 Q E) : tCallN k m sp gV E tr tk σ H Q := q
theorem i_seq (q : t ⟨u ⟨n, rt, bk, ct⟩, rt, bk, ct⟩ σ H) : tSeq t u ⟨n, rt, bk, ct⟩ σ H := q
theorem i_next (q : n σ H) : tNext ⟨n, rt, bk, ct⟩ σ H := q
theorem i_brk (q : bk σ H) : tBreak ⟨n, rt, bk, ct⟩ σ H := q
theorem i_cont (q : ct σ H) : tCont ⟨n, rt, bk, ct⟩ σ H := q
theorem i_set (q : te σ H (fun x H1 => n (σ.set i (some x)) H1)) : tAsg te (gName i) ⟨n, rt, bk, ct⟩ σ H := q
theorem i_asg (q : te σ H (fun x H1 => g x σ H1 n)) : tAsg te g ⟨n, rt, bk, ct⟩ σ H := q
theorem i_drop (q : te σ H (fun _ H1 => n σ H1)) : tDrop te ⟨n, rt, bk, ct⟩ σ H := q
theorem i_ret (q : te σ H rt) : tRet te ⟨n, rt, bk, ct⟩ σ H := q
theorem i_retN (q : rt .non H) : tRetN ⟨n, rt, bk, ct⟩ σ H := q
theorem i_if {c : TT} (q : c σ H (fun b H1 => if b = true then t ⟨n, rt, bk, ct⟩ σ H1 else u ⟨n, rt, bk, ct⟩ σ H1)) : tIfS c t u ⟨n, rt, bk, ct⟩ σ H := q
theorem i_test {R : Bool → Hp → Prop} (q : te σ H (fun x H1 => ∃ k, x = .bl k ∧ R k H1)) : tTest te σ H R := q
theorem i_B {R : Bool → Hp → Prop} (q : te σ H (fun x H1 => ∃ k, x = .bl k ∧ R k H1)) : tB te σ H R := q
theorem i_bl {b : Bool} {R : Bool → Hp → Prop} (q : R b H) : ∃ k, V.bl b = .bl k ∧ R k H := ⟨b, rfl, q⟩
theorem i_not {c : TT} {R : Bool → Hp → Prop} (q : c σ H (fun b H1 => R (!b) H1)) : tNot c σ H R := q
theorem i_and {c d : TT} {R : Bool → Hp → Prop} (q : c σ H (fun b H1 => if b = true then d σ H1 R else R false H1)) : tAnd c d σ H R := q
theorem i_or {c d : TT} {R : Bool → Hp → Prop} (q : c σ H (fun b H1 => if b = true then R true H1 else d σ H1 R)) : tOr c d σ H R := q
theorem i_andV (q : ta σ H (fun x H1 => ∃ c, x = .bl c ∧ if c = true then tb σ H1 Q else Q (.bl false) H1)) : tAndV ta tb σ H Q := q
theorem i_orV (q : ta σ H (fun x H1 => ∃ c, x = .bl c ∧ if c = true then Q (.bl true) H1 else tb σ H1 Q)) : tOrV ta tb σ H Q := q
theorem i_notV (q : ta σ H (fun x H1 => ∃ c, x = .bl c ∧ Q (.bl (!c)) H1)) : tNotV ta σ H Q := q
theorem i_blV {b : Bool} {R : Bool → Prop} (q : R b) : ∃ k, V.bl b = .bl k ∧ R k := ⟨b, rfl, q⟩
theorem i_ifE {c : TT} (q : c σ H (fun b H1 => if b = true then ta σ H1 Q else tb σ H1 Q)) : tIf c ta tb σ H Q := q
theorem i_chain {r r' : R2} (q : ta σ H fun x H1 => tb σ H1 fun y H2 => r x y H2 fun z H3 => ∃ k, z = .bl k ∧ (if k = true then tc σ H3 fun w' H4 => r' y w' H4 Q else Q (.bl false) H3)) : tChain r r' ta tb tc σ H Q := q
theorem i_itT {A B : Prop} (q : A) : if true = true then A else B := by rw [if_pos rfl]; exact q
theorem i_itF {A B : Prop} (q : B) : if false = true then A else B := by rw [if_neg Bool.false_ne_true]; exact q
theorem i_ite {p : Prop} [Decidable p] {A B : Prop} (h1 : p → A) (h2 : ¬ p → B) : if decide p = true then A else B := by
  by_cases h : p
  · rw [decide_eq_true h, if_pos rfl]; exact h1 h
  · rw [decide_eq_false h, if_neg Bool.false_ne_true]; exact h2 h
theorem i_iteN {p : Prop} [Decidable p] {A B : Prop} (h1 : ¬ p → A) (h2 : p → B) : if (!decide p) = true then A else B := by
  by_cases h : p
  · rw [decide_eq_true h]; exact i_itF (h2 h)
  · rw [decide_eq_false h]; exact i_itT (h1 h)
theorem i_iteNT {A B : Prop} (q : B) : if (!true) = true then A else B := i_itF q
theorem i_iteNF {A B : Prop} (q : A) : if (!false) = true then A else B := i_itT q
theorem i_iteNN {b : Bool} {A B : Prop} (q : if b = true then A else B) : if (!!b) = true then A else B := by rw [Bool.not_not]; exact q
theorem i_ixL {p : Addr} {xs : List V} {k : Int} (h : H p = some (.lst xs)) (ha : atI xs k = some v) (q : Q v H) : rIxL K (.ref p) (.int k) H Q := ⟨p, xs, k, v, rfl, rfl, SqL.of h, ha, q⟩
theorem i_ixT {p : Addr} {xs : List V} {k : Int} (h : H p = some (.tup xs)) (ha : atI xs k = some v) (q : Q v H) : rIxT K (.ref p) (.int k) H Q := ⟨p, xs, k, v, rfl, rfl, SqT.of h, ha, q⟩
theorem i_sub {to ti : TE} {s : TSet} {R : L2.St → Hp → Prop} (q : to σ H fun o H1 => ti σ H1 fun j H2 => s o j v H2 fun H3 => R σ H3) : gSub to ti s v σ H R := q
theorem i_setL {p : Addr} {xs : List V} {k : Int} {j : Nat} {R : Hp → Prop} (h : H p = some (.lst xs)) (hk : ixN xs.length k = some j) (q : R (upd H p (.lst (xs.set j v)))) : rSetL (.ref p) (.int k) v H R := ⟨p, xs, k, j, rfl, rfl, h, hk, q⟩
theorem i_lst {tr : TA} (q : tr σ H fun xs H1 => xs.length ≤ sizeLine ∧ ∀ p, H1 p = none → Q (.ref p) (upd H1 p (.lst xs))) : tLst tr σ H Q := q
theorem i_tup {tr : TA} (q : tr σ H fun xs H1 => xs.length ≤ sizeLine ∧ ∀ p, H1 p = none → Q (.ref p) (upd H1 p (.tup xs))) : tTup tr σ H Q := q
theorem i_sl {r : V → Option Int → Option Int → Hp → VK → Prop} {tl th : TO} (q : te σ H fun x H1 => tl σ H1 fun l H2 => th σ H2 fun u H3 => r x l u H3 Q) : tSl r te tl th σ H Q := q
theorem i_nopart {R : Option Int → Hp → Prop} (q : R none H) : tNoPart σ H R := q
theorem i_part {R : Option Int → Hp → Prop} (q : te σ H fun x H1 => ∃ i, x = .int i ∧ R (some i) H1) : tPart te σ H R := q
theorem i_partE {k : Int} {R : Int → Prop} (q : R k) : ∃ i, V.int k = .int i ∧ R i := ⟨k, rfl, q⟩
theorem i_slL {a : Addr} {xs : List V} {lo hi : Option Int} (h : H a = some (.lst xs)) (q : ∀ p, H p = none → Q (.ref p) (upd H p (.lst (cutV xs lo hi)))) : rSlL K (.ref a) lo hi H Q := ⟨a, xs, rfl, SqL.of h, q⟩
theorem i_all {a : Addr} {bs : List Bool} (h : H a = some (.lst (bs.map V.bl))) (q : Q (.bl (bs.all id)) H) : rAll K [.ref a] H Q := ⟨a, bs, rfl, SqL.of h, q⟩
theorem i_any {a : Addr} {bs : List Bool} (h : H a = some (.lst (bs.map V.bl))) (q : Q (.bl (bs.any id)) H) : rAny K [.ref a] H Q := ⟨a, bs, rfl, SqL.of h, q⟩
theorem i_sum {a : Addr} {ns : List Int} (h : H a = some (.lst (ns.map V.int))) (q : Q (.int ns.sum) H) : rSum K [.ref a] H Q := ⟨a, ns, rfl, SqL.of h, q⟩
theorem i_lenL {p : Addr} {xs : List V} (h : H p = some (.lst xs)) (q : Q (.int xs.length) H) : rLenK K [.ref p] H Q := ⟨p, xs, rfl, .inl (SqL.of h), q⟩
theorem i_lenT {p : Addr} {xs : List V} (h : H p = some (.tup xs)) (q : Q (.int xs.length) H) : rLenK K [.ref p] H Q := ⟨p, xs, rfl, .inr (SqT.of h), q⟩
theorem i_listL {p : Addr} {xs : List V} (h : H p = some (.lst xs)) (q : ∀ l, H l = none → Q (.ref l) (upd H l (.lst xs))) : rListK K [.ref p] H Q := ⟨p, xs, rfl, .inl (SqL.of h), q⟩
theorem i_listT {p : Addr} {xs : List V} (h : H p = some (.tup xs)) (q : ∀ l, H l = none → Q (.ref l) (upd H l (.lst xs))) : rListK K [.ref p] H Q := ⟨p, xs, rfl, .inr (SqT.of h), q⟩
theorem i_tupleL {p : Addr} {xs : List V} (h : H p = some (.lst xs)) (q : ∀ l, H l = none → Q (.ref l) (upd H l (.tup xs))) : rTupleK K [.ref p] H Q := ⟨p, xs, rfl, .inl ⟨SqL.of h, q⟩⟩
theorem i_tupleT {p : Addr} {xs : List V} (h : H p = some (.tup xs)) (q : Q (.ref p) H) : rTupleK K [.ref p] H Q := ⟨p, xs, rfl, .inr ⟨SqT.of h, q⟩⟩
theorem i_catT {a b : Addr} {xs ys : List V} (h : H a = some (.tup xs)) (h' : H b = some (.tup ys)) (nx : xs ≠ []) (ny : ys ≠ []) (hl : xs.length + ys.length ≤ sizeLine) (q : ∀ p, H p = none → Q (.ref p) (upd H p (.tup (xs ++ ys)))) : rCatT K (.ref a) (.ref b) H Q :=
  ⟨a, b, xs, ys, rfl, rfl, SqT.of h, SqT.of h', nx, hl, fun e => absurd e ny, fun _ => q⟩
theorem i_slT {a : Addr} {xs : List V} {lo hi : Option Int} (h : H a = some (.tup xs)) (hw : ¬ (HT.sIx xs.length 0 lo = 0 ∧ HT.sIx xs.length xs.length hi = xs.length)) (q : ∀ p, H p = none → Q (.ref p) (upd H p (.tup (cutV xs lo hi)))) : rSlT K (.ref a) lo hi H Q := ⟨a, xs, rfl, SqT.of h, hw, q⟩
theorem i_bm {Ty : String} {r : V → List V → Hp → VK → Prop} {to : TE} {t : TA} (q : to σ H fun x H1 => tyV K Ty x H1 ∧ t σ H1 fun xs H2 => r x xs H2 Q) : tBM K Ty r to t σ H Q := q
theorem i_bm0 {Ty : String} {r : V → List V → Hp → VK → Prop} {to : TE} (q : to σ H fun x H1 => tyV K Ty x H1 ∧ r x [] H1 Q) : tBM0 K Ty r to σ H Q := q
theorem i_tyL {p : Addr} {xs : List V} {R : Prop} (h : H p = some (.lst xs)) (q : R) : tyV K "list" (.ref p) H ∧ R := ⟨.inl ⟨rfl, _, SqL.of h⟩, q⟩
theorem i_app {p : Addr} {xs : List V} {y : V} (h : H p = some (.lst xs)) (hl : xs.length ≤ 1000) (q : Q .non (upd H p (.lst (xs ++ [y])))) : rAppend (.ref p) [y] H Q := ⟨p, xs, y, rfl, rfl, h, small1000 hl, q⟩
theorem i_popAt {p : Addr} {xs : List V} {i : Int} {k : Nat} {y : V} (h : H p = some (.lst xs)) (e : i = (k : Int)) (hk : xs[k]? = some y) (hz : xs.length ≤ 1000) (q : Q y (upd H p (.lst (xs.eraseIdx k)))) : rPopAt (.ref p) [.int i] H Q := by
  have hl := (List.getElem?_eq_some_iff.mp hk).1
  refine ⟨p, xs, i, k, y, rfl, rfl, h, by omega, by omega, ?_, hk, q⟩
  exact (ixN_seq (show ixN xs.length i = some k by
    unfold ixN
    rw [e, if_pos (by omega), if_pos (by omega), Int.toNat_natCast])).1
theorem i_isN {x : V} (q : Q (.bl (decide (x = .non))) H) : (.non : V) = .non ∧ Q (.bl (decide (x = .non))) H := ⟨rfl, q⟩
theorem i_abs {a : Int} (q : Q (.int (if a < 0 then -a else a)) H) : (fun (xs : List V) (H : Hp) (Q : VK) => ∃ i, xs = [.int i] ∧ Q (.int (if i < 0 then -i else i)) H) [.int a] H Q := ⟨a, rfl, q⟩
end
/-! ### loops -/
def LOOP (J : It) (g : TG) (tb : TS) (D : Ends) (σ : L2.St) (H : Hp) : Prop := ∃ W : Nat → Nat → L2.St → Hp → Prop, (∃ m, W 0 m σ H) ∧ ∀ i m σ H, W i m σ H →
  (J.stop i H ∧ D.nx σ H) ∨ (J.go i H ∧ ∃ N : L2.St → Hp → Prop, (∀ σ' H', N σ' H' → ∃ m', m' < m ∧ W (i + 1) m' σ' H') ∧ ∀ x H', J.yld i H x H' → g x σ H' fun σ2 H2 => tb { D with nx := N, ct := N, bk := D.nx } σ2 H2)
section
variable {σ : L2.St} {H : Hp} {K : PySem.W.Frag} {n bk ct : L2.St → Hp → Prop} {rt : VK} {tb : TS} {g : TG} {te : TE} {ta : TA}
theorem i_for1 (q : ta σ H fun vs H1 => ∃ j : Int, vs = [.int j] ∧ -(2 ^ 62) ≤ j ∧ j < 2 ^ 62 ∧ LOOP (Itr 0 j.toNat) g tb ⟨n, rt, bk, ct⟩ σ H1) : tFor (iRng1 ta) g tb ⟨n, rt, bk, ct⟩ σ H := q
theorem i_for2 (q : ta σ H fun vs H1 => ∃ i j : Int, vs = [.int i, .int j] ∧ (-(2 ^ 62) ≤ i ∧ i < 2 ^ 62 ∧ -(2 ^ 62) ≤ j ∧ j < 2 ^ 62) ∧ LOOP (Itr i (j - i).toNat) g tb ⟨n, rt, bk, ct⟩ σ H1) : tFor (iRng2 ta) g tb ⟨n, rt, bk, ct⟩ σ H := q
theorem i_for3 (q : ta σ H fun vs H1 => ∃ (i j c : Int) (m : Nat), vs = [.int i, .int j, .int c] ∧ RgC i j c m ∧ LOOP (Itc i c m) g tb ⟨n, rt, bk, ct⟩ σ H1) : tFor (iRng3 ta) g tb ⟨n, rt, bk, ct⟩ σ H := q
theorem l_rngC {lo c : Int} {m : Nat} (Pv : Nat → L2.St → Hp → Prop) (h0 : Pv 0 σ H) (hs : ∀ i σ H, i < m → Pv i σ H → g (.int (lo + (i : Nat) * c)) σ H fun σ2 H2 => tb ⟨Pv (i + 1), rt, n, Pv (i + 1)⟩ σ2 H2) (hd : ∀ σ H, Pv m σ H → n σ H) :
    LOOP (Itc lo c m) g tb ⟨n, rt, bk, ct⟩ σ H := for_rangeC Pv h0 hs hd
theorem i_forL (q : te σ H fun x H1 => ∃ a, x = .ref a ∧ (∃ xs, SqL K H1 a xs) ∧ LOOP (Itl K a) g tb ⟨n, rt, bk, ct⟩ σ H1) : tFor (iList K te) g tb ⟨n, rt, bk, ct⟩ σ H := q
theorem i_forT (q : te σ H fun x H1 => ∃ a, x = .ref a ∧ (∃ xs, SqT K H1 a xs) ∧ LOOP (Itt K a) g tb ⟨n, rt, bk, ct⟩ σ H1) : tFor (iTup K te) g tb ⟨n, rt, bk, ct⟩ σ H := q
theorem l_rng {lo : Int} {m : Nat} (Pv : Nat → L2.St → Hp → Prop) (h0 : Pv 0 σ H) (hs : ∀ i σ H, i < m → Pv i σ H → g (.int (lo + i)) σ H fun σ2 H2 => tb ⟨Pv (i + 1), rt, n, Pv (i + 1)⟩ σ2 H2) (hd : ∀ σ H, Pv m σ H → n σ H) :
    LOOP (Itr lo m) g tb ⟨n, rt, bk, ct⟩ σ H := for_range Pv h0 hs hd
theorem l_lst {a : Addr} {xs : List V} (Pv : Nat → L2.St → Hp → Prop) (h0 : Pv 0 σ H) (hl : ∀ i σ H, i ≤ xs.length → Pv i σ H → SqL K H a xs)
    (hs : ∀ i x σ H, xs[i]? = some x → Pv i σ H → g x σ H fun σ2 H2 => tb ⟨Pv (i + 1), rt, n, Pv (i + 1)⟩ σ2 H2) (hd : ∀ σ H, Pv xs.length σ H → n σ H) : LOOP (Itl K a) g tb ⟨n, rt, bk, ct⟩ σ H := for_list Pv h0 hl hs hd
theorem l_tup {a : Addr} {xs : List V} (Pv : Nat → L2.St → Hp → Prop) (h0 : Pv 0 σ H) (hl : ∀ i σ H, i ≤ xs.length → Pv i σ H → SqT K H a xs)
    (hs : ∀ i x σ H, xs[i]? = some x → Pv i σ H → g x σ H fun σ2 H2 => tb ⟨Pv (i + 1), rt, n, Pv (i + 1)⟩ σ2 H2) (hd : ∀ σ H, Pv xs.length σ H → n σ H) : LOOP (Itt K a) g tb ⟨n, rt, bk, ct⟩ σ H := for_tup Pv h0 hl hs hd
theorem i_while {c : TT} (W : Nat → L2.St → Hp → Prop) (m : Nat) (w0 : W m σ H) (hs : ∀ m σ H, W m σ H → c σ H fun b H1 => if b = true then ∃ N : L2.St → Hp → Prop, (∀ σ' H', N σ' H' → ∃ m', m' < m ∧ W m' σ' H') ∧ tb ⟨N, rt, n, N⟩ σ H1 else n σ H1) :
    tWhile c tb ⟨n, rt, bk, ct⟩ σ H := ⟨W, ⟨m, w0⟩, hs⟩
theorem i_par {i j : Nat} (q : ta σ H fun vs H1 => ∃ v w, vs = [v, w] ∧ n ((σ.set i (some v)).set j (some w)) H1) : tPar i j ta ⟨n, rt, bk, ct⟩ σ H := q
theorem i_parE {x y : V} {R : V → V → Prop} (q : R x y) : ∃ v w, [x, y] = [v, w] ∧ R v w := ⟨x, y, rfl, q⟩
theorem i_aug {i : Nat} {ti : TIp} {x : V} (h : σ[i]? = some (some x)) (q : te σ H fun y H1 => ti x y H1 fun z H2 => n (σ.set i (some z)) H2) : tAug i te ti ⟨n, rt, bk, ct⟩ σ H := ⟨_, h, q⟩
theorem i_ipI {f : Int → Int → Int} {a b : Int} {Q : VK} (q : Q (.int (f a b)) H) : ipI f (.int a) (.int b) H Q := ⟨a, b, rfl, rfl, q⟩
theorem ip_mul {X : Cx} : PIp X .Mult (rI CMul fun i j => .int (i * j)) := fun pins s σ H x y v u Q I rx ry h => iop_mul pins s σ H x y v u Q I rx ry h
theorem i_asg2 {g1 g2 : TG} (q : te σ H fun x H1 => g1 x σ H1 fun σ1 H2 => g2 x σ1 H2 n) : tAsg2 te g1 g2 ⟨n, rt, bk, ct⟩ σ H := q
theorem i_gtup {a : Addr} {xs : List V} {k : Nat} {tg : TGs} {R : L2.St → Hp → Prop} (h : H a = some (.tup xs)) (hl : xs.length = k) (q : tg xs σ H R) : gTup K k tg (.ref a) σ H R := ⟨a, xs, rfl, SqT.of h, hl, q⟩
theorem i_gcons {v : V} {r : List V} {tg : TGs} {R : L2.St → Hp → Prop} (q : g v σ H fun σ' H' => tg r σ' H' R) : gCons g tg (v :: r) σ H R := ⟨v, r, rfl, q⟩
theorem i_gnil {R : L2.St → Hp → Prop} (q : R σ H) : gNil [] σ H R := ⟨rfl, q⟩
theorem i_gname {i : Nat} {x : V} {R : L2.St → Hp → Prop} (q : R (σ.set i (some x)) H) : gName i x σ H R := q
end
/-! ### a word between a statement and what follows -/
def tCut (t u : TS) : TS := fun D σ H => ∃ Mid : L2.St → Hp → Prop, t { D with nx := Mid } σ H ∧ ∀ σ' H', Mid σ' H' → u D σ' H'
theorem pss_cut {X : Cx} {st : Stmt} {rest : List Stmt} {t u : TS} (h1 : PS X st t) (h2 : PSs X rest u) : PSs X (st :: rest) (tCut t u) := by
  refine ⟨fun pins s σ H D I h => ?_⟩
  obtain ⟨M, hm, hu⟩ := h
  refine wpAny_execs_cons (thn (h1.run pins s σ H { D with nx := M } I hm) fun f s1 z => ?_)
  cases f with
  | next =>
    obtain ⟨a, b, c, z⟩ := z
    exact h2.run pins s1 a b D c (hu a b z)
  | ret v => exact z
  | brk => exact z
  | cont => exact z
theorem i_cut {σ : L2.St} {H : Hp} {n bk ct : L2.St → Hp → Prop} {rt : VK} {t u : TS} (Mid : L2.St → Hp → Prop) (h : t ⟨Mid, rt, bk, ct⟩ σ H) (k : ∀ σ' H', Mid σ' H' → u ⟨n, rt, bk, ct⟩ σ' H') : tCut t u ⟨n, rt, bk, ct⟩ σ H := ⟨Mid, h, k⟩
/-- the same for a value and for a test -/
def tCutE (t : TE) : TE := fun σ H Q => ∃ Mid : VK, t σ H Mid ∧ ∀ v H', Mid v H' → Q v H'
theorem pe_cut {X : Cx} {e : Expr} {t : TE} (h : PE X e t) : PE X e (tCutE t) := by
  refine ⟨fun pins s σ H Q I q => ?_⟩
  obtain ⟨M, hm, hu⟩ := q
  exact thn (h.run pins s σ H M I hm) fun v s1 ⟨x, H1, I1, r1, z⟩ => ⟨x, H1, I1, r1, hu _ _ z⟩
theorem i_cutE {σ : L2.St} {H : Hp} {Q : VK} {t : TE} (Mid : VK) (h : t σ H Mid) (k : ∀ v H', Mid v H' → Q v H') : tCutE t σ H Q := ⟨Mid, h, k⟩
def tCutT (t : TT) : TT := fun σ H Q => ∃ Mid : Bool → Hp → Prop, t σ H Mid ∧ ∀ v H', Mid v H' → Q v H'
theorem pt_cut {X : Cx} {e : Expr} {t : TT} (h : PT X e t) : PT X e (tCutT t) := by
  refine ⟨fun pins s σ H Q I q => ?_⟩
  obtain ⟨M, hm, hu⟩ := q
  exact thn (h.run pins s σ H M I hm) fun v s1 ⟨H1, I1, z⟩ => ⟨H1, I1, hu _ _ z⟩
theorem i_cutT {σ : L2.St} {H : Hp} {Q : Bool → Hp → Prop} {t : TT} (Mid : Bool → Hp → Prop) (h : t σ H Mid) (k : ∀ v H', Mid v H' → Q v H') : tCutT t σ H Q := ⟨Mid, h, k⟩
/-! ### comprehensions -/
def COMP (J : It) (g : TG) (tt : TT) (te : TE) (vs : List Nat) (σ : L2.St) (H1 : Hp) (D : Addr) (Q : VK) : Prop := ∃ W : Nat → Nat → Hp → Prop, (∃ m, W 0 m (upd H1 D (.lst []))) ∧ ∀ i m H, W i m H →
  (J.stop i H ∧ Q (.ref D) H) ∨ (J.go i H ∧ ∃ Nx : Hp → Prop, (∀ H', Nx H' → ∃ m', m' < m ∧ W (i + 1) m' H') ∧ ∀ x H', J.yld i H x H' → g x (wipe σ vs) H' fun σ2 H2 => wipe σ2 vs = wipe σ vs ∧ tt σ2 H2 fun b H3 =>
    if b = true then te σ2 H3 fun y H4 => ∃ acc, H4 D = some (.lst acc) ∧ acc.length < sizeLine ∧ Nx (upd H4 D (.lst (acc ++ [y]))) else Nx H3)
section
variable {σ : L2.St} {H : Hp} {K : PySem.W.Frag} {Q : VK} {g : TG} {tt : TT} {te tl : TE} {ta : TA} {vs : List Nat}
theorem i_lc1 (q : ta σ H fun us H1 => ∃ j : Int, us = [.int j] ∧ -(2 ^ 62) ≤ j ∧ j < 2 ^ 62 ∧ ∀ D, H1 D = none → COMP (Itr 0 j.toNat) g tt te vs σ H1 D Q) : tLc (iRng1 ta) g tt te vs σ H Q := q
theorem i_lc2 (q : ta σ H fun us H1 => ∃ i j : Int, us = [.int i, .int j] ∧ (-(2 ^ 62) ≤ i ∧ i < 2 ^ 62 ∧ -(2 ^ 62) ≤ j ∧ j < 2 ^ 62) ∧ ∀ D, H1 D = none → COMP (Itr i (j - i).toNat) g tt te vs σ H1 D Q) : tLc (iRng2 ta) g tt te vs σ H Q := q
theorem i_lcL (q : tl σ H fun x H1 => ∃ a, x = .ref a ∧ (∃ xs, SqL K H1 a xs) ∧ ∀ D, H1 D = none → COMP (Itl K a) g tt te vs σ H1 D Q) : tLc (iList K tl) g tt te vs σ H Q := q
theorem i_lcT (q : tl σ H fun x H1 => ∃ a, x = .ref a ∧ (∃ xs, SqT K H1 a xs) ∧ ∀ D, H1 D = none → COMP (Itt K a) g tt te vs σ H1 D Q) : tLc (iTup K tl) g tt te vs σ H Q := q
theorem c_rng {lo : Int} {n : Nat} {D : Addr} (Pv : Nat → Hp → Prop) (h0 : Pv 0 (upd H D (.lst [])))
    (hs : ∀ i H, i < n → Pv i H → g (.int (lo + i)) (wipe σ vs) H fun σ2 H2 => wipe σ2 vs = wipe σ vs ∧ tt σ2 H2 fun b H3 =>
      if b = true then te σ2 H3 fun y H4 => ∃ acc, H4 D = some (.lst acc) ∧ acc.length < sizeLine ∧ Pv (i + 1) (upd H4 D (.lst (acc ++ [y]))) else Pv (i + 1) H3) (hd : ∀ H, Pv n H → Q (.ref D) H) :
    COMP (Itr lo n) g tt te vs σ H D Q := lc_range Pv h0 hs hd
theorem c_lst {a D : Addr} {xs : List V} (Pv : Nat → Hp → Prop) (h0 : Pv 0 (upd H D (.lst []))) (hl : ∀ i H, i ≤ xs.length → Pv i H → SqL K H a xs)
    (hs : ∀ i x H, xs[i]? = some x → Pv i H → g x (wipe σ vs) H fun σ2 H2 => wipe σ2 vs = wipe σ vs ∧ tt σ2 H2 fun b H3 =>
      if b = true then te σ2 H3 fun y H4 => ∃ acc, H4 D = some (.lst acc) ∧ acc.length < sizeLine ∧ Pv (i + 1) (upd H4 D (.lst (acc ++ [y]))) else Pv (i + 1) H3) (hd : ∀ H, Pv xs.length H → Q (.ref D) H) :
    COMP (Itl K a) g tt te vs σ H D Q := lc_list Pv h0 hl hs hd
theorem c_tup {a D : Addr} {xs : List V} (Pv : Nat → Hp → Prop) (h0 : Pv 0 (upd H D (.lst []))) (hl : ∀ i H, i ≤ xs.length → Pv i H → SqT K H a xs)
    (hs : ∀ i x H, xs[i]? = some x → Pv i H → g x (wipe σ vs) H fun σ2 H2 => wipe σ2 vs = wipe σ vs ∧ tt σ2 H2 fun b H3 =>
      if b = true then te σ2 H3 fun y H4 => ∃ acc, H4 D = some (.lst acc) ∧ acc.length < sizeLine ∧ Pv (i + 1) (upd H4 D (.lst (acc ++ [y]))) else Pv (i + 1) H3) (hd : ∀ H, Pv xs.length H → Q (.ref D) H) :
    COMP (Itt K a) g tt te vs σ H D Q := lc_tup Pv h0 hl hs hd
theorem i_yes {R : Bool → Hp → Prop} (q : R true H) : tYes σ H R := q
end
def spCommon : Sp := fun vs H Q _ => ∃ p q : Int, vs = [.int p, .int q] ∧ 0 ≤ p ∧ 0 ≤ q ∧ Q (.int (Int.gcd p q)) H
/-! ### lists of tuples -/
def LT (U : Hp) (p : Addr) (rows : List (List V)) : Prop := ∃ as : List Addr, U p = some (.lst (as.map V.ref)) ∧ Paired (fun a r => U a = some (.tup r)) as rows
theorem Paired.imp {α β : Type} {F G : α → β → Prop} (h : ∀ a b, F a b → G a b) : ∀ {xs : List α} {ys : List β}, Paired F xs ys → Paired G xs ys
  | _, _, .nil => .nil
  | _, _, .cons a t => .cons (h _ _ a) (Paired.imp h t)
theorem Paired.at {α β : Type} {F : α → β → Prop} : ∀ {xs : List α} {ys : List β}, Paired F xs ys → ∀ (i : Nat) (y : β), ys[i]? = some y → ∃ x, xs[i]? = some x ∧ F x y
  | _, _, .nil, i, y, e => by simp at e
  | _, _, .cons a t, 0, y, e => by
    have e' := Option.some.inj e
    subst e'
    exact ⟨_, rfl, a⟩
  | _, _, .cons a t, i + 1, y, e => Paired.at t i y e
theorem Paired.at' {α β : Type} {F : α → β → Prop} : ∀ {xs : List α} {ys : List β}, Paired F xs ys → ∀ (i : Nat) (x : α), xs[i]? = some x → ∃ y, ys[i]? = some y ∧ F x y
  | _, _, .nil, i, y, e => by simp at e
  | _, _, .cons a t, 0, y, e => by
    have e' := Option.some.inj e
    subst e'
    exact ⟨_, rfl, a⟩
  | _, _, .cons a t, i + 1, y, e => Paired.at' t i y e
theorem Paired.len {α β : Type} {F : α → β → Prop} : ∀ {xs : List α} {ys : List β}, Paired F xs ys → xs.length = ys.length
  | _, _, .nil => rfl
  | _, _, .cons _ t => congrArg (· + 1) (Paired.len t)
theorem Paired.tk {α β : Type} {F : α → β → Prop} : ∀ {xs : List α} {ys : List β} (k : Nat), Paired F xs ys → Paired F (xs.take k) (ys.take k)
  | _, _, 0, _ => .nil
  | _, _, _ + 1, .nil => .nil
  | _, _, k + 1, .cons a t => .cons a (Paired.tk k t)
theorem Paired.dp {α β : Type} {F : α → β → Prop} : ∀ {xs : List α} {ys : List β} (k : Nat), Paired F xs ys → Paired F (xs.drop k) (ys.drop k)
  | _, _, 0, h => h
  | _, _, _ + 1, .nil => .nil
  | _, _, k + 1, .cons _ t => Paired.dp k t
theorem Paired.mp {α β γ : Type} {F : α → γ → Prop} {f : β → γ} : ∀ {xs : List α} {ys : List β}, Paired (fun a b => F a (f b)) xs ys → Paired F xs (ys.map f)
  | _, _, .nil => .nil
  | _, _, .cons a t => .cons a (Paired.mp t)
theorem LT.mono {U U' : Hp} {p : Addr} {rows : List (List V)} (e : Same U U') (h : LT U p rows) : LT U' p rows := by
  obtain ⟨as, h1, h2⟩ := h
  exact ⟨as, e _ _ h1, Paired.imp (fun a r x => e _ _ x) h2⟩
section
variable {σ : L2.St} {H U : Hp} {K : PySem.W.Frag} {n bk ct : L2.St → Hp → Prop} {rt : VK} {tb : TS} {g : TG} {te : TE} {ta : TA} {p : Addr} {rows : List (List V)}
theorem LT.len (h : LT U p rows) : ∃ xs : List V, U p = some (.lst xs) ∧ xs.length = rows.length := by
  obtain ⟨as, h1, h2⟩ := h
  exact ⟨_, h1, by rw [List.length_map, Paired.len h2]⟩
theorem LT.get (h : LT U p rows) : ∃ xs : List V, U p = some (.lst xs) ∧ xs.length = rows.length ∧ ∀ (i : Nat) (r : List V), rows[i]? = some r → ∃ a : Addr, xs[i]? = some (V.ref a) ∧ U a = some (.tup r) := by
  obtain ⟨as, h1, h2⟩ := h
  refine ⟨_, h1, by rw [List.length_map, Paired.len h2], fun i r e => ?_⟩
  obtain ⟨a, e1, e2⟩ := Paired.at h2 i r e
  exact ⟨a, by rw [List.getElem?_map, e1]; rfl, e2⟩
theorem l_LT (h : LT U p rows) (Pv : Nat → L2.St → Hp → Prop) (h0 : Pv 0 σ H) (hv : ∀ i σ H, Pv i σ H → Same U H)
    (hs : ∀ i r a σ H, rows[i]? = some r → H a = some (.tup r) → Pv i σ H → g (.ref a) σ H fun σ2 H2 => tb ⟨Pv (i + 1), rt, n, Pv (i + 1)⟩ σ2 H2) (hd : ∀ σ H, Pv rows.length σ H → n σ H) : LOOP (Itl K p) g tb ⟨n, rt, bk, ct⟩ σ H := by
  obtain ⟨as, h1, h2⟩ := h
  refine l_lst (xs := as.map V.ref) Pv h0 (fun i σ H _ q => SqL.of (hv i σ H q _ _ h1)) (fun i x σ H e q => ?_) (fun σ H q => hd σ H ?_)
  · rw [List.getElem?_map] at e
    cases ea : as[i]? with
    | none =>
      rw [ea] at e
      cases e
    | some a =>
      rw [ea] at e
      have e' := Option.some.inj e
      subst e'
      obtain ⟨r, er, hr⟩ := Paired.at' h2 i a ea
      exact hs i r a σ H er (hv i σ H q _ _ hr) q
  · rw [List.length_map, Paired.len h2] at q
    exact q
end
theorem cut_to (xs : List V) (k : Nat) : cutV xs none (some (k : Int)) = xs.take k := by
  unfold cutV
  rw [HT.sIx_nat, HT.sIx_none, List.drop_zero, Nat.sub_zero]
  by_cases h : k ≤ xs.length
  · rw [Nat.min_eq_left h]
  · rw [Nat.min_eq_right (by omega), List.take_length, List.take_of_length_le (by omega)]
theorem cut_from (xs : List V) (k : Nat) : cutV xs (some (k : Int)) none = xs.drop k := by
  unfold cutV
  rw [HT.sIx_nat, HT.sIx_none]
  by_cases h : k ≤ xs.length
  · rw [Nat.min_eq_left h, List.take_of_length_le]
    rw [List.length_drop]
    exact Nat.le_refl _
  · rw [Nat.min_eq_right (by omega), List.drop_length, List.drop_of_length_le (by omega), List.take_nil]
def dV : V → PyData
  | .int i => .int i
  | .bl b => .bool b
  | .str x => .str x
  | _ => .none
theorem dV_dp {K : PySem.W.Frag} {H : Hp} {v : V} (h : (match v with | .int _ => true | .bl _ => true | .str _ => true | .non => true | _ => false) = true) : Dp K H v (dV v) := by
  cases v with
  | int i => exact .int i
  | bl b => exact .bl b
  | str x => exact .str x
  | non => exact .non
  | byt _ => cases h
  | flt _ => cases h
  | ref _ => cases h
  | ty _ => cases h
theorem LT.dp {K : PySem.W.Frag} {U H : Hp} {p : Addr} {rows : List (List V)} (e : Same U H) (h : LT U p rows) (f : ∀ r ∈ rows, ∀ v ∈ r, Dp K H v (dV v)) : Dp K H (.ref p) (.list (rows.map fun r => .tuple (r.map dV))) := by
  obtain ⟨as, h1, h2⟩ := h
  refine .lst (SqL.of (e _ _ h1)) ?_
  clear h1
  induction h2 with
  | nil => exact .nil
  | @cons a r as rows h t ih =>
    refine .cons (.tup (SqT.of (e _ _ h)) ?_) (ih fun x hx => f x (List.mem_cons_of_mem _ hx))
    have fr := f r List.mem_cons_self
    clear h ih t f
    induction r with
    | nil => exact .nil
    | cons v r ih => exact .cons (fr v List.mem_cons_self) (ih fun x hx => fr x (List.mem_cons_of_mem _ hx))
def Lay (n : Nat) (d : PyData) : Prop := d.canLay0 = true ∧ d.depth ≤ n
theorem lay_all {n : Nat} : ∀ {xs : List PyData}, (∀ x ∈ xs, Lay n x) → PyData.canLayAll0 xs = true ∧ PyData.depthAll xs ≤ n
  | [], _ => ⟨rfl, Nat.zero_le _⟩
  | x :: r, h => by
    have h1 := h x List.mem_cons_self
    have h2 := lay_all (xs := r) fun y hy => h y (List.mem_cons_of_mem _ hy)
    constructor
    · show (x.canLay0 && PyData.canLayAll0 r) = true
      rw [h1.1, h2.1]
      rfl
    · show max x.depth (PyData.depthAll r) ≤ n
      exact Nat.max_le.mpr ⟨h1.2, h2.2⟩
theorem lay_int {n : Nat} {i : Int} : Lay n (.int i) := ⟨rfl, Nat.zero_le _⟩
theorem lay_none {n : Nat} : Lay n .none := ⟨rfl, Nat.zero_le _⟩
theorem lay_bool {n : Nat} {b : Bool} : Lay n (.bool b) := ⟨rfl, Nat.zero_le _⟩
theorem lay_list {n : Nat} {xs : List PyData} (h : ∀ x ∈ xs, Lay n x) : Lay (n + 1) (.list xs) := ⟨(lay_all h).1, Nat.succ_le_succ (lay_all h).2⟩
theorem lay_tuple {n : Nat} {xs : List PyData} (h : ∀ x ∈ xs, Lay n x) : Lay (n + 1) (.tuple xs) := ⟨(lay_all h).1, Nat.succ_le_succ (lay_all h).2⟩
theorem Lay.shaped {n : Nat} {d : PyData} (h : Lay n d) (hn : n ≤ 64) : SeqAt.shaped d = true := by
  unfold SeqAt.shaped
  rw [h.1, decide_eq_true (Nat.le_trans h.2 hn)]
  rfl
theorem i_eqD {K : PySem.W.Frag} {H : Hp} {Q : VK} {x y : V} {d e : PyData} (h1 : Dp K H x d) (h2 : Dp K H y e) (l1 : Lay 8 d) (l2 : Lay 8 e) (q : Q (.bl (PyData.eqv d e)) H) : rEqD K x y H Q := ⟨d, e, h1, h2, l1.shaped (by decide), l2.shaped (by decide), q⟩
theorem i_neD {K : PySem.W.Frag} {H : Hp} {Q : VK} {x y : V} {d e : PyData} (h1 : Dp K H x d) (h2 : Dp K H y e) (l1 : Lay 8 d) (l2 : Lay 8 e) (q : Q (.bl (!PyData.eqv d e)) H) : rNeD K x y H Q := ⟨d, e, h1, h2, l1.shaped (by decide), l2.shaped (by decide), q⟩
theorem Lay.up {n m : Nat} {d : PyData} (h : Lay n d) (e : n ≤ m) : Lay m d := ⟨h.1, Nat.le_trans h.2 e⟩
theorem i_eqT {K : PySem.W.Frag} {H : Hp} {Q : VK} {x y : V} {d : PyData} (h1 : Dp K H x d) (h2 : Dp K H y d) (l1 : Lay 8 d) (q : Q (.bl true) H) : rEqD K x y H Q := i_eqD h1 h2 l1 l1 (by rw [SeqAt.eqv_refl _ l1.1]; exact q)
theorem i_neT {K : PySem.W.Frag} {H : Hp} {Q : VK} {x y : V} {d : PyData} (h1 : Dp K H x d) (h2 : Dp K H y d) (l1 : Lay 8 d) (q : Q (.bl false) H) : rNeD K x y H Q := i_neD h1 h2 l1 l1 (by rw [SeqAt.eqv_refl _ l1.1]; exact q)
/-- a list of ints as data -/
theorem dp_ints {K : PySem.W.Frag} {H : Hp} {p : Addr} {ns : List Int} (h : H p = some (.lst (ns.map V.int))) : Dp K H (.ref p) (.list (ns.map .int)) := by
  refine .lst (SqL.of h) ?_
  clear h
  induction ns with
  | nil => exact .nil
  | cons x r ih => exact .cons (.int x) ih
theorem dp_intsT {K : PySem.W.Frag} {H : Hp} {p : Addr} {ns : List Int} (h : SqT K H p (ns.map V.int)) : Dp K H (.ref p) (.tuple (ns.map .int)) := by
  refine .tup h ?_
  clear h
  induction ns with
  | nil => exact .nil
  | cons x r ih => exact .cons (.int x) ih
theorem dp_bls {K : PySem.W.Frag} {H : Hp} {p : Addr} {ns : List Bool} (h : H p = some (.lst (ns.map V.bl))) : Dp K H (.ref p) (.list (ns.map .bool)) := by
  refine .lst (SqL.of h) ?_
  clear h
  induction ns with
  | nil => exact .nil
  | cons x r ih => exact .cons (.bl x) ih
theorem lay_bls (ns : List Bool) : Lay 8 (.list (ns.map .bool)) := by
  refine (lay_list (n := 0) fun x hx => ?_).up (by decide)
  obtain ⟨i, _, rfl⟩ := List.mem_map.mp hx
  exact lay_bool
theorem lay_intsT (ns : List Int) : Lay 8 (.tuple (ns.map .int)) := by
  refine (lay_tuple (n := 0) fun x hx => ?_).up (by decide)
  obtain ⟨i, _, rfl⟩ := List.mem_map.mp hx
  exact lay_int
theorem lay_ints (ns : List Int) : Lay 8 (.list (ns.map .int)) := by
  refine (lay_list (n := 0) fun x hx => ?_).up (by decide)
  obtain ⟨i, _, rfl⟩ := List.mem_map.mp hx
  exact lay_int
/-! ### built-ins' names -/
theorem bt_len : bootBuiltins "len" = some (.builtin "len") := by decide +kernel
theorem bt_abs : bootBuiltins "abs" = some (.builtin "abs") := by decide +kernel
theorem bt_max : bootBuiltins "max" = some (.builtin "max") := by decide +kernel
theorem bt_min : bootBuiltins "min" = some (.builtin "min") := by decide +kernel
theorem bt_sum : bootBuiltins "sum" = some (.builtin "sum") := by decide +kernel
theorem bt_all : bootBuiltins "all" = some (.builtin "all") := by decide +kernel
theorem bt_any : bootBuiltins "any" = some (.builtin "any") := by decide +kernel
theorem bt_sorted : bootBuiltins "sorted" = some (.builtin "sorted") := by decide +kernel
theorem bt_isinstance : bootBuiltins "isinstance" = some (.builtin "isinstance") := by decide +kernel
theorem bt_list : bootBuiltins "list" = some (.type "list") := by decide +kernel
theorem bt_tuple : bootBuiltins "tuple" = some (.type "tuple") := by decide +kernel
theorem bt_str : bootBuiltins "str" = some (.type "str") := by decide +kernel
theorem bt_int : bootBuiltins "int" = some (.type "int") := by decide +kernel
theorem bt_bool : bootBuiltins "bool" = some (.type "bool") := by decide +kernel
theorem bt_ValueError : bootBuiltins "ValueError" = some (.type "ValueError") := by decide +kernel
section
variable {K : PySem.W.Frag} {H : Hp} {Q : VK}
theorem i_isI {i : Int} (q : Q (.bl true) H) : rIsi K [.int i, .ty "int"] H Q := ⟨.int i, .ty "int", .type "int", .type "int", true, rfl, .ty _, .base (.int _), kit_ty (by decide +kernel), q⟩
theorem i_isB {i : Int} (q : Q (.bl false) H) : rIsi K [.int i, .ty "bool"] H Q := ⟨.int i, .ty "bool", .type "int", .type "bool", false, rfl, .ty _, .base (.int _), kit_ty (by decide +kernel), q⟩
theorem i_isBB {b : Bool} (q : Q (.bl true) H) : rIsi K [.bl b, .ty "bool"] H Q := ⟨.bl b, .ty "bool", .type "bool", .type "bool", true, rfl, .ty _, .base (.bl _), kit_ty (by decide +kernel), q⟩
theorem i_isL {p : Addr} {xs : List V} (h : H p = some (.lst xs)) (q : Q (.bl true) H) : rIsi K [.ref p, .ty "list"] H Q := ⟨.ref p, .ty "list", .type "list", .type "list", true, rfl, .ty _, .base (.lst h), kit_ty (by decide +kernel), q⟩
theorem i_isT {p : Addr} {xs : List V} (h : H p = some (.tup xs)) (q : Q (.bl true) H) : rIsi K [.ref p, .ty "tuple"] H Q := ⟨.ref p, .ty "tuple", .type "tuple", .type "tuple", true, rfl, .ty _, .base (.tup h), kit_ty (by decide +kernel), q⟩
end
/-! ### the law's own draws -/
structure Dr (U H : Hp) (s : Addr) : Prop where
  ex : ∃ (l : Addr) (ns : List Int) (i b e : Int), H s = some (.lst [.ref l, .int i, .int b, .int e]) ∧ U l = some (.lst (ns.map V.int)) ∧ 0 ≤ i ∧ i ≤ ns.length ∧ 0 ≤ b
  out : U s = none
def spStart (K : PySem.W.Frag) : Sp := fun vs H Q _ => ∃ (a : Addr) (ns : List Int) (U : Hp), vs = [.ref a] ∧ SqL K H a (ns.map V.int) ∧ Same U H ∧
  ∀ s U' H', Gr [] U H U' H' → Dr U' H' s → H s = none → Q (.ref s) H'
def spDraw : Sp := fun vs H Q _ => ∃ (s : Addr) (many : Int) (U : Hp), vs = [.ref s, .int many] ∧ 0 < many ∧ many < 2 ^ 200 ∧ Same U H ∧ Dr U H s ∧
  ∀ r H', 0 ≤ r → r < many → Same U H' → Dr U H' s → (∀ a, a ≠ s → H' a = H a) → Q (.int r) H'
/-- the answer of isinstance(x, int) and not isinstance(x, bool) -/
def spWhole : Sp := fun vs H Q _ => ∃ v, vs = [v] ∧ ((∃ i, v = .int i) ∧ Q (.bl true) H)
theorem cut63 (ns : List Int) : ∃ ms : List Int, cutV (ns.map V.int) none (some 63) = ms.map V.int := by
  unfold cutV
  exact ⟨(ns.drop _).take _, by rw [List.map_take, List.map_drop]⟩
theorem Dr.mono {U U' H H' : Hp} {s : Addr} (d : Dr U H s) (e : Same U U') (h : H' s = H s) (n : U' s = none) : Dr U' H' s := by
  obtain ⟨⟨l, ns, i, b, e', h1, h2, h3⟩, _⟩ := d
  exact ⟨⟨l, ns, i, b, e', by rw [h]; exact h1, e _ _ h2, h3⟩, n⟩
theorem Dr.some {U H : Hp} {s : Addr} (d : Dr U H s) : H s ≠ none := by
  obtain ⟨⟨l, ns, i, b, e', h1, _⟩, _⟩ := d
  rw [h1]
  intro z
  cases z
/-- a new thing that never changes; a new one that will -/
theorem Dr.new {U H : Hp} {s p : Addr} {o : HO} (d : Dr U H s) (n : H p = none) (e : Same U H) : Dr (upd U p o) (upd H p o) s := by
  have ne : s ≠ p := fun z => by
    subst z
    exact d.some n
  exact d.mono (same_new (e.free n)) (upd_ne ne) (by rw [upd_ne ne]; exact d.out)
theorem Dr.newM {U H : Hp} {s p : Addr} {o : HO} (d : Dr U H s) (n : H p = none) : Dr U (upd H p o) s := by
  have ne : s ≠ p := fun z => by
    subst z
    exact d.some n
  exact d.mono (Same.refl _) (upd_ne ne) d.out
theorem Dr.mut {U H : Hp} {s p : Addr} {o : HO} (d : Dr U H s) (ne : s ≠ p) : Dr U (upd H p o) s := d.mono (Same.refl _) (upd_ne ne) d.out
theorem same_both {U H : Hp} {p : Addr} {o : HO} (e : Same U H) : Same (upd U p o) (upd H p o) := fun a x h => by
  by_cases z : a = p
  · subst z
    rw [upd_same] at h ⊢
    exact h
  · rw [upd_ne z] at h ⊢
    exact e a x h
theorem same_seal {U H : Hp} {p : Addr} {o : HO} (e : Same U H) (h : H p = some o) : Same (upd U p o) H := fun a x k => by
  by_cases z : a = p
  · subst z
    rw [upd_same] at k
    rw [h]
    exact k
  · rw [upd_ne z] at k
    exact e a x k
theorem Dr.seal {U H : Hp} {s p : Addr} {o : HO} (d : Dr U H s) (n : U p = none) (ne : s ≠ p) : Dr (upd U p o) H s := d.mono (same_new n) rfl (by rw [upd_ne ne]; exact d.out)
/-- behind a call that leaves all as it was -/
theorem Dr.gr {M : List Addr} {U U' H H' : Hp} {s : Addr} (d : Dr U H s) (g : Gr M U H U' H') (m : s ∉ M) : Dr U' H' s := by
  obtain ⟨⟨l, ns, i, b, e', h1, h2, h3⟩, n⟩ := d
  exact ⟨⟨l, ns, i, b, e', g.hh _ _ m h1, g.vv _ _ h2, h3⟩, g.fr s n (by rw [h1]; intro z; cases z)⟩
/-! ### comprehensions whose element changes nothing; whose element draws -/
section
variable {σ : L2.St} {H : Hp} {K : PySem.W.Frag} {Q : VK} {tt : TT} {te : TE} {vs : List Nat} {a D : Addr} {j : Nat}
theorem sq_off {H H' : Hp} {a D : Addr} {xs : List V} (h : SqL K H a xs) (n : H D = none) (e : ∀ b, b ≠ D → H' b = H b) : SqL K H' a xs := by
  rcases h with (h | ⟨o, h⟩) | h
  · exact .inl (.inl (by rw [e a (ne_of_none h n)]; exact h))
  · exact .inl (.inr ⟨o, by rw [e a (ne_of_none h n)]; exact h⟩)
  · exact .inr h
theorem st_off {H H' : Hp} {a D : Addr} {xs : List V} (h : SqT K H a xs) (n : H D = none) (e : ∀ b, b ≠ D → H' b = H b) : SqT K H' a xs := by
  rcases h with (h | ⟨o, h⟩) | h
  · exact .inl (.inl (by rw [e a (ne_of_none h n)]; exact h))
  · exact .inl (.inr ⟨o, by rw [e a (ne_of_none h n)]; exact h⟩)
  · exact .inr h
theorem upd_id {H H' : Hp} {D : Addr} {o : HO} (h : H' D = some o) (e : ∀ b, b ≠ D → H' b = H b) : H' = upd H D o := by
  funext b
  by_cases z : b = D
  · subst z
    rw [upd_same, h]
  · rw [upd_ne z, e b z]
theorem take_filter {xs : List V} {p : V → Bool} {f : V → V} {i : Nat} {x : V} (h : xs[i]? = some x) : ((xs.take (i + 1)).filter p).map f = ((xs.take i).filter p).map f ++ (if p x = true then [f x] else []) := by
  rw [List.take_add_one, h, List.filter_append, List.map_append]
  by_cases hp : p x = true
  · simp [hp]
  · simp [hp]
theorem c_pure {xs : List V} (p : V → Bool) (f : V → V) (hl : SqL K H a xs) (hD : H D = none) (hn : xs.length ≤ 1000) (hw : ∀ v, wipe ((wipe σ vs).set j (some v)) vs = wipe σ vs)
    (ht : ∀ x ∈ xs, ∀ H', (∀ b, b ≠ D → H' b = H b) → ∀ R : Bool → Hp → Prop, R (p x) H' → tt ((wipe σ vs).set j (some x)) H' R)
    (he : ∀ x ∈ xs, p x = true → ∀ H', (∀ b, b ≠ D → H' b = H b) → ∀ R : VK, R (f x) H' → te ((wipe σ vs).set j (some x)) H' R)
    (q : Q (.ref D) (upd H D (.lst ((xs.filter p).map f)))) : COMP (Itl K a) (gName j) tt te vs σ H D Q := by
  refine c_lst (xs := xs) (fun i H' => (∀ b, b ≠ D → H' b = H b) ∧ H' D = some (.lst (((xs.take i).filter p).map f))) ⟨fun b z => upd_ne z, upd_same⟩ (fun i H' _ h => sq_off hl hD h.1) ?_ ?_
  · rintro i x H' ex ⟨e, h⟩
    refine ⟨hw x, ?_⟩
    have mx := List.mem_of_getElem? ex
    refine ht x mx H' e _ ?_
    by_cases hp : p x = true
    · rw [hp, if_pos rfl]
      refine he x mx hp H' e _ ⟨_, h, ?_, fun b z => by rw [upd_ne z]; exact e b z, ?_⟩
      · rw [List.length_map]
        exact small1000 (Nat.le_trans (List.length_filter_le _ _) (by rw [List.length_take]; omega))
      · rw [upd_same, take_filter ex, if_pos hp]
    · rw [if_neg hp]
      refine ⟨e, ?_⟩
      rw [h, take_filter ex, if_neg hp, List.append_nil]
  · rintro H' ⟨e, h⟩
    rw [List.take_length] at h
    rw [upd_id h e]
    exact q
theorem c_pureT {xs : List V} (p : V → Bool) (f : V → V) (hl : SqT K H a xs) (hD : H D = none) (hn : xs.length ≤ 1000) (hw : ∀ v, wipe ((wipe σ vs).set j (some v)) vs = wipe σ vs)
    (ht : ∀ x ∈ xs, ∀ H', (∀ b, b ≠ D → H' b = H b) → ∀ R : Bool → Hp → Prop, R (p x) H' → tt ((wipe σ vs).set j (some x)) H' R)
    (he : ∀ x ∈ xs, p x = true → ∀ H', (∀ b, b ≠ D → H' b = H b) → ∀ R : VK, R (f x) H' → te ((wipe σ vs).set j (some x)) H' R)
    (q : Q (.ref D) (upd H D (.lst ((xs.filter p).map f)))) : COMP (Itt K a) (gName j) tt te vs σ H D Q := by
  refine c_tup (xs := xs) (fun i H' => (∀ b, b ≠ D → H' b = H b) ∧ H' D = some (.lst (((xs.take i).filter p).map f))) ⟨fun b z => upd_ne z, upd_same⟩ (fun i H' _ h => st_off hl hD h.1) ?_ ?_
  · rintro i x H' ex ⟨e, h⟩
    refine ⟨hw x, ?_⟩
    have mx := List.mem_of_getElem? ex
    refine ht x mx H' e _ ?_
    by_cases hp : p x = true
    · rw [hp, if_pos rfl]
      refine he x mx hp H' e _ ⟨_, h, ?_, fun b z => by rw [upd_ne z]; exact e b z, ?_⟩
      · rw [List.length_map]
        exact small1000 (Nat.le_trans (List.length_filter_le _ _) (by rw [List.length_take]; omega))
      · rw [upd_same, take_filter ex, if_pos hp]
    · rw [if_neg hp]
      refine ⟨e, ?_⟩
      rw [h, take_filter ex, if_neg hp, List.append_nil]
  · rintro H' ⟨e, h⟩
    rw [List.take_length] at h
    rw [upd_id h e]
    exact q
theorem filter_yes (xs : List V) : xs.filter (fun _ => true) = xs := by
  induction xs with
  | nil => rfl
  | cons x r ih => simp
/-- [f x for x in xs] -/
theorem c_map {xs : List V} (f : V → V) (hl : SqL K H a xs) (hD : H D = none) (hn : xs.length ≤ 1000) (hw : ∀ v, wipe ((wipe σ vs).set j (some v)) vs = wipe σ vs)
    (he : ∀ x ∈ xs, ∀ H', (∀ b, b ≠ D → H' b = H b) → ∀ R : VK, R (f x) H' → te ((wipe σ vs).set j (some x)) H' R)
    (q : Q (.ref D) (upd H D (.lst (xs.map f)))) : COMP (Itl K a) (gName j) tYes te vs σ H D Q :=
  c_pure (fun _ => true) f hl hD hn hw (fun x _ H' _ R r => r) (fun x m _ H' e R r => he x m H' e R r) (by rw [filter_yes]; exact q)
theorem c_mapT {xs : List V} (f : V → V) (hl : SqT K H a xs) (hD : H D = none) (hn : xs.length ≤ 1000) (hw : ∀ v, wipe ((wipe σ vs).set j (some v)) vs = wipe σ vs)
    (he : ∀ x ∈ xs, ∀ H', (∀ b, b ≠ D → H' b = H b) → ∀ R : VK, R (f x) H' → te ((wipe σ vs).set j (some x)) H' R)
    (q : Q (.ref D) (upd H D (.lst (xs.map f)))) : COMP (Itt K a) (gName j) tYes te vs σ H D Q :=
  c_pureT (fun _ => true) f hl hD hn hw (fun x _ H' _ R r => r) (fun x m _ H' e R r => he x m H' e R r) (by rw [filter_yes]; exact q)
/-- [.. draws .. for k in range(n)]: ints that keep P -/
theorem c_draws {n : Nat} {lo : Int} {U : Hp} {s : Addr} (P : Int → Prop) (hn : n ≤ 1000) (hU : Same U H) (d : Dr U H s) (hD : H D = none) (hw : ∀ v, wipe ((wipe σ vs).set j (some v)) vs = wipe σ vs)
    (he : ∀ (i : Nat) H', Same U H' → Dr U H' s → ∀ R : VK, (∀ y H'', P y → Same U H'' → Dr U H'' s → (∀ b, b ≠ s → H'' b = H' b) → R (.int y) H'') → te ((wipe σ vs).set j (some (.int (lo + i)))) H' R)
    (hd : ∀ (ns : List Int) H', ns.length = n → (∀ y ∈ ns, P y) → Same U H' → Dr U H' s → U D = none → (∀ b, b ≠ s → b ≠ D → H' b = H b) → H' D = some (.lst (ns.map V.int)) → Q (.ref D) H') : COMP (Itr lo n) (gName j) tYes te vs σ H D Q := by
  have nU : U D = none := hU.free hD
  have sD : s ≠ D := fun z => by
    subst z
    exact d.some hD
  refine c_rng (fun i H' => ∃ ns : List Int, ns.length = i ∧ (∀ y ∈ ns, P y) ∧ Same U H' ∧ Dr U H' s ∧ (∀ b, b ≠ s → b ≠ D → H' b = H b) ∧ H' D = some (.lst (ns.map V.int))) ?_ ?_ ?_
  · exact ⟨[], rfl, fun y h => (by cases h), same_mut hU nU, d.newM hD, fun b _ z => upd_ne z, upd_same⟩
  · rintro i H' hi ⟨ns, e1, e2, e3, e4, e5, e6⟩
    refine ⟨hw _, ?_⟩
    refine i_yes (i_itT ?_)
    refine he i H' e3 e4 _ fun y H'' py h1 h2 h3 => ⟨_, (h3 D sD.symm).trans e6, by rw [List.length_map]; exact small1000 (by omega), ns ++ [y], by rw [List.length_append, e1]; rfl, ?_, same_mut h1 nU, h2.mut sD, ?_, ?_⟩
    · intro z hz
      rcases List.mem_append.mp hz with h | h
      · exact e2 z h
      · rw [List.mem_singleton.mp h]
        exact py
    · intro b z1 z2
      rw [upd_ne z2, h3 b z1]
      exact e5 b z1 z2
    · rw [upd_same, List.map_append]
      rfl
  · rintro H' ⟨ns, e1, e2, e3, e4, e5, e6⟩
    exact hd ns H' e1 e2 e3 e4 nU e5 e6
end
/-! ### lists of tuples that stand in H, their tuples in the view -/
abbrev Tups (U : Hp) (as : List Addr) (rows : List (List V)) : Prop := Paired (fun a r => U a = some (.tup r)) as rows
theorem Tups.mono {U U' : Hp} {as : List Addr} {rows : List (List V)} (e : Same U U') (h : Tups U as rows) : Tups U' as rows := Paired.imp (fun _ _ x => e _ _ x) h
theorem Paired.setAt {α β : Type} {F : α → β → Prop} {a : α} {b : β} (h : F a b) : ∀ {xs : List α} {ys : List β} (i : Nat), Paired F xs ys → Paired F (xs.set i a) (ys.set i b)
  | _, _, _, .nil => .nil
  | _, _, 0, .cons _ t => .cons h t
  | _, _, i + 1, .cons x t => .cons x (Paired.setAt h i t)
theorem Paired.erase {α β : Type} {F : α → β → Prop} : ∀ {xs : List α} {ys : List β} (i : Nat), Paired F xs ys → Paired F (xs.eraseIdx i) (ys.eraseIdx i)
  | _, _, _, .nil => .nil
  | _, _, 0, .cons _ t => t
  | _, _, i + 1, .cons x t => .cons x (Paired.erase i t)
theorem Tups.setAt {U : Hp} {as : List Addr} {rows : List (List V)} {a : Addr} {r : List V} (h : U a = some (.tup r)) (i : Nat) (hT : Tups U as rows) : Tups U (as.set i a) (rows.set i r) := Paired.setAt (F := fun a r => U a = some (.tup r)) h i hT
theorem Tups.erase {U : Hp} {as : List Addr} {rows : List (List V)} (i : Nat) (hT : Tups U as rows) : Tups U (as.eraseIdx i) (rows.eraseIdx i) := Paired.erase i hT
theorem Tups.snoc {U : Hp} {as : List Addr} {rows : List (List V)} {a : Addr} {r : List V} (h : U a = some (.tup r)) (hT : Tups U as rows) : Tups U (as ++ [a]) (rows ++ [r]) := Paired.snoc hT h
theorem map_erase {α β : Type} (f : α → β) : ∀ (xs : List α) (i : Nat), (xs.map f).eraseIdx i = (xs.eraseIdx i).map f
  | [], _ => rfl
  | _ :: _, 0 => rfl
  | x :: r, i + 1 => congrArg (f x :: ·) (map_erase f r i)
theorem ixN_of {n j : Nat} {k : Int} (e : k = (j : Int)) (h : j < n) : ixN n k = some j := by
  unfold ixN
  rw [e, if_pos (by omega), if_pos (by omega), Int.toNat_natCast]
theorem Tups.get {U : Hp} {as : List Addr} {rows : List (List V)} (h : Tups U as rows) {i : Nat} {r : List V} (e : rows[i]? = some r) : ∃ a, as[i]? = some a ∧ (as.map V.ref)[i]? = some (.ref a) ∧ U a = some (.tup r) := by
  obtain ⟨a, e1, e2⟩ := Paired.at h i r e
  exact ⟨a, e1, by rw [List.getElem?_map, e1]; rfl, e2⟩
section
variable {σ : L2.St} {H U : Hp} {K : PySem.W.Frag} {n bk ct : L2.St → Hp → Prop} {rt : VK} {tb : TS} {g : TG} {te : TE} {tt : TT} {vs : List Nat} {Q : VK} {p D : Addr} {rows : List (List V)} {as : List Addr}
theorem l_rows (h : Tups U as rows) (Pv : Nat → L2.St → Hp → Prop) (h0 : Pv 0 σ H) (hv : ∀ i σ H, Pv i σ H → Same U H ∧ SqL K H p (as.map V.ref))
    (hs : ∀ i r a σ H, rows[i]? = some r → H a = some (.tup r) → Pv i σ H → g (.ref a) σ H fun σ2 H2 => tb ⟨Pv (i + 1), rt, n, Pv (i + 1)⟩ σ2 H2) (hd : ∀ σ H, Pv rows.length σ H → n σ H) : LOOP (Itl K p) g tb ⟨n, rt, bk, ct⟩ σ H := by
  refine l_lst (xs := as.map V.ref) Pv h0 (fun i σ H _ q => (hv i σ H q).2) (fun i x σ H e q => ?_) (fun σ H q => hd σ H ?_)
  · rw [List.getElem?_map] at e
    cases ea : as[i]? with
    | none =>
      rw [ea] at e
      cases e
    | some a =>
      rw [ea] at e
      have e' := Option.some.inj e
      subst e'
      obtain ⟨r, er, hr⟩ := Paired.at' h i a ea
      exact hs i r a σ H er ((hv i σ H q).1 _ _ hr) q
  · rw [List.length_map, Paired.len h] at q
    exact q
theorem filter_snoc {α β : Type} {xs : List α} {p : α → Bool} {f : α → β} {i : Nat} {x : α} (h : xs[i]? = some x) : ((xs.take (i + 1)).filter p).map f = ((xs.take i).filter p).map f ++ (if p x = true then [f x] else []) := by
  rw [List.take_add_one, h, List.filter_append, List.map_append]
  by_cases hp : p x = true
  · simp [hp]
  · simp [hp]
/-- [e for .. in rows if t]: nothing but the new list changes -/
theorem c_rows (pr : List V → Bool) (f : List V → V) (h : Tups U as rows) (hU : Same U H) (hl : SqL K H p (as.map V.ref)) (hD : H D = none) (hn : rows.length ≤ 1000)
    (he : ∀ a r, r ∈ rows → U a = some (.tup r) → ∀ H', Same U H' → (∀ b, b ≠ D → H' b = H b) → ∀ (Rt : VK) (Rf : Hp → Prop), (pr r = true → Rt (f r) H') → (pr r = false → Rf H') → g (.ref a) (wipe σ vs) H' fun σ2 H2 => wipe σ2 vs = wipe σ vs ∧ tt σ2 H2 fun b H3 => if b = true then te σ2 H3 Rt else Rf H3)
    (q : Q (.ref D) (upd H D (.lst ((rows.filter pr).map f)))) : COMP (Itl K p) g tt te vs σ H D Q := by
  have nU := hU.free hD
  refine c_lst (xs := as.map V.ref) (fun i H' => (∀ b, b ≠ D → H' b = H b) ∧ H' D = some (.lst (((rows.take i).filter pr).map f))) ⟨fun b z => upd_ne z, upd_same⟩ (fun i H' _ h => sq_off hl hD h.1) ?_ ?_
  · rintro i x H' ex ⟨e, hd⟩
    rw [List.getElem?_map] at ex
    cases ea : as[i]? with
    | none =>
      rw [ea] at ex
      cases ex
    | some a =>
      rw [ea] at ex
      have e' := Option.some.inj ex
      subst e'
      obtain ⟨r, er, hr⟩ := Paired.at' h i a ea
      have mr := List.mem_of_getElem? er
      have sU : Same U H' := fun b o hb => by
        rw [e b (ne_of_none hb nU)]
        exact hU b o hb
      refine he a r mr hr H' sU e _ _ (fun hp => ⟨_, hd, ?_, fun b z => by rw [upd_ne z]; exact e b z, ?_⟩) fun hp => ⟨e, ?_⟩
      · rw [List.length_map]
        exact small1000 (Nat.le_trans (List.length_filter_le _ _) (by rw [List.length_take]; omega))
      · rw [upd_same, filter_snoc er, if_pos hp]
      · rw [hd, filter_snoc er, if_neg (by rw [hp]; exact Bool.false_ne_true), List.append_nil]
  · rintro H' ⟨e, hd⟩
    rw [List.length_map, Paired.len h, List.take_length] at hd
    rw [upd_id hd e]
    exact q
end
theorem Tups.dp {K : PySem.W.Frag} {U H : Hp} {p : Addr} {as : List Addr} {rows : List (List V)} (h2 : Tups U as rows) (e : Same U H) (h1 : SqL K H p (as.map V.ref)) (f : ∀ r ∈ rows, ∀ v ∈ r, Dp K H v (dV v)) : Dp K H (.ref p) (.list (rows.map fun r => .tuple (r.map dV))) := by
  refine .lst h1 ?_
  clear h1
  induction h2 with
  | nil => exact .nil
  | @cons a r as rows h t ih =>
    refine .cons (.tup (SqT.of (e _ _ h)) ?_) (ih fun x hx => f x (List.mem_cons_of_mem _ hx))
    have fr := f r List.mem_cons_self
    clear h ih t f
    induction r with
    | nil => exact .nil
    | cons v r ih => exact .cons (fr v List.mem_cons_self) (ih fun x hx => fr x (List.mem_cons_of_mem _ hx))
/-- triples of ints -/
def row3 (r : Int × Int × Int) : List V := [.int r.1, .int r.2.1, .int r.2.2]
theorem dp_row3 {K : PySem.W.Frag} {H : Hp} (rows : List (Int × Int × Int)) : ∀ r ∈ rows.map row3, ∀ v ∈ r, Dp K H v (dV v) := by
  intro r hr v hv
  obtain ⟨x, _, rfl⟩ := List.mem_map.mp hr
  unfold row3 at hv
  simp only [List.mem_cons, List.not_mem_nil, or_false] at hv
  rcases hv with rfl | rfl | rfl <;> exact .int _
theorem lay_row3 (rows : List (Int × Int × Int)) : Lay 8 (.list ((rows.map row3).map fun r => .tuple (r.map dV))) := by
  refine (lay_list (n := 1) fun x hx => ?_).up (by decide)
  obtain ⟨r, hr, rfl⟩ := List.mem_map.mp hx
  obtain ⟨y, _, rfl⟩ := List.mem_map.mp hr
  refine lay_tuple (n := 0) fun z hz => ?_
  obtain ⟨v, hv, rfl⟩ := List.mem_map.mp hz
  unfold row3 at hv
  simp only [List.mem_cons, List.not_mem_nil, or_false] at hv
  rcases hv with rfl | rfl | rfl <;> exact lay_int
theorem row3_at {rows : List (Int × Int × Int)} {i : Nat} {r : List V} (h : (rows.map row3)[i]? = some r) : ∃ x, rows[i]? = some x ∧ r = row3 x := by
  rw [List.getElem?_map] at h
  cases e : rows[i]? with
  | none =>
    rw [e] at h
    cases h
  | some x =>
    rw [e] at h
    exact ⟨x, rfl, (Option.some.inj h).symm⟩
theorem c_mapR {σ : L2.St} {H : Hp} {Q : VK} {te : TE} {vs : List Nat} {D : Addr} {j n : Nat} {lo : Int} (f : Nat → V) (hD : H D = none) (hn : n ≤ 1000) (hw : ∀ v, wipe ((wipe σ vs).set j (some v)) vs = wipe σ vs)
    (he : ∀ i, i < n → ∀ H', (∀ b, b ≠ D → H' b = H b) → ∀ R : VK, R (f i) H' → te ((wipe σ vs).set j (some (.int (lo + (i : Nat))))) H' R)
    (q : Q (.ref D) (upd H D (.lst ((List.range n).map f)))) : COMP (Itr lo n) (gName j) tYes te vs σ H D Q := by
  refine c_rng (fun i H' => (∀ b, b ≠ D → H' b = H b) ∧ H' D = some (.lst ((List.range i).map f))) ⟨fun b z => upd_ne z, upd_same⟩ ?_ ?_
  · rintro i H' hi ⟨e, h⟩
    refine ⟨hw _, i_yes (i_itT ?_)⟩
    refine he i hi H' e _ ⟨_, h, by rw [List.length_map, List.length_range]; exact small1000 (by omega), fun b z => by rw [upd_ne z]; exact e b z, ?_⟩
    rw [upd_same, List.range_succ, List.map_append]
    rfl
  · rintro H' ⟨e, h⟩
    rw [upd_id h e]
    exact q
theorem cut_mid (xs : List V) (h : 2 ≤ xs.length) : cutV xs (some 1) (some (-1)) = (xs.drop 1).take (xs.length - 2) := by
  unfold cutV
  rw [show HT.sIx xs.length 0 (some 1) = min 1 xs.length from HT.sIx_nat xs.length 0 1]
  have e : HT.sIx xs.length xs.length (some (-1)) = xs.length - 1 := by
    show (if (-1 : Int) < 0 then ((-1 : Int) + (xs.length : Int)).toNat else min (-1 : Int).toNat xs.length) = xs.length - 1
    rw [if_pos (by decide)]
    omega
  rw [e, Nat.min_eq_left (by omega)]
  rfl
theorem at_last {xs : List V} {v : V} (h : xs[xs.length - 1]? = some v) (h0 : 0 < xs.length) : atI xs (-1) = some v := by
  unfold atI ixN
  rw [if_neg (by decide), if_pos (by omega)]
  have e : (-1 + (xs.length : Int)).toNat = xs.length - 1 := by omega
  rw [e]
  exact h
/-- two rising lists of the same numbers are one -/
theorem rising_eq {a b : List Int} (hp : a.Perm b) (ha : a.Pairwise (· ≤ ·)) (hb : b.Pairwise (· ≤ ·)) : a = b := hp.eq_of_pairwise (fun x y _ _ h1 h2 => Int.le_antisymm h1 h2) ha hb
/-- the middle of what was heard -/
def spMid : Sp := fun vs H Q _ => ∃ (a : Addr) (ns : List Int), vs = [.ref a] ∧ H a = some (.lst (ns.map V.int)) ∧ 3 ≤ ns.length ∧ ns.length < 60 ∧
  ∀ (s : List Int) (x y : Int) (H' : Hp), s.Perm ns → s.Pairwise (· ≤ ·) → s[1]? = some x → s[ns.length - 2]? = some y → Same H H' → Q (.int ((x + y) / 2)) H'
/-! ### comprehensions whose element makes new things -/
section
variable {σ : L2.St} {H : Hp} {K : PySem.W.Frag} {Q : VK} {te : TE} {vs : List Nat} {a D : Addr} {j : Nat}
theorem c_growT {xs : List V} (f : V → V) (hl : SqT K H a xs) (hD : H D = none) (hn : xs.length ≤ 1000) (hw : ∀ v, wipe ((wipe σ vs).set j (some v)) vs = wipe σ vs)
    (he : ∀ x ∈ xs, ∀ H', Same H H' → ∀ R : VK, (∀ H'', Same H' H'' → R (f x) H'') → te ((wipe σ vs).set j (some x)) H' R)
    (q : ∀ H', Same H H' → H' D = some (.lst (xs.map f)) → Q (.ref D) H') : COMP (Itt K a) (gName j) tYes te vs σ H D Q := by
  refine c_tup (xs := xs) (fun i H' => Same H H' ∧ H' D = some (.lst ((xs.take i).map f))) ⟨same_new hD, upd_same⟩ (fun i H' _ h => ?_) ?_ ?_
  · rcases hl with (h1 | ⟨o, h1⟩) | h1
    · exact .inl (.inl (h.1 _ _ h1))
    · exact .inl (.inr ⟨o, h.1 _ _ h1⟩)
    · exact .inr h1
  · rintro i x H' ex ⟨e, h⟩
    refine ⟨hw x, i_yes (i_itT ?_)⟩
    refine he x (List.mem_of_getElem? ex) H' e _ fun H'' s => ⟨_, s _ _ h, ?_, same_mut (e.trans s) hD, ?_⟩
    · rw [List.length_map, List.length_take]
      exact small1000 (by omega)
    · rw [upd_same, List.take_add_one, ex, List.map_append]
      rfl
  · rintro H' ⟨e, h⟩
    rw [List.take_length] at h
    exact q H' e h
theorem c_growL {xs : List V} (f : V → V) (hl : SqL K H a xs) (hD : H D = none) (hn : xs.length ≤ 1000) (hw : ∀ v, wipe ((wipe σ vs).set j (some v)) vs = wipe σ vs)
    (he : ∀ x ∈ xs, ∀ H', Same H H' → ∀ R : VK, (∀ H'', Same H' H'' → R (f x) H'') → te ((wipe σ vs).set j (some x)) H' R)
    (q : ∀ H', Same H H' → H' D = some (.lst (xs.map f)) → Q (.ref D) H') : COMP (Itl K a) (gName j) tYes te vs σ H D Q := by
  refine c_lst (xs := xs) (fun i H' => Same H H' ∧ H' D = some (.lst ((xs.take i).map f))) ⟨same_new hD, upd_same⟩ (fun i H' _ h => h.1.seq hl) ?_ ?_
  · rintro i x H' ex ⟨e, h⟩
    refine ⟨hw x, i_yes (i_itT ?_)⟩
    refine he x (List.mem_of_getElem? ex) H' e _ fun H'' s => ⟨_, s _ _ h, ?_, same_mut (e.trans s) hD, ?_⟩
    · rw [List.length_map, List.length_take]
      exact small1000 (by omega)
    · rw [upd_same, List.take_add_one, ex, List.map_append]
      rfl
  · rintro H' ⟨e, h⟩
    rw [List.take_length] at h
    exact q H' e h
end
end SW

namespace SW
open PySem PySem.Spec PyProof.Rows L2
/-! ### raise X() of an own class without __init__ -/
theorem pmk_own0 {X : Cx} {C : Addr} {bmB : List Value} {B newId initId : String} {x : Str} {p pos : Pos} (F : ExcBaseFacts B newId initId bmB) (q : PySem.W.excIn X.K C bmB newId = true) (gC : X.mg x = some (.ref C))
    (kC : PySem.W.keepIn X.K (.ref C) = true) (r : Raises X (.ref C)) (hg : Gl X x) (hdb : (x == ("__debug__" : Str)) = false := by decide) :
    PMk X (.Call (.Name x p) [] [] pos) (fun _ H Q => Q (.ref C) none H) := by
  intro pins s σ H Q I h
  refine wpAny_Call_Name_kw (ld_glob I hg gC ?_ hdb)
  refine PySem.W.callWith_K0 I.kIn kC ?_
  show wpAny _ _ (call (.ref C) []) _ _ _
  obtain ⟨bm, N, nm, qn, bs, hdct, sn, sub, ab, col, dd, k0, k1, k2, k3, k5, mN, hC, hN, hni, T⟩ := exc_obj I.kIn q
  exact wpAny_call_exc_subT F T hC hN hni (fun h' e hm => mk_of I hm r h (I.hok.gone hm.new)) (Nat.zero_le _)
/-! ### what is known of the error classes -/
def errMro (C N : Addr) : List Value := [.ref C, .ref N, .type "ValueError", .type "Exception", .type "BaseException", .type "object"]
def errB (K : PySem.W.Frag) (C N : Addr) : Bool :=
  ((PySem.W.clsIn K C).any fun cd => cd.mro == errMro C N) && (PySem.W.typeIn K (.ref C) == some (.type "type")) && PySem.W.keepIn K (.ref C) && (PySem.W.findIn K (.ref C) "__getattribute__" == some (some (.builtin "BaseException.__getattribute__"))) &&
    (PySem.W.findIn K (.ref C) "__getattr__" == some none) && (PySem.W.findIn K (.ref C) "__class__" == some (some (.builtin "object.__class__"))) && PySem.W.hasDictIn K C
structure ErrC (K : PySem.W.Frag) (C N : Addr) : Prop where
  mro : ∃ cd, PySem.W.clsIn K C = some cd ∧ cd.mro = errMro C N
  ty : PySem.W.typeIn K (.ref C) = some (.type "type")
  kp : PySem.W.keepIn K (.ref C) = true
  ga : PySem.W.findIn K (.ref C) "__getattribute__" = some (some (.builtin "BaseException.__getattribute__"))
  gt : PySem.W.findIn K (.ref C) "__getattr__" = some none
  cl : PySem.W.findIn K (.ref C) "__class__" = some (some (.builtin "object.__class__"))
  hd : PySem.W.hasDictIn K C = true
theorem errC_of {K : PySem.W.Frag} {C N : Addr} (h : errB K C N = true) : ErrC K C N := by
  unfold errB at h
  simp only [Bool.and_eq_true, beq_iff_eq] at h
  obtain ⟨⟨⟨⟨⟨⟨h1, h2⟩, h3⟩, h4⟩, h5⟩, h6⟩, h7⟩ := h
  refine ⟨?_, h2, h3, h4, h5, h6, h7⟩
  cases e : PySem.W.clsIn K C with
  | none =>
    rw [e] at h1
    cases h1
  | some cd =>
    rw [e] at h1
    exact ⟨cd, rfl, beq_iff_eq.mp h1⟩
theorem ErrC.sub {K : PySem.W.Frag} {C N : Addr} (h : ErrC K C N) (b : Value) : PySem.W.subIn K (.ref C) b = some ((errMro C N).contains b) := by
  obtain ⟨cd, e, m⟩ := h.mro
  show PySem.W.mroIn K C b = _
  unfold PySem.W.mroIn
  rw [e, Option.bind_some, m]
  rfl
theorem ErrC.base {K : PySem.W.Frag} {C N : Addr} (h : ErrC K C N) : PySem.W.subIn K (.ref C) (.type "BaseException") = some true := by
  rw [h.sub]
  rfl
theorem ErrC.raises {X : Cx} {C N : Addr} (h : ErrC X.K C N) : Raises X (.ref C) := raises_own h.base h.ty
theorem mem_mro {C N D : Addr} : (errMro C N).contains (.ref D) = decide (D = C ∨ D = N) := by
  unfold errMro
  by_cases h1 : D = C
  · subst h1
    simp
  · by_cases h2 : D = N
    · subst h2
      simp
    · simp [h1, h2]
/-- isinstance(e, D) for e of the class C -/
theorem ErrC.kit {K : PySem.W.Frag} {C D N : Addr} (h : ErrC K C N) (g : ErrC K D N) (hN : C ≠ N) (hD : D ≠ N) : PySem.W.kitOne K (.ref C) (.ref D) = some (decide (D = C)) := by
  unfold PySem.W.kitOne
  by_cases e : C = D
  · subst e
    simp
  · have e1 : (Value.ref C == Value.ref D) = false := by simp [e]
    rw [e1, if_neg Bool.false_ne_true]
    obtain ⟨cd, c1, _⟩ := g.mro
    show (if ((PySem.W.clsIn K D).isSome && PySem.W.typeIn K (.ref D) == some (.type "type")) = true then PySem.W.subIn K (.ref C) (.ref D) else none) = _
    rw [c1, g.ty]
    show PySem.W.subIn K (.ref C) (.ref D) = _
    rw [h.sub, mem_mro]
    congr 1
    exact decide_eq_decide.mpr ⟨fun z => z.resolve_right hD, .inl⟩
theorem ErrC.kitVE {K : PySem.W.Frag} {C N : Addr} (h : ErrC K C N) : PySem.W.kitOne K (.ref C) (.type "ValueError") = some true := by
  unfold PySem.W.kitOne
  rw [show (Value.ref C == Value.type "ValueError") = false from rfl, if_neg Bool.false_ne_true]
  show (if PySem.W.kitMeta "ValueError" = true then PySem.W.subIn K (.ref C) (.type "ValueError") else none) = _
  rw [show PySem.W.kitMeta "ValueError" = true by decide +kernel, if_pos rfl, h.sub]
  rfl
/-- an except clause that names the common class -/
theorem ErrC.exm {K : PySem.W.Frag} {C N : Addr} (h : ErrC K C N) (hb : PySem.W.subIn K (.ref N) (.type "BaseException") = some true) (hd : PySem.W.hasDictIn K N = true) (ht : PySem.W.typeIn K (.ref N) = some (.type "type")) : PySem.W.exmOne K (.ref C) (.ref N) = some true :=
  PySem.W.exm_ref hb hd ht (by rw [h.sub, mem_mro]; simp)
/-! ### isinstance of the error that is handled -/
def rIsW (K : PySem.W.Frag) (a : Addr) (cls : Value) (d : Option Addr) : List V → Hp → VK → Prop := fun xs H Q => ∃ (c : V) (cv : Value) (b : Bool), xs = [.ref a, c] ∧ ClsV c cv ∧ PySem.W.kitOne K cls cv = some b ∧ (∀ dd, d = some dd → ∃ fs, H dd = some (.xd fs)) ∧ Q (.bl b) H
theorem call_isW {X : Cx} {K : PySem.W.Frag} {p : Addr × Obj} {C N : Addr} {d : Option Addr} (hK : X.K = K) (hp : p ∈ X.pn) (T : ErrC K C N) (hn : PySem.W.specialIn K (.builtin "object.__class__") "__get__" = some (some (.builtin "getset_descriptor.__get__")))
    (ht : PySem.W.takesIn K (.builtin "object.__class__") = some true) (hz : Zc (.ref C) d p.2) (hf : ∃ vs, p.2.data = .fields vs) : CallR X (.builtin "isinstance") (rIsW K p.1 (.ref C) d) := by
  subst hK
  intro pins s σ H xs us Q I r h
  obtain ⟨c, cv, b, rfl, k, e, hdd, q⟩ := h
  obtain ⟨u1, u2, rfl, r1, r2⟩ := vals2 r
  obtain rfl : u1 = Value.ref p.1 := r1
  have e2 := k.eq r2
  subst e2
  have hget := (I.pin p (List.mem_append_left _ hp)).1
  obtain ⟨vs, hv⟩ := hf
  have hm : PySem.W.mroIn X.K C (.type "object") = some true := by
    have z := T.sub (.type "object")
    exact z
  have hcl : (PySem.W.clsIn X.K C).isSome = true := by
    obtain ⟨cd, c1, _⟩ := T.mro
    rw [c1]
    rfl
  have nc : PySem.W.notCls p.2 = true := by
    unfold PySem.W.notCls
    rw [hv]
  have J : ∃ od, PySem.W.InstAt s.heap p.1 p.2 C od := by
    cases d with
    | none => exact ⟨none, hget, hz.1, nc, by rw [hz.2]; trivial⟩
    | some dd =>
      obtain ⟨fs, hdx⟩ := hdd dd rfl
      obtain ⟨mA, hns, _⟩ := (show ObjOk X.prog X.w H s.heap dd (.xd fs) from I.hok dd _ hdx)
      obtain ⟨od, ho, _⟩ := lookIn_ns hns
      exact ⟨some od, hget, hz.1, nc, by rw [hz.2]; exact ho⟩
  obtain ⟨od, J⟩ := J
  exact PySem.W.kia_one (PySem.W.kitx_exc hcl T.ga T.gt T.base T.cl hn ht hm) I.kIn J e (fun z => nomatch z) fun tk => ⟨.bl b, H, I.tok tk, rfl, q⟩
/-! ### a def that is called while an error is handled, the error at hand: sp knows its address, class and dict -/
abbrev SpW := Addr → Value → Option Addr → Sp
structure FnW (P : Program) (w : World) (K : PySem.W.Frag) (mg : Str → Option Value) (base : Heap) (k : Nat) (f : Addr) (fd : FuncData) (ps : List Str) (sp : SpW) : Prop where
  len : ∀ a cls d vs H Q E, sp a cls d vs H Q E → vs.length = ps.length
  run : ∀ (A : Around) (outer : List Env) (s : Shared) (H : Hp) (args : Args) (us : List Value) (vs : List V) (Q : VK) (E : XK) (p : Addr × Obj) (cls : Value) (d : Option Addr), L2H.RoomH k A → Zc cls d p.2 → (∃ fs, p.2.data = .fields fs) → L2H.PinOk outer H s p →
    Env0 P w K mg base A outer s H → BindsTo s fd args (ps.zip us) → Vals vs us → sp p.1 cls d vs H Q E → codeAny (model P w) A (.call (.ref f) args) (CR CX0 outer P w H s Q E) s
theorem fun_okW {P : Program} {w : World} {K : PySem.W.Frag} {mg : Str → Option Value} {base : Heap} {x qual : Str} {st : Stmt} {f : Addr} {fd : FuncData} {N ps : List Str} {k : Nat} {sp : SpW} (F : Fun K x qual st f fd) (S : FnScope N ps (defScope st))
    (len : ∀ a cls d vs H Q E, sp a cls d vs H Q E → vs.length = ps.length)
    (body : ∀ (cdv : Value) (A : Around) (outer : List Env) (s : Shared) (H : Hp) (vs : List V) (Q : VK) (E : XK) (p : Addr × Obj) (cls : Value) (d : Option Addr), L2H.RoomH k (A.deeper (envOfC qual (defScope st) s.heap.objs.size f cdv)) → Zc cls d p.2 → (∃ fs, p.2.data = .fields fs) → sp p.1 cls d vs H Q E →
      ∃ t, PSs (L2H.cxH CX0 P w K mg base N qual (defScope st) f cdv A outer s H E p) (defBody st) t ∧ t { nx := fun _ H' => Q .non H', rt := Q } (start N vs) H) : FnW P w K mg base (k + 1) f fd ps sp := by
  obtain ⟨oc, od, kV, doc, pm, an, cdv, ct, osl, rfl, lk, hcd⟩ := F.ex
  refine ⟨len, ?_⟩
  intro A outer s H args us vs Q E p cls d room hz hf pin env0 bind vals prom
  have inK : K.In s.heap := env0.mod.kin.keeps fun b o z => (env0.bs b o z).1
  have kinds : ∀ y ∈ ps.zip us, (defScope st).names.lookup y.1 = some .local ∨ ((defScope st).names.lookup y.1 = some .cell ∧ ((cellsFrom (s.heap.objs.size + 1) (defScope st).names []).lookup y.1).isSome = true) := by
    rintro ⟨n, v⟩ hy
    exact (S.par n (List.of_mem_zip hy).1).imp id fun z => ⟨z, PySem.W.cellsFrom_some _ _ _ (.inl z)⟩
  have nolim : s.heap.NoLimit := env0.mod.nolimit.keeps fun b o z => (env0.bs b o z).1
  apply codeAny_call_function room.depth (inK _ _ lk) rfl S.co S.gen rfl (PySem.W.codeRec_of inK hcd) (bind _ _ _ _ ?_)
  apply wpAny_newFunctionEnv_cells S.kind kinds
  intro env ee s1 inc
  subst ee
  refine ⟨nolim.keeps inc.toInCall.keep, codeAny_func ?_⟩
  obtain ⟨t, dt, rt⟩ := body cdv A outer s H vs Q E p cls d (room.deeper _) hz hf prom
  have I := L2H.inv_startH (CX := CX0) (E := E) S pin env0 (len _ _ _ _ _ _ _ prom) vals inc
  refine wpAny_mono (dt.run [] s1 _ H _ I rt) (fun fl s' z => ?_) fun _ _ z => z
  cases fl with
  | next =>
    obtain ⟨σ', H', J, z⟩ := z
    exact ⟨V.non, H', J.os, J.bare, J.base, J.hok, rfl, z⟩
  | ret u =>
    obtain ⟨v, σ', H', J, rv, z⟩ := z
    exact ⟨v, H', J.os, J.bare, J.base, J.hok, rv, z⟩
  | brk =>
    obtain ⟨_, _, _, z⟩ := z
    exact z.elim
  | cont =>
    obtain ⟨_, _, _, z⟩ := z
    exact z.elim
def tCallW (sp : SpW) (a : Addr) (cls : Value) (d : Option Addr) (t : TA) : TE := fun σ H Q => t σ H fun vs H1 => sp a cls d vs H1 Q E0
theorem pe_callW {X : Cx} {k : Nat} {f : Addr} {fd : FuncData} {ps : List Str} {sp : SpW} {x : Str} {n pos : Pos} {e : Expr} {es : List Expr} {t : TA} {p : Addr × Obj} {cls : Value} {d : Option Addr} (F : FnW X.prog X.w X.K X.mg X.base k f fd ps sp) (room : L2H.RoomH k X.A)
    (hp : p ∈ X.pn) (hz : Zc cls d p.2) (hf : ∃ fs, p.2.data = .fields fs) (hg : Gl X x) (hm : X.mg x = some (.ref f)) (hk : PySem.W.keepIn X.K (.ref f) = true) (hb : Binds X.K fd ps []) (ha : PA X (e :: es) t)
    (hdb : (x == ("__debug__" : Str)) = false := by decide) (he : starEach (e :: es) X.env = (false, eval e X.env) :: starEach es X.env := by rfl) (hpl : (backTo pos (starEach es X.env)).any (·.1) = false := by rfl) :
    PE X (.Call (.Name x n) (e :: es) [] pos) (tCallW sp p.1 cls d t) := by
  constructor
  intro pins s σ H Q I h
  refine wpAny_Call_Name_kw (ld_glob I hg hm (PySem.W.callWith_K (h₀ := X.base) I.ok.mod.kin hk (thn (ha.run pos pins s σ H _ I h) ?_) he hpl) hdb)
  rintro us s1 ⟨vs, H1, I1, r, z⟩
  refine ⟨I1.kIn, ?_⟩
  have b := hb s1 us I1.kIn (by rw [List.append_nil, ← r.length]; exact F.len _ _ _ _ _ _ _ z)
  rw [List.append_nil] at b
  obtain ⟨g1, g2, g3, g4, g5⟩ := I1.pin p (List.mem_append_left _ hp)
  have pin : L2H.PinOk X.stack H1 s1 p := ⟨g1, g2, fun hm => (List.mem_cons.mp (I1.stkSub p.1 hm)).elim g3 g4, g5⟩
  refine wpAny_call (codeAny_mono (F.run X.A X.stack s1 H1 ⟨us, []⟩ us vs Q E0 p cls d room hz hf pin I1.env0 b r z) ?_)
  intro res s' z
  cases res with
  | error e => exact z.elim
  | ok fl =>
    cases fl with
    | ret u => exact I1.after z
    | next => exact z.elim
    | brk => exact z.elim
    | cont => exact z.elim
theorem pe_callA {X : Cx} {k : Nat} {f : Addr} {fd : FuncData} {ps : List Str} {sp : SpW} {x : Str} {n pos : Pos} {e : Expr} {es : List Expr} {t : TA} (a : Addr) (oe : Obj) (cls : Value) (d : Option Addr) (F : FnW X.prog X.w X.K X.mg X.base k f fd ps sp) (room : L2H.RoomH k X.A)
    (hp : (a, oe) ∈ X.pn) (hz : Zc cls d oe) (hf : ∃ fs, oe.data = .fields fs) (hg : Gl X x) (hm : X.mg x = some (.ref f)) (hk : PySem.W.keepIn X.K (.ref f) = true) (hb : Binds X.K fd ps []) (ha : PA X (e :: es) t)
    (hdb : (x == ("__debug__" : Str)) = false := by decide) (he : starEach (e :: es) X.env = (false, eval e X.env) :: starEach es X.env := by rfl) (hpl : (backTo pos (starEach es X.env)).any (·.1) = false := by rfl) :
    PE X (.Call (.Name x n) (e :: es) [] pos) (tCallW sp a cls d t) := pe_callW (p := (a, oe)) F room hp hz hf hg hm hk hb ha hdb he hpl
theorem i_callW {σ : L2.St} {H : Hp} {Q : VK} {sp : SpW} {a : Addr} {cls : Value} {d : Option Addr} {t : TA} (q : t σ H fun vs H1 => sp a cls d vs H1 Q E0) : tCallW sp a cls d t σ H Q := q
theorem i_callS {σ : L2.St} {H : Hp} {Q : VK} {sp : Sp} {E : L2.St → XK} {t : TA} (q : t σ H fun vs H1 => sp vs H1 Q (E σ)) : tCallS sp E t σ H Q := q
theorem roomW {k : Nat} {A : Around} {v : Option Value} (r : Room k A) : L2H.RoomH k (A.mark v) := ⟨r.dp, r.un⟩
end SW

open PySem L2 SW
local macro_rules | `(tactic| walk_at "sw1") => `(tactic| first
  | with_reducible refine i_seq ?_
  | with_reducible refine i_set ?_
  | with_reducible refine i_asg ?_
  | with_reducible refine i_var rfl ?_
  | with_reducible refine i_c ?_
  | with_reducible refine i_op ?_
  | with_reducible refine i_rI0 ?_
  | with_reducible refine i_cons ?_
  | with_reducible refine i_nil ?_
  | with_reducible refine i_call ?_
  | with_reducible refine i_cb ?_
  | with_reducible refine i_if ?_
  | with_reducible refine i_test ?_
  | with_reducible refine i_B ?_
  | with_reducible refine i_bl ?_
  | with_reducible refine i_blV ?_
  | with_reducible refine i_itT ?_
  | with_reducible refine i_itF ?_
  | with_reducible refine i_iteNT ?_
  | with_reducible refine i_iteNF ?_
  | with_reducible refine i_iteNN ?_
  | with_reducible refine i_ret ?_
  | with_reducible refine i_drop ?_
  | with_reducible refine i_next ?_
  | with_reducible refine i_un ?_
  | with_reducible refine i_rU ?_
  | with_reducible refine i_eqI ?_
  | with_reducible refine i_neI ?_
  | with_reducible refine i_eqS ?_
  | with_reducible refine i_neS ?_
  | with_reducible refine i_not ?_
  | with_reducible refine i_and ?_
  | with_reducible refine i_or ?_
  | with_reducible refine i_andV ?_
  | with_reducible refine i_orV ?_
  | with_reducible refine i_notV ?_
  | with_reducible refine i_ifE ?_
  | with_reducible refine i_chain ?_
  | with_reducible refine i_sub ?_
  | with_reducible refine i_lst ?_
  | with_reducible refine i_tup ?_
  | with_reducible refine i_for1 ?_
  | with_reducible refine i_for2 ?_
  | with_reducible refine i_for3 ?_
  | with_reducible refine i_forL ?_
  | with_reducible refine i_forT ?_
  | with_reducible refine i_lc1 ?_
  | with_reducible refine i_lc2 ?_
  | with_reducible refine i_lcL ?_
  | with_reducible refine i_lcT ?_
  | with_reducible refine i_gname ?_
  | with_reducible refine i_yes ?_
  | with_reducible refine i_callN ?_
  | with_reducible refine i_callW ?_
  | with_reducible refine i_callS ?_
  | with_reducible refine i_par ?_
  | with_reducible refine i_sl ?_
  | with_reducible refine i_nopart ?_
  | with_reducible refine i_part ?_
  | with_reducible refine i_partE ?_
  | with_reducible refine i_parE ?_
  | with_reducible refine i_ipI ?_
  | with_reducible refine i_asg2 ?_
  | with_reducible refine i_gcons ?_
  | with_reducible refine i_gnil ?_
  | with_reducible refine i_retN ?_
  | with_reducible refine i_brk ?_
  | with_reducible refine i_cont ?_)
local macro_rules | `(tactic| walk_at "hp") => `(tactic| first | assumption | exact upd_same | (refine upd_get (by assumption) ?_; walk_at "hp") | ((rw [upd_ne (by assumption)]); walk_at "hp"))
local macro_rules | `(tactic| walk_at "cc") => `(tactic| first | omega | decide | exact ⟨by decide, by decide⟩ | exact ⟨by omega, by omega⟩ | exact ⟨by decide, by decide, by decide⟩ | exact Or.inr ⟨by decide, by decide⟩ | exact Or.inl ⟨by decide, by decide⟩ | exact Or.inr ⟨by omega, by omega⟩ | exact Or.inl ⟨by omega, by omega⟩ | assumption)
local macro_rules | `(tactic| walk_at "sw2") => `(tactic| first
  | walk_at "sw1"
  | ((with_reducible refine' i_rI ?c1 ?_); (case c1 => (dsimp only; walk_at "cc")))
  | ((with_reducible refine' i_rI ?c1 ?_); (case c1 => (walk_at "cc")))
  | ((with_reducible refine' i_ixL ?c1 ?c2 ?_); (case c1 => walk_at "hp"); (case c2 => exact rfl))
  | ((with_reducible refine' i_ixT ?c1 ?c2 ?_); (case c1 => walk_at "hp"); (case c2 => exact rfl))
  | with_reducible refine i_isI ?_
  | with_reducible refine i_isB ?_
  | with_reducible refine i_isBB ?_
  | ((with_reducible refine' i_isL ?c1 ?_); (case c1 => walk_at "hp"))
  | ((with_reducible refine' i_isT ?c1 ?_); (case c1 => walk_at "hp"))
  | ((with_reducible refine' i_setL ?c1 ?c2 ?_); (case c1 => walk_at "hp"); (case c2 => exact rfl))
  | ((with_reducible refine' i_rI ?c1 ?_); (case c1 => first | (apply_assumption; done) | exact wide_div (b := 200) (by omega) (by omega) (by decide) (by decide)))
  | ((with_reducible refine' Exists.intro _ (Exists.intro _ (And.intro rfl (And.intro (Or.inl (SqL.of ?c1)) ?_)))); (case c1 => walk_at "hp"))
  | ((with_reducible refine' Exists.intro _ (Exists.intro _ (And.intro rfl (And.intro (Or.inr (SqT.of ?c1)) ?_)))); (case c1 => walk_at "hp"))
  | ((with_reducible refine' Exists.intro _ (And.intro (rfl : [V.int _] = [V.int _]) ?_)))
  | ((with_reducible refine' Exists.intro _ (Exists.intro _ (And.intro (rfl : [V.int _, V.int _] = [V.int _, V.int _]) ?_))))
  | (with_reducible refine And.intro (Nat.le_of_ble_eq_true rfl : List.length _ ≤ sizeLine) ?_))
local macro_rules | `(tactic| walk_at "sw3") => `(tactic| first
  | walk_at "sw2"
  | ((with_reducible refine' i_aug ?c1 ?_); (case c1 => exact rfl))
  | with_reducible refine And.intro (rfl : V.non = V.non) ?_
  | with_reducible refine i_bm ?_
  | with_reducible refine i_bm0 ?_
  | ((with_reducible refine' i_lenL ?c1 ?_); (case c1 => walk_at "hp"))
  | ((with_reducible refine' i_lenT ?c1 ?_); (case c1 => walk_at "hp"))
  | ((with_reducible refine' i_listL ?c1 ?_); (case c1 => walk_at "hp"))
  | ((with_reducible refine' i_listT ?c1 ?_); (case c1 => walk_at "hp"))
  | ((with_reducible refine' i_tupleL ?c1 ?_); (case c1 => walk_at "hp"))
  | ((with_reducible refine' i_tupleT ?c1 ?_); (case c1 => walk_at "hp"))
  | ((with_reducible refine' i_tyL ?c1 ?_); (case c1 => walk_at "hp"))
  | ((with_reducible refine' i_app ?c1 ?c2 ?_); (case c1 => walk_at "hp"); (case c2 => first | assumption | omega | (simp; done) | ((simp only [List.length_map, List.length_append, List.length_take]); omega)))
  | ((with_reducible refine' i_slL ?c1 ?_); (case c1 => walk_at "hp"))
  | ((with_reducible refine' i_gtup ?c1 ?c2 ?_); (case c1 => walk_at "hp"); (case c2 => exact rfl)))
local macro_rules | `(tactic| walk_at "sw") => `(tactic| ((try dsimp only); repeat walk_at "sw3"))

namespace SW
open PySem L2
def top (i : Nat) : Stmt := PySem.Challenge.pw_slotwright_k37_middle_of_words.main.body.getD i (.Pass ⟨0, 0, 0, 0⟩)
abbrev s_middle : Stmt := top 20
abbrev s_law_start : Stmt := top 22
abbrev s_law_draw : Stmt := top 23
abbrev s_law_whole : Stmt := top 24
abbrev s_law_kinds_one : Stmt := top 25
abbrev s_law_kinds_two : Stmt := top 26
abbrev s_law_kind : Stmt := top 27
abbrev s_law : Stmt := top 28
theorem sc_middle : FnScope ["numbers", "inner"] ["numbers"] (defScope s_middle) := ⟨rfl, rfl, rfl, by decide +kernel, rfl, by decide +kernel, by decide +kernel⟩
theorem sc_law_start : FnScope ["_law_script"] ["_law_script"] (defScope s_law_start) := ⟨rfl, rfl, rfl, by decide +kernel, rfl, by decide +kernel, by decide +kernel⟩
theorem sc_law_draw : FnScope ["_law_s", "_law_many", "_law_cell", "_law_found"] ["_law_s", "_law_many"] (defScope s_law_draw) := ⟨rfl, rfl, rfl, by decide +kernel, rfl, by decide +kernel, by decide +kernel⟩
theorem sc_law_whole : FnScope ["_law_x"] ["_law_x"] (defScope s_law_whole) := ⟨rfl, rfl, rfl, by decide +kernel, rfl, by decide +kernel, by decide +kernel⟩
theorem sc_law_kinds_one : FnScope ["_law_e", "_law_kinds"] ["_law_e"] (defScope s_law_kinds_one) := ⟨rfl, rfl, rfl, by decide +kernel, rfl, by decide +kernel, by decide +kernel⟩
theorem sc_law_kinds_two : FnScope ["_law_e", "_law_kinds"] ["_law_e"] (defScope s_law_kinds_two) := ⟨rfl, rfl, rfl, by decide +kernel, rfl, by decide +kernel, by decide +kernel⟩
theorem sc_law_kind : FnScope ["_law_e", "_law_kinds"] ["_law_e"] (defScope s_law_kind) := ⟨rfl, rfl, rfl, by decide +kernel, rfl, by decide +kernel, by decide +kernel⟩
theorem sc_law : FnScope ["_law_script", "_law_s", "_law_top", "_law_numbers", "_law_handed", "_law_got", "_law_found", "_law_e", "_law_rest", "_law_low", "_law_high", "_law_one", "_law_k"] ["_law_script"] (defScope s_law) := ⟨rfl, rfl, rfl, by decide +kernel, rfl, by decide +kernel, by decide +kernel⟩
structure Tx (K : PySem.W.Frag) (mg : Str → Option Value) where
  f_middle : Addr
  fd_middle : FuncData
  F_middle : Fun K "middle" "middle" s_middle f_middle fd_middle
  b_middle : Binds K fd_middle ["numbers"] []
  g_middle : mg "middle" = some (.ref f_middle)
  f_law_start : Addr
  fd_law_start : FuncData
  F_law_start : Fun K "_law_start" "_law_start" s_law_start f_law_start fd_law_start
  b_law_start : Binds K fd_law_start ["_law_script"] []
  g_law_start : mg "_law_start" = some (.ref f_law_start)
  f_law_draw : Addr
  fd_law_draw : FuncData
  F_law_draw : Fun K "_law_draw" "_law_draw" s_law_draw f_law_draw fd_law_draw
  b_law_draw : Binds K fd_law_draw ["_law_s", "_law_many"] []
  g_law_draw : mg "_law_draw" = some (.ref f_law_draw)
  f_law_whole : Addr
  fd_law_whole : FuncData
  F_law_whole : Fun K "_law_whole" "_law_whole" s_law_whole f_law_whole fd_law_whole
  b_law_whole : Binds K fd_law_whole ["_law_x"] []
  g_law_whole : mg "_law_whole" = some (.ref f_law_whole)
  f_law_kinds_one : Addr
  fd_law_kinds_one : FuncData
  F_law_kinds_one : Fun K "_law_kinds_one" "_law_kinds_one" s_law_kinds_one f_law_kinds_one fd_law_kinds_one
  b_law_kinds_one : Binds K fd_law_kinds_one ["_law_e"] []
  g_law_kinds_one : mg "_law_kinds_one" = some (.ref f_law_kinds_one)
  f_law_kinds_two : Addr
  fd_law_kinds_two : FuncData
  F_law_kinds_two : Fun K "_law_kinds_two" "_law_kinds_two" s_law_kinds_two f_law_kinds_two fd_law_kinds_two
  b_law_kinds_two : Binds K fd_law_kinds_two ["_law_e"] []
  g_law_kinds_two : mg "_law_kinds_two" = some (.ref f_law_kinds_two)
  f_law_kind : Addr
  fd_law_kind : FuncData
  F_law_kind : Fun K "_law_kind" "_law_kind" s_law_kind f_law_kind fd_law_kind
  b_law_kind : Binds K fd_law_kind ["_law_e"] []
  g_law_kind : mg "_law_kind" = some (.ref f_law_kind)
  f_law : Addr
  fd_law : FuncData
  F_law : Fun K "law" "law" s_law f_law fd_law
  b_law : Binds K fd_law ["_law_script"] []
  g_law : mg "law" = some (.ref f_law)
  z_ValueError : mg "ValueError" = none
  z_abs : mg "abs" = none
  z_bool : mg "bool" = none
  z_int : mg "int" = none
  z_isinstance : mg "isinstance" = none
  z_len : mg "len" = none
  z_list : mg "list" = none
  z_max : mg "max" = none
  z_min : mg "min" = none
  z_range : mg "range" = none
  z_sorted : mg "sorted" = none
  c_NetError : Addr
  g_NetError : mg "NetError" = some (.ref c_NetError)
  k_base : PySem.W.subIn K (.ref c_NetError) (.type "BaseException") = some true
  k_dict : PySem.W.hasDictIn K c_NetError = true
  k_type : PySem.W.typeIn K (.ref c_NetError) = some (.type "type")
  k_get : PySem.W.specialIn K (.builtin "object.__class__") "__get__" = some (some (.builtin "getset_descriptor.__get__"))
  k_tak : PySem.W.takesIn K (.builtin "object.__class__") = some true
  c_BadName : Addr
  g_BadName : mg "BadName" = some (.ref c_BadName)
  e_BadName : ErrC K c_BadName c_NetError
  x_BadName : PySem.W.excIn K c_BadName [.type "ValueError", .type "Exception", .type "BaseException", .type "object"] "ValueError.__new__" = true
  c_BadNumber : Addr
  g_BadNumber : mg "BadNumber" = some (.ref c_BadNumber)
  e_BadNumber : ErrC K c_BadNumber c_NetError
  x_BadNumber : PySem.W.excIn K c_BadNumber [.type "ValueError", .type "Exception", .type "BaseException", .type "object"] "ValueError.__new__" = true
  c_BadWay : Addr
  g_BadWay : mg "BadWay" = some (.ref c_BadWay)
  e_BadWay : ErrC K c_BadWay c_NetError
  x_BadWay : PySem.W.excIn K c_BadWay [.type "ValueError", .type "Exception", .type "BaseException", .type "object"] "ValueError.__new__" = true
  c_BadEnds : Addr
  g_BadEnds : mg "BadEnds" = some (.ref c_BadEnds)
  e_BadEnds : ErrC K c_BadEnds c_NetError
  x_BadEnds : PySem.W.excIn K c_BadEnds [.type "ValueError", .type "Exception", .type "BaseException", .type "object"] "ValueError.__new__" = true
  c_BadLine : Addr
  g_BadLine : mg "BadLine" = some (.ref c_BadLine)
  e_BadLine : ErrC K c_BadLine c_NetError
  x_BadLine : PySem.W.excIn K c_BadLine [.type "ValueError", .type "Exception", .type "BaseException", .type "object"] "ValueError.__new__" = true
  c_Taken : Addr
  g_Taken : mg "Taken" = some (.ref c_Taken)
  e_Taken : ErrC K c_Taken c_NetError
  c_NoName : Addr
  g_NoName : mg "NoName" = some (.ref c_NoName)
  e_NoName : ErrC K c_NoName c_NetError
  c_InUse : Addr
  g_InUse : mg "InUse" = some (.ref c_InUse)
  e_InUse : ErrC K c_InUse c_NetError
  c_Full : Addr
  g_Full : mg "Full" = some (.ref c_Full)
  e_Full : ErrC K c_Full c_NetError
  x_Full : PySem.W.excIn K c_Full [.type "ValueError", .type "Exception", .type "BaseException", .type "object"] "ValueError.__new__" = true
  c_Tight : Addr
  g_Tight : mg "Tight" = some (.ref c_Tight)
  e_Tight : ErrC K c_Tight c_NetError
  c_Late : Addr
  g_Late : mg "Late" = some (.ref c_Late)
  e_Late : ErrC K c_Late c_NetError
  c_Heavy : Addr
  g_Heavy : mg "Heavy" = some (.ref c_Heavy)
  e_Heavy : ErrC K c_Heavy c_NetError
  c_NoPlan : Addr
  g_NoPlan : mg "NoPlan" = some (.ref c_NoPlan)
  e_NoPlan : ErrC K c_NoPlan c_NetError
  c_NoRoom : Addr
  g_NoRoom : mg "NoRoom" = some (.ref c_NoRoom)
  e_NoRoom : ErrC K c_NoRoom c_NetError
  x_NoRoom : PySem.W.excIn K c_NoRoom [.type "ValueError", .type "Exception", .type "BaseException", .type "object"] "ValueError.__new__" = true
  c_NoStep : Addr
  g_NoStep : mg "NoStep" = some (.ref c_NoStep)
  e_NoStep : ErrC K c_NoStep c_NetError
  x_NoStep : PySem.W.excIn K c_NoStep [.type "ValueError", .type "Exception", .type "BaseException", .type "object"] "ValueError.__new__" = true
  c_TooFew : Addr
  g_TooFew : mg "TooFew" = some (.ref c_TooFew)
  e_TooFew : ErrC K c_TooFew c_NetError
  x_TooFew : PySem.W.excIn K c_TooFew [.type "ValueError", .type "Exception", .type "BaseException", .type "object"] "ValueError.__new__" = true
  c_BadPage : Addr
  g_BadPage : mg "BadPage" = some (.ref c_BadPage)
  e_BadPage : ErrC K c_BadPage c_NetError
  x_BadPage : PySem.W.excIn K c_BadPage [.type "ValueError", .type "Exception", .type "BaseException", .type "object"] "ValueError.__new__" = true
  k_nd : [c_NetError, c_BadName, c_BadNumber, c_BadWay, c_BadEnds, c_BadLine, c_Taken, c_NoName, c_InUse, c_Full, c_Tight, c_Late, c_Heavy, c_NoPlan, c_NoRoom, c_NoStep, c_TooFew, c_BadPage].Nodup

def spLaw (K : PySem.W.Frag) : Sp := fun vs H Q _ => ∃ (a : Addr) (ns : List Int), vs = [.ref a] ∧ SqL K H a (ns.map V.int) ∧ ns.length ≤ 63 ∧ (∀ z ∈ ns, Builtin.Int.intBits z ≤ 1048576) ∧ ∀ H', Q (.bl true) H'
section
variable {P : Program} {w : World} {K : PySem.W.Frag} {mg : Str → Option Value} {base : Heap}
theorem ok_law_start (T : Tx K mg) : FnOk P w K mg base CX0 1 T.f_law_start T.fd_law_start ["_law_script"] (spStart K) := by
  refine T.F_law_start.ok sc_law_start (fun vs H Q E h => ?_) (fun cdv A outer s H vs Q E hr h => ?_)
  · obtain ⟨a, ns, U, rfl, _⟩ := h
    rfl
  · obtain ⟨a, ns, U, rfl, hS, hU, q⟩ := h
    refine ⟨_, (pss_one (ps_ret (pe_lst (pa_cons (pe_callTy (call_listK (K := K) rfl) (by rfl) T.z_list bt_list (pa_cons (pe_slice (sl_listK (K := K) rfl) (pv 0) po_none (po_some pe_int)) pa_nil)) (pa_cons pe_int (pa_cons pe_int (pa_cons pe_int pa_nil))))))), ?_⟩
    walk_at "sw"
    refine ⟨a, _, rfl, hS, fun c nc => ?_⟩
    obtain ⟨ms, em⟩ := cut63 ns
    rw [em]
    have g1 : Gr [] U H U (upd H c (.lst (ms.map V.int))) := (Gr.refl hU).newM nc
    walk_at "sw"
    intro l nl
    have g2 := g1.new (o := .lst (ms.map V.int)) nl
    walk_at "sw"
    intro s ns'
    have g3 := g2.newM (o := .lst [.ref l, .int 0, .int 0, .int 90210]) ns'
    refine q s _ _ g3 ⟨⟨l, ms, 0, 0, 90210, upd_same, upd_same, Int.le_refl _, by omega, Int.le_refl _⟩, g2.vh.free ns'⟩ (g2.fresh ns')
theorem ok_law_draw (T : Tx K mg) : FnOk P w K mg base CX0 1 T.f_law_draw T.fd_law_draw ["_law_s", "_law_many"] spDraw := by
  refine T.F_law_draw.ok sc_law_draw (fun vs H Q E h => ?_) (fun cdv A outer s0 H vs Q E hr h => ?_)
  · obtain ⟨s, many, U, rfl, _⟩ := h
    rfl
  · obtain ⟨s, many, U, rfl, h0, h2, hU, D, q⟩ := h
    obtain ⟨⟨l, ns, i, b, e, hs, hl, hi, hi2, hb⟩, hn⟩ := D
    have hlU := hU _ _ hl
    have sl : s ≠ l := fun z => by
      subst z
      rw [hn] at hl
      cases hl
    refine ⟨_, (pss_cons (ps_if (pt_cmpR op_eq (pe_ix (ix_listK (K := K) rfl) (pv 0) pe_int (fun _ _ => rfl)) pe_int (nomark _))
      (pss_cons (ps_set (i := 2) sc_law_draw.nd rfl (Or.inl rfl) pe_int)
      (pss_cons (ps_if (pt_cmpR op_lt (pe_ix (ix_listK (K := K) rfl) (pv 0) pe_int (fun _ _ => rfl)) (pe_callB (call_lenK (K := K) rfl) (by rfl) T.z_len bt_len (pa_cons (pe_ix (ix_listK (K := K) rfl) (pv 0) pe_int (fun _ _ => rfl)) pa_nil)) (nomark _))
      (pss_cons (ps_set (i := 2) sc_law_draw.nd rfl (Or.inl rfl) (pe_ix (ix_listK (K := K) rfl) (pe_ix (ix_listK (K := K) rfl) (pv 0) pe_int (fun _ _ => rfl)) (pe_ix (ix_listK (K := K) rfl) (pv 0) pe_int (fun _ _ => rfl)) (fun _ _ => rfl)))
      (pss_one (ps_asg (pe_op op_add (pe_ix (ix_listK (K := K) rfl) (pv 0) pe_int (fun _ _ => rfl)) pe_int) (pg_sub (pv 0) pe_int set_list))))
      pss_nil)
      (pss_one (ps_if ((pw_or (pt_cmpR op_ge (pv 2) (pe_op op_pow pe_int pe_int) (nomark _)) (pw_or1 (pt_cmpR op_le (pv 2) (pe_un un_neg (pe_op op_pow pe_int pe_int)) (nomark _))))).pt
      (pss_one (ps_asg (pe_callB call_abs (by rfl) T.z_abs bt_abs (pa_cons (pv 2) pa_nil)) (pg_sub (pv 0) pe_int set_list)))
      (pss_cons (ps_asg (pe_op op_mod (pe_op op_add (pe_op op_add (pe_op op_mul (pe_ix (ix_listK (K := K) rfl) (pv 0) pe_int (fun _ _ => rfl)) pe_int) (pe_op op_mod (pv 2) pe_int)) pe_int) pe_int) (pg_sub (pv 0) pe_int set_list))
      (pss_one (ps_ret (pe_op op_mod (pe_op op_fdiv (pe_ix (ix_listK (K := K) rfl) (pv 0) pe_int (fun _ _ => rfl)) pe_int) (pv 1)))))))))
      pss_nil)
      (pss_cons (ps_set (i := 3) sc_law_draw.nd rfl (Or.inl rfl) (pe_op op_mod (pe_ix (ix_listK (K := K) rfl) (pv 0) pe_int (fun _ _ => rfl)) (pv 1)))
      (pss_cons (ps_asg (pe_op op_fdivW (pe_ix (ix_listK (K := K) rfl) (pv 0) pe_int (fun _ _ => rfl)) (pv 1)) (pg_sub (pv 0) pe_int set_list))
      (pss_one (ps_ret (pv 3)))))), ?_⟩
    have w3 : ∀ z : Int, CDivW z many := fun z => wide_div h0 (b := 200) (by omega) (by decide) (by decide)
    -- the end, from a heap that has changed at s alone
    have fin : ∀ (H1 : Hp) (i1 b1 e1 : Int) (r : Int), (∀ a, a ≠ s → H1 a = H a) → H1 s = some (.lst [.ref l, .int i1, .int b1, .int e1]) → 0 ≤ i1 → i1 ≤ ns.length → 0 ≤ b1 → 0 ≤ r → r < many → Q (.int r) H1 := by
      intro H1 i1 b1 e1 r ho h1 a1 a2 a3 a4 a5
      refine q r H1 a4 a5 (fun a o ha => ?_) ⟨⟨l, ns, i1, b1, e1, h1, hl, a1, a2, a3⟩, hn⟩ ho
      have ne : a ≠ s := fun z => by
        subst z
        rw [hn] at ha
        cases ha
      rw [ho a ne]
      exact hU a o ha
    have tail : ∀ (H1 : Hp) (i1 b1 e1 : Int), (∀ a, a ≠ s → H1 a = H a) → H1 s = some (.lst [.ref l, .int i1, .int b1, .int e1]) → 0 ≤ i1 → i1 ≤ ns.length → 0 ≤ b1 →
        Q (.int (b1 % many)) (upd H1 s (.lst [.ref l, .int i1, .int (b1 / many), .int e1])) := by
      intro H1 i1 b1 e1 ho h1 a1 a2 a3
      refine fin _ i1 (b1 / many) e1 _ (fun a ne => ?_) upd_same a1 a2 (Int.ediv_nonneg a3 (by omega)) (Int.emod_nonneg _ (by omega)) (Int.emod_lt_of_pos _ h0)
      rw [upd_ne ne]
      exact ho a ne
    have ab : ∀ c : Int, 0 ≤ (if c < 0 then -c else c) := fun c => by split <;> omega
    have md : ∀ c : Int, 0 ≤ c % many ∧ c % many < many := fun c => ⟨Int.emod_nonneg _ (by omega), Int.emod_lt_of_pos _ h0⟩
    have un : ∀ (o : HO) (a : Addr), a ≠ s → upd H s o a = H a := fun o a ne => upd_ne ne
    have un2 : ∀ (o o' : HO) (a : Addr), a ≠ s → upd (upd H s o) s o' a = H a := fun o o' a ne => by rw [upd_ne ne, upd_ne ne]
    walk_at "sw"
    refine i_ite (fun h => ?_) (fun h => ?_)
    · walk_at "sw"
      refine i_ite (fun h => ?_) (fun h => ?_)
      · obtain ⟨j, rfl⟩ : ∃ j : Nat, i = (j : Int) := ⟨i.toNat, by omega⟩
        rw [List.length_map] at h
        have hj : j < ns.length := by omega
        walk_at "sw"
        refine i_ixL hlU (at_of (j := j) (v := V.int ns[j]) rfl (by rw [List.getElem?_map, List.getElem?_eq_getElem hj]; rfl)) ?_
        walk_at "sw"
        refine i_ite (fun h => ?_) (fun h => ?_)
        · walk_at "sw"
          exact tail _ (j + 1) _ e (un2 _ _) upd_same (by omega) (by omega) (ab _)
        · walk_at "sw"
          refine i_ite (fun h => ?_) (fun h => ?_)
          · walk_at "sw"
            exact tail _ (j + 1) _ e (un2 _ _) upd_same (by omega) (by omega) (ab _)
          · walk_at "sw"
            exact fin _ (j + 1) b _ _ (un2 _ _) upd_same (by omega) (by omega) hb (md _).1 (md _).2
      · walk_at "sw"
        refine i_ite (fun h => ?_) (fun h => ?_)
        · walk_at "sw"
          exact tail _ i _ e (un _) upd_same hi hi2 (ab _)
        · walk_at "sw"
          refine i_ite (fun h => ?_) (fun h => ?_)
          · walk_at "sw"
            exact tail _ i _ e (un _) upd_same hi hi2 (ab _)
          · walk_at "sw"
            exact fin _ i b _ _ (un _) upd_same hi hi2 hb (md _).1 (md _).2
    · walk_at "sw"
      exact tail H i b e (fun a _ => rfl) hs hi hi2 hb

theorem ok_law_whole (T : Tx K mg) : FnOk P w K mg base CX0 1 T.f_law_whole T.fd_law_whole ["_law_x"] spWhole := by
  refine T.F_law_whole.ok sc_law_whole (fun vs H Q E h => ?_) (fun cdv A outer s H vs Q E hr h => ?_)
  · obtain ⟨v, rfl, _⟩ := h
    rfl
  · obtain ⟨v, rfl, ⟨i, rfl⟩, q⟩ := h
    refine ⟨_, (pss_one (ps_ret (pe_and (pe_callB (call_isiKK (K := K) rfl) (by rfl) T.z_isinstance bt_isinstance (pa_cons (pv 0) (pa_cons (pe_bltn (v := .ty "int") (by rfl) T.z_int bt_int rfl) pa_nil))) (pe_one (pe_not (pe_callB (call_isiKK (K := K) rfl) (by rfl) T.z_isinstance bt_isinstance (pa_cons (pv 0) (pa_cons (pe_bltn (v := .ty "bool") (by rfl) T.z_bool bt_bool rfl) pa_nil)))))))), ?_⟩
    walk_at "sw"
    exact q

/-! ### the error classes and their names -/
def errs1 (T : Tx K mg) : List (Str × Addr) := [("BadName", T.c_BadName), ("BadNumber", T.c_BadNumber), ("BadWay", T.c_BadWay), ("BadEnds", T.c_BadEnds), ("BadLine", T.c_BadLine), ("Taken", T.c_Taken), ("NoName", T.c_NoName), ("InUse", T.c_InUse), ("Full", T.c_Full)]
def errs2 (T : Tx K mg) : List (Str × Addr) := [("Tight", T.c_Tight), ("Late", T.c_Late), ("Heavy", T.c_Heavy), ("NoPlan", T.c_NoPlan), ("NoRoom", T.c_NoRoom), ("NoStep", T.c_NoStep), ("TooFew", T.c_TooFew), ("BadPage", T.c_BadPage)]
/-- D is the class of that name -/
def IsErr (T : Tx K mg) (nm : Str) (D : Addr) : Prop := (nm, D) ∈ errs1 T ++ errs2 T
theorem IsErr.ok {T : Tx K mg} {nm : Str} {D : Addr} (h : IsErr T nm D) : ErrC K D T.c_NetError ∧ D ≠ T.c_NetError := by
  have nd := T.k_nd
  have hn : ∀ x, x ∈ [T.c_BadName, T.c_BadNumber, T.c_BadWay, T.c_BadEnds, T.c_BadLine, T.c_Taken, T.c_NoName, T.c_InUse, T.c_Full, T.c_Tight, T.c_Late, T.c_Heavy, T.c_NoPlan, T.c_NoRoom, T.c_NoStep, T.c_TooFew, T.c_BadPage] → x ≠ T.c_NetError := fun x hx z => (List.nodup_cons.mp nd).1 (z ▸ hx)
  unfold IsErr errs1 errs2 at h
  simp only [List.cons_append, List.nil_append, List.mem_cons, List.not_mem_nil, or_false, Prod.mk.injEq] at h
  rcases h with ⟨rfl, rfl⟩ | ⟨rfl, rfl⟩ | ⟨rfl, rfl⟩ | ⟨rfl, rfl⟩ | ⟨rfl, rfl⟩ | ⟨rfl, rfl⟩ | ⟨rfl, rfl⟩ | ⟨rfl, rfl⟩ | ⟨rfl, rfl⟩ | ⟨rfl, rfl⟩ | ⟨rfl, rfl⟩ | ⟨rfl, rfl⟩ | ⟨rfl, rfl⟩ | ⟨rfl, rfl⟩ | ⟨rfl, rfl⟩ | ⟨rfl, rfl⟩ | ⟨rfl, rfl⟩
  · exact ⟨T.e_BadName, hn _ (by simp)⟩
  · exact ⟨T.e_BadNumber, hn _ (by simp)⟩
  · exact ⟨T.e_BadWay, hn _ (by simp)⟩
  · exact ⟨T.e_BadEnds, hn _ (by simp)⟩
  · exact ⟨T.e_BadLine, hn _ (by simp)⟩
  · exact ⟨T.e_Taken, hn _ (by simp)⟩
  · exact ⟨T.e_NoName, hn _ (by simp)⟩
  · exact ⟨T.e_InUse, hn _ (by simp)⟩
  · exact ⟨T.e_Full, hn _ (by simp)⟩
  · exact ⟨T.e_Tight, hn _ (by simp)⟩
  · exact ⟨T.e_Late, hn _ (by simp)⟩
  · exact ⟨T.e_Heavy, hn _ (by simp)⟩
  · exact ⟨T.e_NoPlan, hn _ (by simp)⟩
  · exact ⟨T.e_NoRoom, hn _ (by simp)⟩
  · exact ⟨T.e_NoStep, hn _ (by simp)⟩
  · exact ⟨T.e_TooFew, hn _ (by simp)⟩
  · exact ⟨T.e_BadPage, hn _ (by simp)⟩
theorem kit_at {T : Tx K mg} {nm nm' : Str} {D C : Addr} (h : IsErr T nm D) (g : IsErr T nm' C) : PySem.W.kitOne K (.ref D) (.ref C) = some (decide (C = D)) := h.ok.1.kit g.ok.1 h.ok.2 g.ok.2
def tag (D : Addr) (L : List (Str × Addr)) : List V := (L.filter fun x => decide (x.2 = D)).map fun x => .str x.1
theorem tag_nil (D : Addr) : tag D [] = [] := rfl
theorem tag_cons (D : Addr) (x : Str × Addr) (L : List (Str × Addr)) : tag D (x :: L) = (if decide (x.2 = D) = true then [V.str x.1] else []) ++ tag D L := by
  unfold tag
  by_cases h : x.2 = D
  · simp [h]
  · simp [h]
theorem tag_none {D : Addr} : ∀ {L : List (Str × Addr)}, (∀ x ∈ L, x.2 ≠ D) → tag D L = []
  | [], _ => rfl
  | x :: r, h => by
    rw [tag_cons, decide_eq_false (h x List.mem_cons_self), if_neg Bool.false_ne_true, tag_none fun y hy => h y (List.mem_cons_of_mem _ hy)]
    rfl
theorem tag_one {D : Addr} {nm : Str} : ∀ {L : List (Str × Addr)}, (L.map (·.2)).Nodup → (nm, D) ∈ L → tag D L = [.str nm]
  | [], _, h => by cases h
  | x :: r, nd, h => by
    rw [List.map_cons, List.nodup_cons] at nd
    rw [tag_cons]
    rcases List.mem_cons.mp h with e | e
    · subst e
      rw [decide_eq_true rfl, if_pos rfl, tag_none fun y hy z => nd.1 (List.mem_map.mpr ⟨y, hy, z⟩)]
      rfl
    · have hx : x.2 ≠ D := fun z => nd.1 (List.mem_map.mpr ⟨(nm, D), e, z.symm⟩)
      rw [decide_eq_false hx, if_neg Bool.false_ne_true, tag_one nd.2 e]
      rfl
theorem tag_app (D : Addr) (L M : List (Str × Addr)) : tag D (L ++ M) = tag D L ++ tag D M := by
  unfold tag
  rw [List.filter_append, List.map_append]
/-- if isinstance(e, C): kinds.append(name) -/
theorem k_step {a p C : Addr} {cls : Value} {d : Option Addr} {nm : Str} {acc : List V} {b : Bool} {H : Hp} {σ : L2.St} {n bk ct : L2.St → Hp → Prop} {rt : VK} (h0 : σ[0]? = some (some (.ref a))) (h1 : σ[1]? = some (some (.ref p))) (hp : H p = some (.lst acc)) (hk : PySem.W.kitOne K cls (.ref C) = some b)
    (hd : ∀ dd, d = some dd → ∃ fs, H dd = some (.xd fs)) (hl : acc.length ≤ 100) (q : n σ (upd H p (.lst (acc ++ (if b = true then [.str nm] else []))))) :
    tIfS (tB (tCB (rIsW K a cls d) (tCons (tVar 0) (tCons (tC (.ref C)) tNil)))) (tDrop (tBM K "list" rAppend (tVar 1) (tCons (tC (.str nm)) tNil))) tNext ⟨n, rt, bk, ct⟩ σ H := by
  refine ⟨.ref a, h0, .ref C, .ref C, b, rfl, .own C, hk, hd, b, rfl, ?_⟩
  cases b with
  | true =>
    refine i_itT ⟨.ref p, h1, .inl ⟨rfl, _, SqL.of hp⟩, p, acc, _, rfl, rfl, hp, small1000 (by omega), q⟩
  | false =>
    refine i_itF ?_
    rw [if_neg Bool.false_ne_true, List.append_nil, ← upd_id (H := H) (H' := H) hp (fun _ _ => rfl)] at q
    exact q
def spKinds (T : Tx K mg) (L : List (Str × Addr)) : SpW := fun a cls d vs H Q _ => ∃ (nm : Str) (D : Addr), vs = [.ref a] ∧ cls = .ref D ∧ IsErr T nm D ∧ (∀ dd, d = some dd → ∃ fs, H dd = some (.xd fs)) ∧ ∀ p, H p = none → Q (.ref p) (upd H p (.lst (tag D L)))

theorem ok_law_kinds_one (T : Tx K mg) : FnW P w K mg base 1 T.f_law_kinds_one T.fd_law_kinds_one ["_law_e"] (spKinds T (errs1 T)) := by
  refine fun_okW T.F_law_kinds_one sc_law_kinds_one (fun a cls d vs H Q E h => ?_) (fun cdv A outer s H vs Q E p cls d hr hz hf h => ?_)
  · obtain ⟨nm, D, rfl, _⟩ := h
    rfl
  · obtain ⟨nm, D, rfl, rfl, hE, hdd, q⟩ := h
    have eD := hE.ok.1
    refine ⟨_, (pss_cons (ps_set (i := 1) sc_law_kinds_one.nd rfl (Or.inl rfl) (pe_lst pa_nil))
      (pss_cons (ps_if (pt_val (pe_callB (call_isW (K := K) rfl (List.mem_singleton.mpr rfl) eD T.k_get T.k_tak hz hf) (by rfl) T.z_isinstance bt_isinstance (pa_cons (pv 0) (pa_cons (pe_glob (v := .ref T.c_BadName) (by rfl) T.g_BadName rfl) pa_nil))))
      (pss_one (ps_expr (pe_bm PySem.F.plainAttrs_list PySem.F.slot_list_append PySem.F.type_list_append mt_append (pv 1) (pa_cons pe_str pa_nil))))
      pss_nil)
      (pss_cons (ps_if (pt_val (pe_callB (call_isW (K := K) rfl (List.mem_singleton.mpr rfl) eD T.k_get T.k_tak hz hf) (by rfl) T.z_isinstance bt_isinstance (pa_cons (pv 0) (pa_cons (pe_glob (v := .ref T.c_BadNumber) (by rfl) T.g_BadNumber rfl) pa_nil))))
      (pss_one (ps_expr (pe_bm PySem.F.plainAttrs_list PySem.F.slot_list_append PySem.F.type_list_append mt_append (pv 1) (pa_cons pe_str pa_nil))))
      pss_nil)
      (pss_cons (ps_if (pt_val (pe_callB (call_isW (K := K) rfl (List.mem_singleton.mpr rfl) eD T.k_get T.k_tak hz hf) (by rfl) T.z_isinstance bt_isinstance (pa_cons (pv 0) (pa_cons (pe_glob (v := .ref T.c_BadWay) (by rfl) T.g_BadWay rfl) pa_nil))))
      (pss_one (ps_expr (pe_bm PySem.F.plainAttrs_list PySem.F.slot_list_append PySem.F.type_list_append mt_append (pv 1) (pa_cons pe_str pa_nil))))
      pss_nil)
      (pss_cons (ps_if (pt_val (pe_callB (call_isW (K := K) rfl (List.mem_singleton.mpr rfl) eD T.k_get T.k_tak hz hf) (by rfl) T.z_isinstance bt_isinstance (pa_cons (pv 0) (pa_cons (pe_glob (v := .ref T.c_BadEnds) (by rfl) T.g_BadEnds rfl) pa_nil))))
      (pss_one (ps_expr (pe_bm PySem.F.plainAttrs_list PySem.F.slot_list_append PySem.F.type_list_append mt_append (pv 1) (pa_cons pe_str pa_nil))))
      pss_nil)
      (pss_cons (ps_if (pt_val (pe_callB (call_isW (K := K) rfl (List.mem_singleton.mpr rfl) eD T.k_get T.k_tak hz hf) (by rfl) T.z_isinstance bt_isinstance (pa_cons (pv 0) (pa_cons (pe_glob (v := .ref T.c_BadLine) (by rfl) T.g_BadLine rfl) pa_nil))))
      (pss_one (ps_expr (pe_bm PySem.F.plainAttrs_list PySem.F.slot_list_append PySem.F.type_list_append mt_append (pv 1) (pa_cons pe_str pa_nil))))
      pss_nil)
      (pss_cons (ps_if (pt_val (pe_callB (call_isW (K := K) rfl (List.mem_singleton.mpr rfl) eD T.k_get T.k_tak hz hf) (by rfl) T.z_isinstance bt_isinstance (pa_cons (pv 0) (pa_cons (pe_glob (v := .ref T.c_Taken) (by rfl) T.g_Taken rfl) pa_nil))))
      (pss_one (ps_expr (pe_bm PySem.F.plainAttrs_list PySem.F.slot_list_append PySem.F.type_list_append mt_append (pv 1) (pa_cons pe_str pa_nil))))
      pss_nil)
      (pss_cons (ps_if (pt_val (pe_callB (call_isW (K := K) rfl (List.mem_singleton.mpr rfl) eD T.k_get T.k_tak hz hf) (by rfl) T.z_isinstance bt_isinstance (pa_cons (pv 0) (pa_cons (pe_glob (v := .ref T.c_NoName) (by rfl) T.g_NoName rfl) pa_nil))))
      (pss_one (ps_expr (pe_bm PySem.F.plainAttrs_list PySem.F.slot_list_append PySem.F.type_list_append mt_append (pv 1) (pa_cons pe_str pa_nil))))
      pss_nil)
      (pss_cons (ps_if (pt_val (pe_callB (call_isW (K := K) rfl (List.mem_singleton.mpr rfl) eD T.k_get T.k_tak hz hf) (by rfl) T.z_isinstance bt_isinstance (pa_cons (pv 0) (pa_cons (pe_glob (v := .ref T.c_InUse) (by rfl) T.g_InUse rfl) pa_nil))))
      (pss_one (ps_expr (pe_bm PySem.F.plainAttrs_list PySem.F.slot_list_append PySem.F.type_list_append mt_append (pv 1) (pa_cons pe_str pa_nil))))
      pss_nil)
      (pss_cons (ps_if (pt_val (pe_callB (call_isW (K := K) rfl (List.mem_singleton.mpr rfl) eD T.k_get T.k_tak hz hf) (by rfl) T.z_isinstance bt_isinstance (pa_cons (pv 0) (pa_cons (pe_glob (v := .ref T.c_Full) (by rfl) T.g_Full rfl) pa_nil))))
      (pss_one (ps_expr (pe_bm PySem.F.plainAttrs_list PySem.F.slot_list_append PySem.F.type_list_append mt_append (pv 1) (pa_cons pe_str pa_nil))))
      pss_nil)
      (pss_one (ps_ret (pv 1))))))))))))), ?_⟩
    walk_at "sw"
    intro k nk
    have hd0 : ∀ (acc : List V) (dd : Addr), d = some dd → ∃ fs, (upd H k (.lst acc)) dd = some (.xd fs) := fun acc dd z => by
      obtain ⟨fs, z⟩ := hdd dd z
      exact ⟨fs, upd_get nk z⟩
    have hup : ∀ acc acc' : List V, upd (upd H k (.lst acc)) k (.lst acc') = upd H k (.lst acc') := fun _ _ => upd_upd
    have hl1 : ∀ (acc : List V) (b : Bool) (v : V) (m : Nat), acc.length ≤ m → (acc ++ (if b = true then [v] else [])).length ≤ m + 1 := fun acc b v m h => by
      cases b <;> simp <;> omega
    have l0 : ([] : List V).length ≤ 0 := Nat.zero_le _
    refine i_seq (k_step rfl rfl upd_same (kit_at hE (nm' := "BadName") (C := T.c_BadName) (by simp [IsErr, errs1, errs2])) (hd0 _) (Nat.le_trans l0 (by decide)) ?_)
    rw [hup]
    have l1 := hl1 _ (decide (T.c_BadName = D)) (.str "BadName") _ l0
    refine i_seq (k_step rfl rfl upd_same (kit_at hE (nm' := "BadNumber") (C := T.c_BadNumber) (by simp [IsErr, errs1, errs2])) (hd0 _) (Nat.le_trans l1 (by decide)) ?_)
    rw [hup]
    have l2 := hl1 _ (decide (T.c_BadNumber = D)) (.str "BadNumber") _ l1
    refine i_seq (k_step rfl rfl upd_same (kit_at hE (nm' := "BadWay") (C := T.c_BadWay) (by simp [IsErr, errs1, errs2])) (hd0 _) (Nat.le_trans l2 (by decide)) ?_)
    rw [hup]
    have l3 := hl1 _ (decide (T.c_BadWay = D)) (.str "BadWay") _ l2
    refine i_seq (k_step rfl rfl upd_same (kit_at hE (nm' := "BadEnds") (C := T.c_BadEnds) (by simp [IsErr, errs1, errs2])) (hd0 _) (Nat.le_trans l3 (by decide)) ?_)
    rw [hup]
    have l4 := hl1 _ (decide (T.c_BadEnds = D)) (.str "BadEnds") _ l3
    refine i_seq (k_step rfl rfl upd_same (kit_at hE (nm' := "BadLine") (C := T.c_BadLine) (by simp [IsErr, errs1, errs2])) (hd0 _) (Nat.le_trans l4 (by decide)) ?_)
    rw [hup]
    have l5 := hl1 _ (decide (T.c_BadLine = D)) (.str "BadLine") _ l4
    refine i_seq (k_step rfl rfl upd_same (kit_at hE (nm' := "Taken") (C := T.c_Taken) (by simp [IsErr, errs1, errs2])) (hd0 _) (Nat.le_trans l5 (by decide)) ?_)
    rw [hup]
    have l6 := hl1 _ (decide (T.c_Taken = D)) (.str "Taken") _ l5
    refine i_seq (k_step rfl rfl upd_same (kit_at hE (nm' := "NoName") (C := T.c_NoName) (by simp [IsErr, errs1, errs2])) (hd0 _) (Nat.le_trans l6 (by decide)) ?_)
    rw [hup]
    have l7 := hl1 _ (decide (T.c_NoName = D)) (.str "NoName") _ l6
    refine i_seq (k_step rfl rfl upd_same (kit_at hE (nm' := "InUse") (C := T.c_InUse) (by simp [IsErr, errs1, errs2])) (hd0 _) (Nat.le_trans l7 (by decide)) ?_)
    rw [hup]
    have l8 := hl1 _ (decide (T.c_InUse = D)) (.str "InUse") _ l7
    refine i_seq (k_step rfl rfl upd_same (kit_at hE (nm' := "Full") (C := T.c_Full) (by simp [IsErr, errs1, errs2])) (hd0 _) (Nat.le_trans l8 (by decide)) ?_)
    rw [hup]
    walk_at "sw"
    have := q k nk
    simp only [errs1, tag_cons, tag_nil, List.append_nil, List.nil_append, List.append_assoc] at this
    simp only [List.nil_append, List.append_assoc]
    exact this
theorem ok_law_kinds_two (T : Tx K mg) : FnW P w K mg base 1 T.f_law_kinds_two T.fd_law_kinds_two ["_law_e"] (spKinds T (errs2 T)) := by
  refine fun_okW T.F_law_kinds_two sc_law_kinds_two (fun a cls d vs H Q E h => ?_) (fun cdv A outer s H vs Q E p cls d hr hz hf h => ?_)
  · obtain ⟨nm, D, rfl, _⟩ := h
    rfl
  · obtain ⟨nm, D, rfl, rfl, hE, hdd, q⟩ := h
    have eD := hE.ok.1
    refine ⟨_, (pss_cons (ps_set (i := 1) sc_law_kinds_two.nd rfl (Or.inl rfl) (pe_lst pa_nil))
      (pss_cons (ps_if (pt_val (pe_callB (call_isW (K := K) rfl (List.mem_singleton.mpr rfl) eD T.k_get T.k_tak hz hf) (by rfl) T.z_isinstance bt_isinstance (pa_cons (pv 0) (pa_cons (pe_glob (v := .ref T.c_Tight) (by rfl) T.g_Tight rfl) pa_nil))))
      (pss_one (ps_expr (pe_bm PySem.F.plainAttrs_list PySem.F.slot_list_append PySem.F.type_list_append mt_append (pv 1) (pa_cons pe_str pa_nil))))
      pss_nil)
      (pss_cons (ps_if (pt_val (pe_callB (call_isW (K := K) rfl (List.mem_singleton.mpr rfl) eD T.k_get T.k_tak hz hf) (by rfl) T.z_isinstance bt_isinstance (pa_cons (pv 0) (pa_cons (pe_glob (v := .ref T.c_Late) (by rfl) T.g_Late rfl) pa_nil))))
      (pss_one (ps_expr (pe_bm PySem.F.plainAttrs_list PySem.F.slot_list_append PySem.F.type_list_append mt_append (pv 1) (pa_cons pe_str pa_nil))))
      pss_nil)
      (pss_cons (ps_if (pt_val (pe_callB (call_isW (K := K) rfl (List.mem_singleton.mpr rfl) eD T.k_get T.k_tak hz hf) (by rfl) T.z_isinstance bt_isinstance (pa_cons (pv 0) (pa_cons (pe_glob (v := .ref T.c_Heavy) (by rfl) T.g_Heavy rfl) pa_nil))))
      (pss_one (ps_expr (pe_bm PySem.F.plainAttrs_list PySem.F.slot_list_append PySem.F.type_list_append mt_append (pv 1) (pa_cons pe_str pa_nil))))
      pss_nil)
      (pss_cons (ps_if (pt_val (pe_callB (call_isW (K := K) rfl (List.mem_singleton.mpr rfl) eD T.k_get T.k_tak hz hf) (by rfl) T.z_isinstance bt_isinstance (pa_cons (pv 0) (pa_cons (pe_glob (v := .ref T.c_NoPlan) (by rfl) T.g_NoPlan rfl) pa_nil))))
      (pss_one (ps_expr (pe_bm PySem.F.plainAttrs_list PySem.F.slot_list_append PySem.F.type_list_append mt_append (pv 1) (pa_cons pe_str pa_nil))))
      pss_nil)
      (pss_cons (ps_if (pt_val (pe_callB (call_isW (K := K) rfl (List.mem_singleton.mpr rfl) eD T.k_get T.k_tak hz hf) (by rfl) T.z_isinstance bt_isinstance (pa_cons (pv 0) (pa_cons (pe_glob (v := .ref T.c_NoRoom) (by rfl) T.g_NoRoom rfl) pa_nil))))
      (pss_one (ps_expr (pe_bm PySem.F.plainAttrs_list PySem.F.slot_list_append PySem.F.type_list_append mt_append (pv 1) (pa_cons pe_str pa_nil))))
      pss_nil)
      (pss_cons (ps_if (pt_val (pe_callB (call_isW (K := K) rfl (List.mem_singleton.mpr rfl) eD T.k_get T.k_tak hz hf) (by rfl) T.z_isinstance bt_isinstance (pa_cons (pv 0) (pa_cons (pe_glob (v := .ref T.c_NoStep) (by rfl) T.g_NoStep rfl) pa_nil))))
      (pss_one (ps_expr (pe_bm PySem.F.plainAttrs_list PySem.F.slot_list_append PySem.F.type_list_append mt_append (pv 1) (pa_cons pe_str pa_nil))))
      pss_nil)
      (pss_cons (ps_if (pt_val (pe_callB (call_isW (K := K) rfl (List.mem_singleton.mpr rfl) eD T.k_get T.k_tak hz hf) (by rfl) T.z_isinstance bt_isinstance (pa_cons (pv 0) (pa_cons (pe_glob (v := .ref T.c_TooFew) (by rfl) T.g_TooFew rfl) pa_nil))))
      (pss_one (ps_expr (pe_bm PySem.F.plainAttrs_list PySem.F.slot_list_append PySem.F.type_list_append mt_append (pv 1) (pa_cons pe_str pa_nil))))
      pss_nil)
      (pss_cons (ps_if (pt_val (pe_callB (call_isW (K := K) rfl (List.mem_singleton.mpr rfl) eD T.k_get T.k_tak hz hf) (by rfl) T.z_isinstance bt_isinstance (pa_cons (pv 0) (pa_cons (pe_glob (v := .ref T.c_BadPage) (by rfl) T.g_BadPage rfl) pa_nil))))
      (pss_one (ps_expr (pe_bm PySem.F.plainAttrs_list PySem.F.slot_list_append PySem.F.type_list_append mt_append (pv 1) (pa_cons pe_str pa_nil))))
      pss_nil)
      (pss_one (ps_ret (pv 1)))))))))))), ?_⟩
    walk_at "sw"
    intro k nk
    have hd0 : ∀ (acc : List V) (dd : Addr), d = some dd → ∃ fs, (upd H k (.lst acc)) dd = some (.xd fs) := fun acc dd z => by
      obtain ⟨fs, z⟩ := hdd dd z
      exact ⟨fs, upd_get nk z⟩
    have hup : ∀ acc acc' : List V, upd (upd H k (.lst acc)) k (.lst acc') = upd H k (.lst acc') := fun _ _ => upd_upd
    have hl1 : ∀ (acc : List V) (b : Bool) (v : V) (m : Nat), acc.length ≤ m → (acc ++ (if b = true then [v] else [])).length ≤ m + 1 := fun acc b v m h => by
      cases b <;> simp <;> omega
    have l0 : ([] : List V).length ≤ 0 := Nat.zero_le _
    refine i_seq (k_step rfl rfl upd_same (kit_at hE (nm' := "Tight") (C := T.c_Tight) (by simp [IsErr, errs1, errs2])) (hd0 _) (Nat.le_trans l0 (by decide)) ?_)
    rw [hup]
    have l1 := hl1 _ (decide (T.c_Tight = D)) (.str "Tight") _ l0
    refine i_seq (k_step rfl rfl upd_same (kit_at hE (nm' := "Late") (C := T.c_Late) (by simp [IsErr, errs1, errs2])) (hd0 _) (Nat.le_trans l1 (by decide)) ?_)
    rw [hup]
    have l2 := hl1 _ (decide (T.c_Late = D)) (.str "Late") _ l1
    refine i_seq (k_step rfl rfl upd_same (kit_at hE (nm' := "Heavy") (C := T.c_Heavy) (by simp [IsErr, errs1, errs2])) (hd0 _) (Nat.le_trans l2 (by decide)) ?_)
    rw [hup]
    have l3 := hl1 _ (decide (T.c_Heavy = D)) (.str "Heavy") _ l2
    refine i_seq (k_step rfl rfl upd_same (kit_at hE (nm' := "NoPlan") (C := T.c_NoPlan) (by simp [IsErr, errs1, errs2])) (hd0 _) (Nat.le_trans l3 (by decide)) ?_)
    rw [hup]
    have l4 := hl1 _ (decide (T.c_NoPlan = D)) (.str "NoPlan") _ l3
    refine i_seq (k_step rfl rfl upd_same (kit_at hE (nm' := "NoRoom") (C := T.c_NoRoom) (by simp [IsErr, errs1, errs2])) (hd0 _) (Nat.le_trans l4 (by decide)) ?_)
    rw [hup]
    have l5 := hl1 _ (decide (T.c_NoRoom = D)) (.str "NoRoom") _ l4
    refine i_seq (k_step rfl rfl upd_same (kit_at hE (nm' := "NoStep") (C := T.c_NoStep) (by simp [IsErr, errs1, errs2])) (hd0 _) (Nat.le_trans l5 (by decide)) ?_)
    rw [hup]
    have l6 := hl1 _ (decide (T.c_NoStep = D)) (.str "NoStep") _ l5
    refine i_seq (k_step rfl rfl upd_same (kit_at hE (nm' := "TooFew") (C := T.c_TooFew) (by simp [IsErr, errs1, errs2])) (hd0 _) (Nat.le_trans l6 (by decide)) ?_)
    rw [hup]
    have l7 := hl1 _ (decide (T.c_TooFew = D)) (.str "TooFew") _ l6
    refine i_seq (k_step rfl rfl upd_same (kit_at hE (nm' := "BadPage") (C := T.c_BadPage) (by simp [IsErr, errs1, errs2])) (hd0 _) (Nat.le_trans l7 (by decide)) ?_)
    rw [hup]
    walk_at "sw"
    have := q k nk
    simp only [errs2, tag_cons, tag_nil, List.append_nil, List.nil_append, List.append_assoc] at this
    simp only [List.nil_append, List.append_assoc]
    exact this
def spKind (T : Tx K mg) : SpW := fun a cls d vs H Q _ => ∃ (nm : Str) (D : Addr), vs = [.ref a] ∧ cls = .ref D ∧ IsErr T nm D ∧ (∀ dd, d = some dd → ∃ fs, H dd = some (.xd fs)) ∧ ∀ H', Same H H' → Q (.str nm) H'
theorem ok_law_kind (T : Tx K mg) : FnW P w K mg base 2 T.f_law_kind T.fd_law_kind ["_law_e"] (spKind T) := by
  refine fun_okW T.F_law_kind sc_law_kind (fun a cls d vs H Q E h => ?_) (fun cdv A outer s H vs Q E p cls d hr hz hf h => ?_)
  · obtain ⟨nm, D, rfl, _⟩ := h
    rfl
  · obtain ⟨nm, D, rfl, rfl, hE, hdd, q⟩ := h
    have eD := hE.ok.1
    refine ⟨_, (pss_cons (ps_set (i := 1) sc_law_kind.nd rfl (Or.inl rfl) (pe_op op_cat (pe_callW (ok_law_kinds_one T) (L2H.RoomH.mono hr (by decide)) (List.mem_singleton.mpr rfl) hz hf (by rfl) T.g_law_kinds_one T.F_law_kinds_one.kp T.b_law_kinds_one (pa_cons (pv 0) pa_nil)) (pe_callW (ok_law_kinds_two T) (L2H.RoomH.mono hr (by decide)) (List.mem_singleton.mpr rfl) hz hf (by rfl) T.g_law_kinds_two T.F_law_kinds_two.kp T.b_law_kinds_two (pa_cons (pv 0) pa_nil))))
      (pss_cons (ps_if ((pw_and (pt_cmpR op_eq (pe_callB (call_lenK (K := K) rfl) (by rfl) T.z_len bt_len (pa_cons (pv 1) pa_nil)) pe_int (nomark _)) (pw_and1 (pt_val (pe_callB (call_isW (K := K) rfl (List.mem_singleton.mpr rfl) eD T.k_get T.k_tak hz hf) (by rfl) T.z_isinstance bt_isinstance (pa_cons (pv 0) (pa_cons (pe_bltn (v := .ty "ValueError") (by rfl) T.z_ValueError bt_ValueError rfl) pa_nil))))))).pt
      (pss_one (ps_ret (pe_ix (ix_listK (K := K) rfl) (pv 1) pe_int (fun _ _ => rfl))))
      pss_nil)
      (pss_one (ps_ret pe_str)))), ?_⟩
    walk_at "sw"
    refine ⟨nm, D, rfl, rfl, hE, hdd, fun p1 np1 => ?_⟩
    have hd1 : ∀ dd, d = some dd → ∃ fs, (upd H p1 (.lst (tag D (errs1 T)))) dd = some (.xd fs) := fun dd z => by
      obtain ⟨fs, z⟩ := hdd dd z
      exact ⟨fs, upd_get np1 z⟩
    walk_at "sw"
    refine ⟨nm, D, rfl, rfl, hE, hd1, fun p2 np2 => ?_⟩
    have nd := (List.nodup_cons.mp T.k_nd).2
    have one : tag D (errs1 T) ++ tag D (errs2 T) = [.str nm] := by
      rw [← tag_app]
      exact tag_one nd hE
    have l1 : (tag D (errs1 T)).length ≤ 20 := Nat.le_trans (by unfold tag; rw [List.length_map]; exact List.length_filter_le _ _) (by show 9 ≤ 20; decide)
    have l2 : (tag D (errs2 T)).length ≤ 20 := Nat.le_trans (by unfold tag; rw [List.length_map]; exact List.length_filter_le _ _) (by show 8 ≤ 20; decide)
    refine ⟨p1, p2, _, _, rfl, rfl, upd_get np2 upd_same, upd_same, Nat.le_trans (Nat.add_le_add l1 l2) (by decide), fun p3 np3 => ?_⟩
    rw [one]
    have hs : Same H (upd (upd (upd H p1 (.lst (tag D (errs1 T)))) p2 (.lst (tag D (errs2 T)))) p3 (.lst [.str nm])) := ((same_new np1).trans (same_new np2)).trans (same_new np3)
    walk_at "sw"
    refine i_ite (fun _ => ?_) (fun h => absurd rfl h)
    walk_at "sw"
    refine ⟨.ty "ValueError", .type "ValueError", true, rfl, .ty _, eD.kitVE, fun dd z => ?_, ?_⟩
    · obtain ⟨fs, z⟩ := hdd dd z
      exact ⟨fs, hs _ _ z⟩
    · walk_at "sw"
      exact q _ hs

/-! ### the program's middle -/
def spMiddle (C : Addr) : Sp := fun vs H Q E => ∃ (a : Addr) (ns : List Int), vs = [.ref a] ∧ H a = some (.lst (ns.map V.int)) ∧ ns.length < 60 ∧ (ns.length < 3 → E (.ref C) none H) ∧
  (3 ≤ ns.length → ∀ (s : List Int) (x y : Int) (H' : Hp), s.Perm ns → s.Pairwise (· ≤ ·) → s[1]? = some x → s[ns.length - 2]? = some y → Same H H' → Q (.int ((x + y) / 2)) H')
theorem ok_middle (T : Tx K mg) : FnOk P w K mg base (L2.CX P w) 1 T.f_middle T.fd_middle ["numbers"] (spMiddle T.c_TooFew) := by
  refine T.F_middle.okX sc_middle (fun vs H Q E h => ?_) (fun cdv A outer s0 H vs Q E hr h => ?_)
  · obtain ⟨a, ns, rfl, _⟩ := h
    rfl
  · obtain ⟨a, ns, rfl, ha, h60, qe, q⟩ := h
    refine ⟨_, (pss_cons (ps_if (pt_cmpR op_lt (pe_callB (call_lenK (K := K) rfl) (by rfl) T.z_len bt_len (pa_cons (pv 0) pa_nil)) pe_int (nomark _))
      (pss_one (ps_raise rfl (takes_of rfl rfl rfl rfl) (pmk_own0 PySem.F.excBase_ValueError T.x_TooFew T.g_TooFew T.e_TooFew.kp T.e_TooFew.raises (by rfl))))
      pss_nil)
      (pss_cons (ps_set (i := 1) sc_middle.nd rfl (Or.inl rfl) (pe_slice (sl_listK (K := K) rfl) (pe_callB (cr_sortedK (K := K) rfl) (by rfl) T.z_sorted bt_sorted (pa_cons (pv 0) pa_nil)) (po_some pe_int) (po_some (pe_un un_neg pe_int))))
      (pss_one (ps_ret (pe_op op_fdiv (pe_op op_add (pe_ix (ix_listK (K := K) rfl) (pv 1) pe_int (fun _ _ => rfl)) (pe_ix (ix_listK (K := K) rfl) (pv 1) (pe_un un_neg pe_int) (fun _ _ => rfl))) pe_int))))), ?_⟩
    walk_at "sw"
    rw [List.length_map]
    refine i_ite (fun h => ?_) (fun h => ?_)
    · walk_at "sw"
      exact qe (by omega)
    · walk_at "sw"
      refine ⟨a, ns, rfl, SqL.of ha, by omega, fun s p hp hs np => ?_⟩
      have h3 : 3 ≤ ns.length := by omega
      have ls : s.length = ns.length := hp.length_eq
      walk_at "sw"
      intro r nr
      have hl : (s.map V.int).length = ns.length := by rw [List.length_map, ls]
      rw [cut_mid _ (by omega)]
      have e1 : s[1]? = some s[1] := List.getElem?_eq_getElem (by omega)
      have e2 : s[ns.length - 2]? = some s[ns.length - 2] := List.getElem?_eq_getElem (by omega)
      have lr : (((s.map V.int).drop 1).take ((s.map V.int).length - 2)).length = ns.length - 2 := by
        rw [List.length_take, List.length_drop, hl]
        omega
      have g1 : atI (((s.map V.int).drop 1).take ((s.map V.int).length - 2)) 0 = some (.int s[1]) := at_of (j := 0) rfl (by
        rw [List.getElem?_take_of_lt (by omega), List.getElem?_drop, List.getElem?_map, Nat.add_zero, e1]
        rfl)
      have g2 : atI (((s.map V.int).drop 1).take ((s.map V.int).length - 2)) (-1) = some (.int s[ns.length - 2]) := at_last (by
        rw [lr, List.getElem?_take_of_lt (by omega), List.getElem?_drop, List.getElem?_map, show 1 + (ns.length - 2 - 1) = ns.length - 2 by omega, e2]
        rfl) (by omega)
      walk_at "sw"
      refine i_ixL upd_same g1 ?_
      walk_at "sw"
      refine i_ixL upd_same g2 ?_
      walk_at "sw"
      exact q h3 s _ _ _ hp hs e1 e2 ((same_new np).trans (same_new nr))

theorem first_at {k : Int} : ∀ {ns : List Int}, k ∈ ns → ∃ j : Nat, ns[j]? = some k ∧ (∀ m : Nat, m < j → ns[m]? ≠ some k) ∧ ns.eraseIdx j = ns.erase k
  | [], h => by cases h
  | x :: r, h => by
    by_cases e : x = k
    · subst e
      exact ⟨0, rfl, fun m hm => absurd hm (Nat.not_lt_zero _), by simp⟩
    · obtain ⟨j, h1, h2, h3⟩ := first_at ((List.mem_cons.mp h).resolve_left fun z => e z.symm)
      refine ⟨j + 1, h1, fun m hm => ?_, ?_⟩
      · cases m with
        | zero => exact fun z => e (Option.some.inj z)
        | succ m => exact h2 m (by omega)
      · rw [List.erase_cons_tail (by simpa using e), ← h3]
        rfl
theorem i_rem {p : Addr} {ns : List Int} {k : Int} {H : Hp} {Q : VK} (h : H p = some (.lst (ns.map V.int))) (hk : k ∈ ns) (q : Q .non (upd H p (.lst ((ns.erase k).map V.int)))) : rRemI (.ref p) [.int k] H Q := by
  obtain ⟨j, h1, h2, h3⟩ := first_at hk
  exact ⟨p, ns, k, j, rfl, rfl, h, h1, h2, by rw [h3]; exact q⟩
theorem mid_law {ns s : List Int} {x y M m lo hi : Int} (hp : s.Perm ns) (hs : s.Pairwise (· ≤ ·)) (h3 : 3 ≤ ns.length) (e1 : s[1]? = some x) (e2 : s[ns.length - 2]? = some y) (hM : M ∈ ns) (hMx : ∀ z ∈ ns, z ≤ M) (hm : m ∈ ns.erase M) (hmn : ∀ z ∈ ns.erase M, m ≤ z)
    (hlo : lo ∈ (ns.erase M).erase m) (hlo' : ∀ z ∈ (ns.erase M).erase m, lo ≤ z) (hhi : hi ∈ (ns.erase M).erase m) (hhi' : ∀ z ∈ (ns.erase M).erase m, z ≤ hi) : lo = x ∧ hi = y := by
  have ls : s.length = ns.length := hp.length_eq
  match s, hp, hs, e1, e2, ls with
  | [], _, _, e1, _, _ => cases e1
  | [_], _, _, e1, _, _ => cases e1
  | a :: b :: r, hp, hs, e1, e2, ls =>
    obtain rfl : b = x := Option.some.inj e1
    have hr : r ≠ [] := by
      intro z
      subst z
      simp at ls
      omega
    obtain ⟨r', z, rfl⟩ : ∃ r' z, r = r' ++ [z] := ⟨r.dropLast, r.getLast hr, (List.dropLast_concat_getLast hr).symm⟩
    have hs' : (a :: (b :: r')).Pairwise (· ≤ ·) ∧ ∀ u ∈ a :: b :: r', u ≤ z := by
      have := hs
      rw [show a :: b :: (r' ++ [z]) = (a :: b :: r') ++ [z] from rfl, List.pairwise_append] at this
      exact ⟨this.1, fun u hu => this.2.2 u hu z (List.mem_singleton.mpr rfl)⟩
    have eM : M = z := by
      have h1 := hMx z (hp.mem_iff.mp (by simp))
      have h2 : M ∈ (a :: b :: r') ++ [z] := hp.mem_iff.mpr hM
      rcases List.mem_append.mp h2 with h | h
      · have := hs'.2 M h
        omega
      · exact List.mem_singleton.mp h
    have p1 : (ns.erase M).Perm (a :: b :: r') := by
      refine (hp.symm.erase M).trans ?_
      have : (a :: b :: (r' ++ [z])).Perm (z :: a :: b :: r') := by
        have := List.perm_append_comm (l₁ := a :: b :: r') (l₂ := [z])
        exact this
      refine (this.erase M).trans ?_
      rw [eM, List.erase_cons_head]
    have ea := (List.pairwise_cons.mp hs'.1).1
    have em : m = a := by
      have h1 := hmn a (p1.mem_iff.mpr (by simp))
      rcases List.mem_cons.mp (p1.mem_iff.mp hm) with h | h
      · exact h
      · have := ea m h
        omega
    have p2 : ((ns.erase M).erase m).Perm (b :: r') := by
      refine (p1.erase m).trans ?_
      rw [em, List.erase_cons_head]
    have hb := (List.pairwise_cons.mp (List.pairwise_cons.mp hs'.1).2)
    refine ⟨?_, ?_⟩
    · have h1 := hlo' b (p2.mem_iff.mpr (by simp))
      rcases List.mem_cons.mp (p2.mem_iff.mp hlo) with h | h
      · exact h
      · have := hb.1 lo h
        omega
    · have el : ns.length = r'.length + 3 := by simp at ls; omega
      rw [el, show r'.length + 3 - 2 = r'.length + 1 by omega] at e2
      have e3 : (b :: r')[r'.length]? = some y := by
        have : (a :: b :: (r' ++ [z]))[r'.length + 1]? = (b :: r' ++ [z])[r'.length]? := rfl
        rw [this, List.getElem?_append_left (by simp)] at e2
        exact e2
      have hy : y ∈ b :: r' := List.mem_of_getElem? e3
      have hmax : ∀ u ∈ b :: r', u ≤ y := by
        intro u hu
        obtain ⟨k, hk, rfl⟩ := List.getElem_of_mem hu
        obtain ⟨h5, rfl⟩ := List.getElem?_eq_some_iff.mp e3
        by_cases hke : k = r'.length
        · subst hke
          exact Int.le_refl _
        · exact List.pairwise_iff_getElem.mp (List.pairwise_cons.mp hs'.1).2 k r'.length hk h5 (by simp at hk; omega)
      have h1 := hhi' y (p2.mem_iff.mpr hy)
      have h2 := hmax hi (p2.mem_iff.mp hhi)
      omega
theorem ok_law (T : Tx K mg) : FnOk P w K mg base CX0 3 T.f_law T.fd_law ["_law_script"] (spLaw K) := by
  refine T.F_law.ok sc_law (fun vs H Q E h => ?_) (fun cdv A outer s0 H vs Q E hr h => ?_)
  · obtain ⟨a, ns, rfl, _⟩ := h
    rfl
  · obtain ⟨a, ns, rfl, hS, hlen, hbits, q⟩ := h
    refine ⟨_, (pss_cons (ps_set (i := 1) sc_law.nd rfl (Or.inr rfl) (pe_call (ok_law_start T) (hr.mono (by decide)) (by rfl) T.g_law_start T.F_law_start.kp T.b_law_start .nil pass0 (pa_cons (pv 0) pa_nil)))
      (pss_cons (ps_set (i := 2) sc_law.nd rfl (Or.inr rfl) (pe_ix (ix_listK (K := K) rfl) (pe_lst (pa_cons pe_int (pa_cons pe_int (pa_cons (pe_op op_pow pe_int pe_int) pa_nil)))) (pe_call (ok_law_draw T) (hr.mono (by decide)) (by rfl) T.g_law_draw T.F_law_draw.kp T.b_law_draw .nil pass0 (pa_cons (pv 1) (pa_cons pe_int pa_nil))) (fun _ _ => rfl)))
      (pss_cons (ps_setLc (i := 3) (own := [("_law_k", 12)]) (by rfl) sc_law.nd rfl rfl (sw_true rfl rfl rfl (by decide +kernel)) (pi_range1 (by rfl) T.z_range (pa_cons (pe_call (ok_law_draw T) (hr.mono (by decide)) (by rfl) T.g_law_draw T.F_law_draw.kp T.b_law_draw .nil pass0 (pa_cons (pv 1) (pa_cons pe_int pa_nil))) pa_nil)) (blkOk_by (own := [("_law_k", 12)]) (N := ["_law_script", "_law_s", "_law_top", "_law_numbers", "_law_handed", "_law_got", "_law_found", "_law_e", "_law_rest", "_law_low", "_law_high", "_law_one", "_law_k"]) (sc := defScope s_law) (by decide +kernel)) (fun _ _ _ _ _ => (pg_name (i := 12) sc_law.nd rfl (Or.inl rfl))) (fun _ _ _ _ _ => pts_nil) (fun _ _ _ _ _ => (pe_op op_sub (pe_call (ok_law_draw T) (hr.mono (by decide)) (by rfl) T.g_law_draw T.F_law_draw.kp T.b_law_draw .nil pass0 (pa_cons (pv 1) (pa_cons (pv 2) pa_nil))) (pe_op op_fdiv (pv 2) pe_int))))
      (pss_cons (ps_set (i := 4) sc_law.nd rfl (Or.inl rfl) (pe_callTy (call_listK (K := K) rfl) (by rfl) T.z_list bt_list (pa_cons (pv 3) pa_nil)))
      (pss_cons (ps_set (i := 5) sc_law.nd rfl (Or.inl rfl) pe_str)
      (pss_cons (ps_set (i := 6) sc_law.nd rfl (Or.inl rfl) pe_non)
      (pss_cut (ps_try_as (i := 7) rfl rfl sc_law.nd rfl rfl ⟨rfl, by decide, .inl T.g_NetError⟩ takes0 (fun W pn xe tk _ =>
      (pss_one (ps_set (i := 6) sc_law.nd rfl (Or.inl rfl) (pe_callS (ok_middle T) (hr.mono (by decide)) (by rfl) T.g_middle T.F_middle.kp T.b_middle (fun σ => passAt tk σ) (pa_cons (pv 4) pa_nil))))) (fun a oe cls d pn hz hf =>
      (pss_one (ps_set (i := 5) sc_law.nd rfl (Or.inl rfl) (pe_callA a oe cls d (ok_law_kind T) (roomW (hr.mono (by decide))) List.mem_cons_self hz hf (by rfl) T.g_law_kind T.F_law_kind.kp T.b_law_kind (pa_cons (pv 7) pa_nil))))))
      (pss_cons (ps_if (pt_cmpR (op_neDK (K := K) rfl hr.units) (pv 4) (pv 3) (nomark _))
      (pss_one (ps_ret pe_bl))
      pss_nil)
      (pss_cons (ps_if (pt_cmpR op_lt (pe_callB (call_lenK (K := K) rfl) (by rfl) T.z_len bt_len (pa_cons (pv 3) pa_nil)) pe_int (nomark _))
      (pss_one (ps_ret (pe_cmpR op_eq (pv 5) pe_str (nomark _))))
      pss_nil)
      (pss_cons (ps_set (i := 8) sc_law.nd rfl (Or.inl rfl) (pe_callTy (call_listK (K := K) rfl) (by rfl) T.z_list bt_list (pa_cons (pv 3) pa_nil)))
      (pss_cons (ps_expr (pe_bm PySem.F.plainAttrs_list PySem.F.slot_list_remove PySem.F.type_list_remove mt_remove (pv 8) (pa_cons (pe_callB (cr_maxK (K := K) rfl (by rfl)) (by rfl) T.z_max bt_max (pa_cons (pv 8) pa_nil)) pa_nil)))
      (pss_cons (ps_expr (pe_bm PySem.F.plainAttrs_list PySem.F.slot_list_remove PySem.F.type_list_remove mt_remove (pv 8) (pa_cons (pe_callB (cr_minK (K := K) rfl (by rfl)) (by rfl) T.z_min bt_min (pa_cons (pv 8) pa_nil)) pa_nil)))
      (pss_cons (ps_set (i := 9) sc_law.nd rfl (Or.inl rfl) (pe_ix (ix_listK (K := K) rfl) (pv 8) pe_int (fun _ _ => rfl)))
      (pss_cons (ps_set (i := 10) sc_law.nd rfl (Or.inl rfl) (pe_ix (ix_listK (K := K) rfl) (pv 8) pe_int (fun _ _ => rfl)))
      (pss_cons (ps_for PassesOwn.never rfl (pi_listK (K := K) rfl (pv 8)) (pg_name (i := 11) sc_law.nd rfl (Or.inl rfl))
      (pss_cut (ps_if (pt_cmpR op_lt (pv 11) (pv 9) (nomark _))
      (pss_one (ps_set (i := 9) sc_law.nd rfl (Or.inl rfl) (pv 11)))
      pss_nil)
      (pss_one (ps_if (pt_cmpR op_gt (pv 11) (pv 10) (nomark _))
      (pss_one (ps_set (i := 10) sc_law.nd rfl (Or.inl rfl) (pv 11)))
      pss_nil))))
      (pss_one (ps_ret (pe_and (pe_cmpR op_eq (pv 5) pe_str (nomark _)) (pe_and (pe_call (ok_law_whole T) (hr.mono (by decide)) (by rfl) T.g_law_whole T.F_law_whole.kp T.b_law_whole .nil pass0 (pa_cons (pv 6) pa_nil)) (pe_one (pe_chain op_le op_le pe_int (pe_op op_sub (pe_op op_add (pv 9) (pv 10)) (pe_op op_mul pe_int (pv 6))) pe_int))))))))))))))))))))), ?_⟩
    walk_at "sw"
    refine ⟨a, ns, H, rfl, hS, Same.refl H, fun s U H1 g D n0 => ?_⟩
    have hU := g.vh
    walk_at "sw"
    intro p np
    have nUp := hU.free np
    have sp : s ≠ p := fun z => by
      subst z
      exact D.some np
    walk_at "sw"
    refine ⟨s, 3, upd U p (.lst [.int 100, .int 6, .int (10 ^ 30)]), rfl, by decide, by decide, same_both hU, D.new np hU, fun c H2 c0 c1 hU2 D2 ho => ?_⟩
    obtain ⟨top, ht, t0, t1⟩ : ∃ top : Int, atI [V.int 100, V.int 6, V.int (10 ^ 30)] c = some (.int top) ∧ 6 ≤ top ∧ top ≤ 10 ^ 30 := by
      have : c = 0 ∨ c = 1 ∨ c = 2 := by omega
      rcases this with rfl | rfl | rfl
      · exact ⟨_, rfl, by decide, by decide⟩
      · exact ⟨_, rfl, by decide, by decide⟩
      · exact ⟨_, rfl, by decide, by decide⟩
    refine i_ixL (hU2 _ _ upd_same) ht ?_
    walk_at "sw"
    obtain ⟨U2, eU2⟩ : ∃ X, X = upd U p (.lst [.int 100, .int 6, .int (10 ^ 30)]) := ⟨_, rfl⟩
    rw [← eU2] at hU2 D2
    clear ho eU2
    refine ⟨s, 10, U2, rfl, by decide, by decide, hU2, D2, fun n H3 n0 n1 hU3 D3 ho3 => ?_⟩
    walk_at "sw"
    refine ⟨by omega, by omega, fun C nC => c_draws (fun y => -(10 ^ 31) ≤ y ∧ y ≤ 10 ^ 31) (by omega) hU3 D3 nC (fun v => rfl) ?_ ?_⟩
    · intro i H5 h5 d5 R hR
      walk_at "sw"
      refine ⟨s, top, U2, rfl, by omega, by omega, h5, d5, fun x H6 x0 x1 hU6 D6 ho => ?_⟩
      walk_at "sw"
      exact hR _ _ ⟨by omega, by omega⟩ hU6 D6 ho
    · intro row H5 hlen5 hrow hU5 D5 nUC hoff hC
      have hr60 : row.length < 10 := by omega
      walk_at "sw"
      intro L nL
      have nUL := hU5.free nL
      have hC6 : (upd H5 L (.lst (row.map V.int))) C = some (.lst (row.map V.int)) := upd_get nL hC
      have hL6 : (upd H5 L (.lst (row.map V.int))) L = some (.lst (row.map V.int)) := upd_same
      obtain ⟨H6, e6⟩ : ∃ X, X = upd H5 L (.lst (row.map V.int)) := ⟨_, rfl⟩
      rw [← e6] at hC6 hL6 ⊢
      walk_at "sw"
      refine i_cut (fun σ H' => ∃ found got, σ = [some (.ref a), some (.ref s), some (.int top), some (.ref C), some (.ref L), some (.str got), some found, none, none, none, none, none, none] ∧ Same H6 H' ∧
        ((row.length < 3 ∧ got = "TooFew") ∨ (3 ≤ row.length ∧ got = "none" ∧ ∃ (t : List Int) (x y : Int), found = .int ((x + y) / 2) ∧ t.Perm row ∧ t.Pairwise (· ≤ ·) ∧ t[1]? = some x ∧ t[row.length - 2]? = some y))) ?_ ?_
      · walk_at "sw"
        refine ⟨L, row, rfl, hL6, by omega, fun h => ?_, fun h t x y H' e1 e2 e3 e4 e5 => ?_⟩
        · refine ⟨true, ErrC.exm T.e_TooFew T.k_base T.k_dict T.k_type, fun _ z nz => ?_, fun q => nomatch q⟩
          walk_at "sw"
          exact ⟨"TooFew", T.c_TooFew, rfl, rfl, by simp [IsErr, errs1, errs2], ⟨fun dd z => (by cases z), fun H' hH' => ⟨_, _, rfl, hH', .inl ⟨h, rfl⟩⟩⟩⟩
        · walk_at "sw"
          exact ⟨_, _, rfl, e5, .inr ⟨h, rfl, t, x, y, rfl, e1, e2, e3, e4⟩⟩
      · rintro σ H7 ⟨found, got, rfl, h7, hz⟩
        have hC7 := h7 _ _ hC6
        have hL7 := h7 _ _ hL6
        walk_at "sw"
        refine i_neT (dp_ints (H := H7) hL7) (dp_ints hC7) (lay_ints _) ?_
        walk_at "sw"
        rw [List.length_map]
        refine i_ite (fun h => ?_) (fun h => ?_)
        · rcases hz with ⟨_, rfl⟩ | ⟨z, _⟩
          · walk_at "sw"
            exact q _
          · omega
        · have h3 : 3 ≤ row.length := by omega
          rcases hz with ⟨z, _⟩ | ⟨_, rfl, t, x, y, rfl, t1, t2, t3, t4⟩
          · omega
          walk_at "sw"
          intro R nR
          walk_at "sw"
          refine ⟨R, row, rfl, SqL.of upd_same, by omega, fun M hM hMx => ?_⟩
          have lM : (row.erase M).length = row.length - 1 := List.length_erase_of_mem hM
          walk_at "sw"
          refine i_rem upd_same hM ?_
          rw [upd_upd]
          walk_at "sw"
          refine ⟨R, row.erase M, rfl, SqL.of upd_same, by omega, fun m hm hmn => ?_⟩
          have lm : ((row.erase M).erase m).length = (row.erase M).length - 1 := List.length_erase_of_mem hm
          walk_at "sw"
          refine i_rem upd_same hm ?_
          rw [upd_upd]
          obtain ⟨rest, erest⟩ : ∃ rest, rest = (row.erase M).erase m := ⟨_, rfl⟩
          have law := fun lo hi => mid_law (lo := lo) (hi := hi) t1 t2 h3 t3 t4 hM hMx hm hmn
          rw [← erest] at lm law ⊢
          have hR8 : (upd H7 R (.lst (rest.map V.int))) R = some (.lst (rest.map V.int)) := upd_same
          obtain ⟨H8, e8⟩ : ∃ X, X = upd H7 R (.lst (rest.map V.int)) := ⟨_, rfl⟩
          rw [← e8] at hR8 ⊢
          obtain ⟨r0, rr, er⟩ : ∃ r0 rr, rest = r0 :: rr := by
            cases rest with
            | nil => simp at lm; omega
            | cons r0 rr => exact ⟨r0, rr, rfl⟩
          have a0 : atI (rest.map V.int) 0 = some (.int r0) := at_of (j := 0) rfl (by rw [er]; rfl)
          have m0 : r0 ∈ rest := by rw [er]; exact List.mem_cons_self
          walk_at "sw"
          refine i_ixL hR8 a0 ?_
          walk_at "sw"
          refine i_ixL hR8 a0 ?_
          walk_at "sw"
          refine ⟨R, rfl, ⟨_, SqL.of hR8⟩, l_lst (xs := rest.map V.int) (fun i σ H' => ∃ (lo hi : Int) (v : Option V), σ = [some (.ref a), some (.ref s), some (.int top), some (.ref C), some (.ref L), some (.str "none"), some (.int ((x + y) / 2)), none, some (.ref R), some (.int lo), some (.int hi), v, none] ∧ H' = H8 ∧
            lo ∈ rest ∧ hi ∈ rest ∧ ∀ z ∈ rest.take i, lo ≤ z ∧ z ≤ hi) ⟨_, _, _, rfl, rfl, m0, m0, fun z hz => nomatch hz⟩ ?_ ?_ ?_⟩
          · rintro i σ H' hi ⟨lo, hi, v, rfl, rfl, _⟩
            exact SqL.of hR8
          · rintro i x' σ H' hx ⟨lo, hi, v, rfl, rfl, k1, k2, k3⟩
            rw [List.getElem?_map] at hx
            obtain ⟨u, hu, rfl⟩ : ∃ u, rest[i]? = some u ∧ x' = .int u := by
              cases e : rest[i]? with
              | none => rw [e] at hx; cases hx
              | some u => rw [e] at hx; exact ⟨u, rfl, (Option.some.inj hx).symm⟩
            have mu := List.mem_of_getElem? hu
            have step : ∀ lo' hi' : Int, lo' ≤ lo → lo' ≤ u → hi ≤ hi' → u ≤ hi' → ∀ z ∈ rest.take (i + 1), lo' ≤ z ∧ z ≤ hi' := fun lo' hi' b1 b2 b3 b4 z hz => by
              rw [List.take_add_one, hu] at hz
              rcases List.mem_append.mp hz with h | h
              · have := k3 z h
                omega
              · have : z = u := by simpa using h
                omega
            walk_at "sw"
            refine i_cut (fun σ Hx => ∃ lo' : Int, σ = [some (.ref a), some (.ref s), some (.int top), some (.ref C), some (.ref L), some (.str "none"), some (.int ((x + y) / 2)), none, some (.ref R), some (.int lo'), some (.int hi), some (.int u), none] ∧ Hx = H' ∧ lo' ∈ rest ∧ lo' ≤ lo ∧ lo' ≤ u) ?_ ?_
            · walk_at "sw"
              refine i_ite (fun h => ?_) (fun h => ?_)
              · walk_at "sw"
                exact ⟨_, rfl, rfl, mu, by omega, by omega⟩
              · walk_at "sw"
                exact ⟨_, rfl, rfl, k1, by omega, by omega⟩
            · rintro σ Hx ⟨lo', rfl, rfl, c1, c2, c3⟩
              walk_at "sw"
              refine i_ite (fun h => ?_) (fun h => ?_)
              · walk_at "sw"
                exact ⟨_, _, _, rfl, rfl, c1, mu, step _ _ c2 c3 (by omega) (by omega)⟩
              · walk_at "sw"
                exact ⟨_, _, _, rfl, rfl, c1, k2, step _ _ c2 c3 (by omega) (by omega)⟩
          · rintro σ H' ⟨lo, hi, v, rfl, rfl, k1, k2, k3⟩
            rw [List.length_map, List.take_length] at k3
            obtain ⟨rfl, rfl⟩ := law lo hi k1 (fun z hz => (k3 z hz).1) k2 (fun z hz => (k3 z hz).2)
            walk_at "sw"
            rw [decide_eq_true rfl]
            walk_at "sw"
            refine ⟨_, rfl, ⟨_, rfl⟩, ?_⟩
            walk_at "sw"
            refine i_ite (fun _ => ?_) (fun h => absurd (by omega) h)
            walk_at "sw"
            rw [decide_eq_true (by omega)]
            exact q _

end
theorem all_mk {l : PySem.W.OpenLaw} {w : World} {K : PySem.W.Frag} {h : Heap} {mg : Str → Option Value} {fa : Addr} (X : K.In h) (G : h.Ns mainGlobals mg) (hfa : mg "law" = some (.ref fa))
    {f0 : Addr} {od0 an0 : Option Addr} {sl0 : Array (Option Value)} {oc0 kV0 dc0 pm0 cd0 ct0 : Value}
    {f1 : Addr} {od1 an1 : Option Addr} {sl1 : Array (Option Value)} {oc1 kV1 dc1 pm1 cd1 ct1 : Value}
    {f2 : Addr} {od2 an2 : Option Addr} {sl2 : Array (Option Value)} {oc2 kV2 dc2 pm2 cd2 ct2 : Value}
    {f3 : Addr} {od3 an3 : Option Addr} {sl3 : Array (Option Value)} {oc3 kV3 dc3 pm3 cd3 ct3 : Value}
    {f4 : Addr} {od4 an4 : Option Addr} {sl4 : Array (Option Value)} {oc4 kV4 dc4 pm4 cd4 ct4 : Value}
    {f5 : Addr} {od5 an5 : Option Addr} {sl5 : Array (Option Value)} {oc5 kV5 dc5 pm5 cd5 ct5 : Value}
    {f6 : Addr} {od6 an6 : Option Addr} {sl6 : Array (Option Value)} {oc6 kV6 dc6 pm6 cd6 ct6 : Value}
    {f7 : Addr} {od7 an7 : Option Addr} {sl7 : Array (Option Value)} {oc7 kV7 dc7 pm7 cd7 ct7 : Value}
    {ec_NetError : Addr} {ec_BadName : Addr} {ec_BadNumber : Addr} {ec_BadWay : Addr} {ec_BadEnds : Addr} {ec_BadLine : Addr} {ec_Taken : Addr} {ec_NoName : Addr} {ec_InUse : Addr} {ec_Full : Addr} {ec_Tight : Addr} {ec_Late : Addr} {ec_Heavy : Addr} {ec_NoPlan : Addr} {ec_NoRoom : Addr} {ec_NoStep : Addr} {ec_TooFew : Addr} {ec_BadPage : Addr}
    (a0 : PySem.W.nsIn K mainGlobals "middle" = some (some (.ref f0))) (l0 : K.lookup f0 = some ⟨oc0, od0, .func (PySem.W.fnOf "middle" "middle" (defArgs s_middle) (defBody s_middle) (defScope s_middle) .none kV0 dc0 pm0 an0 cd0 ct0), sl0⟩) (c0 : PySem.W.codeIn K cd0 "middle" = true) (k0 : PySem.W.keepIn K (.ref f0) = true)
    (a1 : PySem.W.nsIn K mainGlobals "_law_start" = some (some (.ref f1))) (l1 : K.lookup f1 = some ⟨oc1, od1, .func (PySem.W.fnOf "_law_start" "_law_start" (defArgs s_law_start) (defBody s_law_start) (defScope s_law_start) .none kV1 dc1 pm1 an1 cd1 ct1), sl1⟩) (c1 : PySem.W.codeIn K cd1 "_law_start" = true) (k1 : PySem.W.keepIn K (.ref f1) = true)
    (a2 : PySem.W.nsIn K mainGlobals "_law_draw" = some (some (.ref f2))) (l2 : K.lookup f2 = some ⟨oc2, od2, .func (PySem.W.fnOf "_law_draw" "_law_draw" (defArgs s_law_draw) (defBody s_law_draw) (defScope s_law_draw) .none kV2 dc2 pm2 an2 cd2 ct2), sl2⟩) (c2 : PySem.W.codeIn K cd2 "_law_draw" = true) (k2 : PySem.W.keepIn K (.ref f2) = true)
    (a3 : PySem.W.nsIn K mainGlobals "_law_whole" = some (some (.ref f3))) (l3 : K.lookup f3 = some ⟨oc3, od3, .func (PySem.W.fnOf "_law_whole" "_law_whole" (defArgs s_law_whole) (defBody s_law_whole) (defScope s_law_whole) .none kV3 dc3 pm3 an3 cd3 ct3), sl3⟩) (c3 : PySem.W.codeIn K cd3 "_law_whole" = true) (k3 : PySem.W.keepIn K (.ref f3) = true)
    (a4 : PySem.W.nsIn K mainGlobals "_law_kinds_one" = some (some (.ref f4))) (l4 : K.lookup f4 = some ⟨oc4, od4, .func (PySem.W.fnOf "_law_kinds_one" "_law_kinds_one" (defArgs s_law_kinds_one) (defBody s_law_kinds_one) (defScope s_law_kinds_one) .none kV4 dc4 pm4 an4 cd4 ct4), sl4⟩) (c4 : PySem.W.codeIn K cd4 "_law_kinds_one" = true) (k4 : PySem.W.keepIn K (.ref f4) = true)
    (a5 : PySem.W.nsIn K mainGlobals "_law_kinds_two" = some (some (.ref f5))) (l5 : K.lookup f5 = some ⟨oc5, od5, .func (PySem.W.fnOf "_law_kinds_two" "_law_kinds_two" (defArgs s_law_kinds_two) (defBody s_law_kinds_two) (defScope s_law_kinds_two) .none kV5 dc5 pm5 an5 cd5 ct5), sl5⟩) (c5 : PySem.W.codeIn K cd5 "_law_kinds_two" = true) (k5 : PySem.W.keepIn K (.ref f5) = true)
    (a6 : PySem.W.nsIn K mainGlobals "_law_kind" = some (some (.ref f6))) (l6 : K.lookup f6 = some ⟨oc6, od6, .func (PySem.W.fnOf "_law_kind" "_law_kind" (defArgs s_law_kind) (defBody s_law_kind) (defScope s_law_kind) .none kV6 dc6 pm6 an6 cd6 ct6), sl6⟩) (c6 : PySem.W.codeIn K cd6 "_law_kind" = true) (k6 : PySem.W.keepIn K (.ref f6) = true)
    (a7 : PySem.W.nsIn K mainGlobals "law" = some (some (.ref f7))) (l7 : K.lookup f7 = some ⟨oc7, od7, .func (PySem.W.fnOf "law" "law" (defArgs s_law) (defBody s_law) (defScope s_law) .none kV7 dc7 pm7 an7 cd7 ct7), sl7⟩) (c7 : PySem.W.codeIn K cd7 "law" = true) (k7 : PySem.W.keepIn K (.ref f7) = true)
    (z_ValueError : PySem.W.nsIn K mainGlobals "ValueError" = some none)
    (z_abs : PySem.W.nsIn K mainGlobals "abs" = some none)
    (z_bool : PySem.W.nsIn K mainGlobals "bool" = some none)
    (z_int : PySem.W.nsIn K mainGlobals "int" = some none)
    (z_isinstance : PySem.W.nsIn K mainGlobals "isinstance" = some none)
    (z_len : PySem.W.nsIn K mainGlobals "len" = some none)
    (z_list : PySem.W.nsIn K mainGlobals "list" = some none)
    (z_max : PySem.W.nsIn K mainGlobals "max" = some none)
    (z_min : PySem.W.nsIn K mainGlobals "min" = some none)
    (z_range : PySem.W.nsIn K mainGlobals "range" = some none)
    (z_sorted : PySem.W.nsIn K mainGlobals "sorted" = some none)
    (ea_NetError : PySem.W.nsIn K mainGlobals "NetError" = some (some (.ref ec_NetError))) (eb_base : PySem.W.subIn K (.ref ec_NetError) (.type "BaseException") = some true) (eb_dict : PySem.W.hasDictIn K ec_NetError = true) (eb_type : PySem.W.typeIn K (.ref ec_NetError) = some (.type "type")) (eb_get : PySem.W.specialIn K (.builtin "object.__class__") "__get__" = some (some (.builtin "getset_descriptor.__get__"))) (eb_tak : PySem.W.takesIn K (.builtin "object.__class__") = some true)
    (ea_BadName : PySem.W.nsIn K mainGlobals "BadName" = some (some (.ref ec_BadName))) (ee_BadName : errB K ec_BadName ec_NetError = true)
    (ex_BadName : PySem.W.excIn K ec_BadName [.type "ValueError", .type "Exception", .type "BaseException", .type "object"] "ValueError.__new__" = true)
    (ea_BadNumber : PySem.W.nsIn K mainGlobals "BadNumber" = some (some (.ref ec_BadNumber))) (ee_BadNumber : errB K ec_BadNumber ec_NetError = true)
    (ex_BadNumber : PySem.W.excIn K ec_BadNumber [.type "ValueError", .type "Exception", .type "BaseException", .type "object"] "ValueError.__new__" = true)
    (ea_BadWay : PySem.W.nsIn K mainGlobals "BadWay" = some (some (.ref ec_BadWay))) (ee_BadWay : errB K ec_BadWay ec_NetError = true)
    (ex_BadWay : PySem.W.excIn K ec_BadWay [.type "ValueError", .type "Exception", .type "BaseException", .type "object"] "ValueError.__new__" = true)
    (ea_BadEnds : PySem.W.nsIn K mainGlobals "BadEnds" = some (some (.ref ec_BadEnds))) (ee_BadEnds : errB K ec_BadEnds ec_NetError = true)
    (ex_BadEnds : PySem.W.excIn K ec_BadEnds [.type "ValueError", .type "Exception", .type "BaseException", .type "object"] "ValueError.__new__" = true)
    (ea_BadLine : PySem.W.nsIn K mainGlobals "BadLine" = some (some (.ref ec_BadLine))) (ee_BadLine : errB K ec_BadLine ec_NetError = true)
    (ex_BadLine : PySem.W.excIn K ec_BadLine [.type "ValueError", .type "Exception", .type "BaseException", .type "object"] "ValueError.__new__" = true)
    (ea_Taken : PySem.W.nsIn K mainGlobals "Taken" = some (some (.ref ec_Taken))) (ee_Taken : errB K ec_Taken ec_NetError = true)
    (ea_NoName : PySem.W.nsIn K mainGlobals "NoName" = some (some (.ref ec_NoName))) (ee_NoName : errB K ec_NoName ec_NetError = true)
    (ea_InUse : PySem.W.nsIn K mainGlobals "InUse" = some (some (.ref ec_InUse))) (ee_InUse : errB K ec_InUse ec_NetError = true)
    (ea_Full : PySem.W.nsIn K mainGlobals "Full" = some (some (.ref ec_Full))) (ee_Full : errB K ec_Full ec_NetError = true)
    (ex_Full : PySem.W.excIn K ec_Full [.type "ValueError", .type "Exception", .type "BaseException", .type "object"] "ValueError.__new__" = true)
    (ea_Tight : PySem.W.nsIn K mainGlobals "Tight" = some (some (.ref ec_Tight))) (ee_Tight : errB K ec_Tight ec_NetError = true)
    (ea_Late : PySem.W.nsIn K mainGlobals "Late" = some (some (.ref ec_Late))) (ee_Late : errB K ec_Late ec_NetError = true)
    (ea_Heavy : PySem.W.nsIn K mainGlobals "Heavy" = some (some (.ref ec_Heavy))) (ee_Heavy : errB K ec_Heavy ec_NetError = true)
    (ea_NoPlan : PySem.W.nsIn K mainGlobals "NoPlan" = some (some (.ref ec_NoPlan))) (ee_NoPlan : errB K ec_NoPlan ec_NetError = true)
    (ea_NoRoom : PySem.W.nsIn K mainGlobals "NoRoom" = some (some (.ref ec_NoRoom))) (ee_NoRoom : errB K ec_NoRoom ec_NetError = true)
    (ex_NoRoom : PySem.W.excIn K ec_NoRoom [.type "ValueError", .type "Exception", .type "BaseException", .type "object"] "ValueError.__new__" = true)
    (ea_NoStep : PySem.W.nsIn K mainGlobals "NoStep" = some (some (.ref ec_NoStep))) (ee_NoStep : errB K ec_NoStep ec_NetError = true)
    (ex_NoStep : PySem.W.excIn K ec_NoStep [.type "ValueError", .type "Exception", .type "BaseException", .type "object"] "ValueError.__new__" = true)
    (ea_TooFew : PySem.W.nsIn K mainGlobals "TooFew" = some (some (.ref ec_TooFew))) (ee_TooFew : errB K ec_TooFew ec_NetError = true)
    (ex_TooFew : PySem.W.excIn K ec_TooFew [.type "ValueError", .type "Exception", .type "BaseException", .type "object"] "ValueError.__new__" = true)
    (ea_BadPage : PySem.W.nsIn K mainGlobals "BadPage" = some (some (.ref ec_BadPage))) (ee_BadPage : errB K ec_BadPage ec_NetError = true)
    (ex_BadPage : PySem.W.excIn K ec_BadPage [.type "ValueError", .type "Exception", .type "BaseException", .type "object"] "ValueError.__new__" = true)
    (e_nd : [ec_NetError, ec_BadName, ec_BadNumber, ec_BadWay, ec_BadEnds, ec_BadLine, ec_Taken, ec_NoName, ec_InUse, ec_Full, ec_Tight, ec_Late, ec_Heavy, ec_NoPlan, ec_NoRoom, ec_NoStep, ec_TooFew, ec_BadPage].Nodup) :
    ∃ fd : FuncData, (∀ (s : Shared) (v : Value), BindsTo s fd ⟨[v], []⟩ [("_law_script", v)]) ∧ ∀ base : Heap, K.In base → base.Ns mainGlobals mg → FnOk l.prog w K mg base CX0 3 fa fd ["_law_script"] (spLaw K) := by
  have e := hfa.symm.trans (PySem.W.mg_of X G a7)
  cases e
  have F0 := fun_mk (st := s_middle) l0 c0 k0
  have b0 := F0.binds (ps := ["numbers"]) fun _ _ _ _ _ _ us hl => match us, hl with | [_], _ => rfl
  have F1 := fun_mk (st := s_law_start) l1 c1 k1
  have b1 := F1.binds (ps := ["_law_script"]) fun _ _ _ _ _ _ us hl => match us, hl with | [_], _ => rfl
  have F2 := fun_mk (st := s_law_draw) l2 c2 k2
  have b2 := F2.binds (ps := ["_law_s", "_law_many"]) fun _ _ _ _ _ _ us hl => match us, hl with | [_, _], _ => rfl
  have F3 := fun_mk (st := s_law_whole) l3 c3 k3
  have b3 := F3.binds (ps := ["_law_x"]) fun _ _ _ _ _ _ us hl => match us, hl with | [_], _ => rfl
  have F4 := fun_mk (st := s_law_kinds_one) l4 c4 k4
  have b4 := F4.binds (ps := ["_law_e"]) fun _ _ _ _ _ _ us hl => match us, hl with | [_], _ => rfl
  have F5 := fun_mk (st := s_law_kinds_two) l5 c5 k5
  have b5 := F5.binds (ps := ["_law_e"]) fun _ _ _ _ _ _ us hl => match us, hl with | [_], _ => rfl
  have F6 := fun_mk (st := s_law_kind) l6 c6 k6
  have b6 := F6.binds (ps := ["_law_e"]) fun _ _ _ _ _ _ us hl => match us, hl with | [_], _ => rfl
  have F7 := fun_mk (st := s_law) l7 c7 k7
  have b7 := F7.binds (ps := ["_law_script"]) fun _ _ _ _ _ _ us hl => match us, hl with | [_], _ => rfl
  refine ⟨PySem.W.fnOf "law" "law" (defArgs s_law) (defBody s_law) (defScope s_law) .none kV7 dc7 pm7 an7 cd7 ct7, fun s v => .of_eq rfl, fun base _ _ => ?_⟩
  exact ok_law (T := ({ f_middle := f0, fd_middle := _, F_middle := F0, b_middle := b0, g_middle := PySem.W.mg_of X G a0, f_law_start := f1, fd_law_start := _, F_law_start := F1, b_law_start := b1, g_law_start := PySem.W.mg_of X G a1, f_law_draw := f2, fd_law_draw := _, F_law_draw := F2, b_law_draw := b2, g_law_draw := PySem.W.mg_of X G a2, f_law_whole := f3, fd_law_whole := _, F_law_whole := F3, b_law_whole := b3, g_law_whole := PySem.W.mg_of X G a3, f_law_kinds_one := f4, fd_law_kinds_one := _, F_law_kinds_one := F4, b_law_kinds_one := b4, g_law_kinds_one := PySem.W.mg_of X G a4, f_law_kinds_two := f5, fd_law_kinds_two := _, F_law_kinds_two := F5, b_law_kinds_two := b5, g_law_kinds_two := PySem.W.mg_of X G a5, f_law_kind := f6, fd_law_kind := _, F_law_kind := F6, b_law_kind := b6, g_law_kind := PySem.W.mg_of X G a6, f_law := fa, fd_law := _, F_law := F7, b_law := b7, g_law := PySem.W.mg_of X G a7, z_ValueError := PySem.W.mg_none_of X G z_ValueError, z_abs := PySem.W.mg_none_of X G z_abs, z_bool := PySem.W.mg_none_of X G z_bool, z_int := PySem.W.mg_none_of X G z_int, z_isinstance := PySem.W.mg_none_of X G z_isinstance, z_len := PySem.W.mg_none_of X G z_len, z_list := PySem.W.mg_none_of X G z_list, z_max := PySem.W.mg_none_of X G z_max, z_min := PySem.W.mg_none_of X G z_min, z_range := PySem.W.mg_none_of X G z_range, z_sorted := PySem.W.mg_none_of X G z_sorted, c_NetError := ec_NetError, g_NetError := PySem.W.mg_of X G ea_NetError, k_base := eb_base, k_dict := eb_dict, k_type := eb_type, k_get := eb_get, k_tak := eb_tak, c_BadName := ec_BadName, g_BadName := PySem.W.mg_of X G ea_BadName, e_BadName := errC_of ee_BadName, x_BadName := ex_BadName, c_BadNumber := ec_BadNumber, g_BadNumber := PySem.W.mg_of X G ea_BadNumber, e_BadNumber := errC_of ee_BadNumber, x_BadNumber := ex_BadNumber, c_BadWay := ec_BadWay, g_BadWay := PySem.W.mg_of X G ea_BadWay, e_BadWay := errC_of ee_BadWay, x_BadWay := ex_BadWay, c_BadEnds := ec_BadEnds, g_BadEnds := PySem.W.mg_of X G ea_BadEnds, e_BadEnds := errC_of ee_BadEnds, x_BadEnds := ex_BadEnds, c_BadLine := ec_BadLine, g_BadLine := PySem.W.mg_of X G ea_BadLine, e_BadLine := errC_of ee_BadLine, x_BadLine := ex_BadLine, c_Taken := ec_Taken, g_Taken := PySem.W.mg_of X G ea_Taken, e_Taken := errC_of ee_Taken, c_NoName := ec_NoName, g_NoName := PySem.W.mg_of X G ea_NoName, e_NoName := errC_of ee_NoName, c_InUse := ec_InUse, g_InUse := PySem.W.mg_of X G ea_InUse, e_InUse := errC_of ee_InUse, c_Full := ec_Full, g_Full := PySem.W.mg_of X G ea_Full, e_Full := errC_of ee_Full, x_Full := ex_Full, c_Tight := ec_Tight, g_Tight := PySem.W.mg_of X G ea_Tight, e_Tight := errC_of ee_Tight, c_Late := ec_Late, g_Late := PySem.W.mg_of X G ea_Late, e_Late := errC_of ee_Late, c_Heavy := ec_Heavy, g_Heavy := PySem.W.mg_of X G ea_Heavy, e_Heavy := errC_of ee_Heavy, c_NoPlan := ec_NoPlan, g_NoPlan := PySem.W.mg_of X G ea_NoPlan, e_NoPlan := errC_of ee_NoPlan, c_NoRoom := ec_NoRoom, g_NoRoom := PySem.W.mg_of X G ea_NoRoom, e_NoRoom := errC_of ee_NoRoom, x_NoRoom := ex_NoRoom, c_NoStep := ec_NoStep, g_NoStep := PySem.W.mg_of X G ea_NoStep, e_NoStep := errC_of ee_NoStep, x_NoStep := ex_NoStep, c_TooFew := ec_TooFew, g_TooFew := PySem.W.mg_of X G ea_TooFew, e_TooFew := errC_of ee_TooFew, x_TooFew := ex_TooFew, c_BadPage := ec_BadPage, g_BadPage := PySem.W.mg_of X G ea_BadPage, e_BadPage := errC_of ee_BadPage, x_BadPage := ex_BadPage, k_nd := e_nd } : Tx K mg))

end SW
open PySem PySem.W PyProof.Rows
set_option maxRecDepth 100000 in
set_option maxHeartbeats 0 in
theorem PySem.Challenge.cw_slotwright_k37_middle_of_words_holds : PySem.Challenge.rw_slotwright_k37_middle_of_words.Holds := by
  w_on; o_law; k_head; (case hw => w_witness2)
  k_fill
  refine L2.walk_ofB (l := PySem.Challenge.rw_slotwright_k37_middle_of_words) (n := 63) (k := 3) (x := "_law_script") (CX := fun _ => L2.CX0) (sp := fun w => SW.spLaw _) rfl (by decide) rfl ⟨rfl, by decide, by decide⟩ (fun w h Y => PySem.W.kIn_of Y) ?F (fun _ _ a ns hl hb _ hS => ⟨a, ns, rfl, hS, hl, hb, fun _ => rfl⟩) (fun _ _ _ _ _ h => h)
  case F =>
    intro w mg fa h KX G hmg
    refine' SW.all_mk KX G hmg ?a0 ?l0 ?c0 ?k0 ?a1 ?l1 ?c1 ?k1 ?a2 ?l2 ?c2 ?k2 ?a3 ?l3 ?c3 ?k3 ?a4 ?l4 ?c4 ?k4 ?a5 ?l5 ?c5 ?k5 ?a6 ?l6 ?c6 ?k6 ?a7 ?l7 ?c7 ?k7 ?z_ValueError ?z_abs ?z_bool ?z_int ?z_isinstance ?z_len ?z_list ?z_max ?z_min ?z_range ?z_sorted ?ea_NetError ?eb_base ?eb_dict ?eb_type ?eb_get ?eb_tak ?ea_BadName ?ee_BadName ?ex_BadName ?ea_BadNumber ?ee_BadNumber ?ex_BadNumber ?ea_BadWay ?ee_BadWay ?ex_BadWay ?ea_BadEnds ?ee_BadEnds ?ex_BadEnds ?ea_BadLine ?ee_BadLine ?ex_BadLine ?ea_Taken ?ee_Taken ?ea_NoName ?ee_NoName ?ea_InUse ?ee_InUse ?ea_Full ?ee_Full ?ex_Full ?ea_Tight ?ee_Tight ?ea_Late ?ee_Late ?ea_Heavy ?ee_Heavy ?ea_NoPlan ?ee_NoPlan ?ea_NoRoom ?ee_NoRoom ?ex_NoRoom ?ea_NoStep ?ee_NoStep ?ex_NoStep ?ea_TooFew ?ee_TooFew ?ex_TooFew ?ea_BadPage ?ee_BadPage ?ex_BadPage ?e_nd
    (case a0 => k_is)
    (case l0 => k_is)
    (case c0 => k_is)
    (case k0 => k_is)
    (case a1 => k_is)
    (case l1 => k_is)
    (case c1 => k_is)
    (case k1 => k_is)
    (case a2 => k_is)
    (case l2 => k_is)
    (case c2 => k_is)
    (case k2 => k_is)
    (case a3 => k_is)
    (case l3 => k_is)
    (case c3 => k_is)
    (case k3 => k_is)
    (case a4 => k_is)
    (case l4 => k_is)
    (case c4 => k_is)
    (case k4 => k_is)
    (case a5 => k_is)
    (case l5 => k_is)
    (case c5 => k_is)
    (case k5 => k_is)
    (case a6 => k_is)
    (case l6 => k_is)
    (case c6 => k_is)
    (case k6 => k_is)
    (case a7 => k_is)
    (case l7 => k_is)
    (case c7 => k_is)
    (case k7 => k_is)
    (case z_ValueError => k_is)
    (case z_abs => k_is)
    (case z_bool => k_is)
    (case z_int => k_is)
    (case z_isinstance => k_is)
    (case z_len => k_is)
    (case z_list => k_is)
    (case z_max => k_is)
    (case z_min => k_is)
    (case z_range => k_is)
    (case z_sorted => k_is)
    (case ea_NetError => k_is)
    (case eb_base => k_is)
    (case eb_dict => k_is)
    (case eb_type => k_is)
    (case eb_get => k_is)
    (case eb_tak => k_is)
    (case ea_BadName => k_is)
    (case ee_BadName => kernel_rfl)
    (case ex_BadName => kernel_rfl)
    (case ea_BadNumber => k_is)
    (case ee_BadNumber => kernel_rfl)
    (case ex_BadNumber => kernel_rfl)
    (case ea_BadWay => k_is)
    (case ee_BadWay => kernel_rfl)
    (case ex_BadWay => kernel_rfl)
    (case ea_BadEnds => k_is)
    (case ee_BadEnds => kernel_rfl)
    (case ex_BadEnds => kernel_rfl)
    (case ea_BadLine => k_is)
    (case ee_BadLine => kernel_rfl)
    (case ex_BadLine => kernel_rfl)
    (case ea_Taken => k_is)
    (case ee_Taken => kernel_rfl)
    (case ea_NoName => k_is)
    (case ee_NoName => kernel_rfl)
    (case ea_InUse => k_is)
    (case ee_InUse => kernel_rfl)
    (case ea_Full => k_is)
    (case ee_Full => kernel_rfl)
    (case ex_Full => kernel_rfl)
    (case ea_Tight => k_is)
    (case ee_Tight => kernel_rfl)
    (case ea_Late => k_is)
    (case ee_Late => kernel_rfl)
    (case ea_Heavy => k_is)
    (case ee_Heavy => kernel_rfl)
    (case ea_NoPlan => k_is)
    (case ee_NoPlan => kernel_rfl)
    (case ea_NoRoom => k_is)
    (case ee_NoRoom => kernel_rfl)
    (case ex_NoRoom => kernel_rfl)
    (case ea_NoStep => k_is)
    (case ee_NoStep => kernel_rfl)
    (case ex_NoStep => kernel_rfl)
    (case ea_TooFew => k_is)
    (case ee_TooFew => kernel_rfl)
    (case ex_TooFew => kernel_rfl)
    (case ea_BadPage => k_is)
    (case ee_BadPage => kernel_rfl)
    (case ex_BadPage => kernel_rfl)
    (case e_nd => decide +kernel)
#print axioms PySem.Challenge.cw_slotwright_k37_middle_of_words_holds

