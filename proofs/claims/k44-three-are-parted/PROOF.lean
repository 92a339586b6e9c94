import PyProof.Rows.All
import Wide.All
import OpenK.AllK
import Wide.FinOn
import HandS.ForMost
import HandS.Wide
import HandS.IsInst
import HandS.EndBits
import HandS.Flow
import HandS.Defaults
import HandS.MakeKwOnly
import PySem.Challenge.RW_slotwright_k44_three_are_parted
set_option Elab.async false
set_option linter.all false
set_option maxRecDepth 100000
set_option maxHeartbeats 4000000

namespace SW
open PySem L2
/-! ### heaps by a view: U is what never changes, H is all -/
theorem same_new {U : Hp} {p : Addr} {o : HO} (h : U p = none) : Same U (upd U p o) := fun b x e => by
  rw [upd_ne (ne_of_none e h)]
  exact e
theorem same_mut {U H : Hp} {p : Addr} {o : HO} (e : Same U H) (h : U p = none) : Same U (upd H p o) := fun a u ha => by
  rw [upd_ne (ne_of_none ha h)]
  exact e a u ha
theorem same_back {U H : Hp} {p : Addr} (e : Same U H) (h : H p = none) : U p = none := e.free h
theorem upd_get {H : Hp} {p a : Addr} {o x : HO} (n : H p = none) (h : H a = some x) : upd H p o a = some x := by
  rw [upd_ne (ne_of_none h n)]
  exact h
structure Gr (M : List Addr) (U H U' H' : Hp) : Prop where
  vv : Same U U'
  vh : Same U' H'
  hh : ∀ a o, a ∉ M → H a = some o → H' a = some o
  dom : ∀ a, H a ≠ none → H' a ≠ none
  fr : ∀ a, U a = none → H a ≠ none → U' a = none
theorem Gr.refl {M : List Addr} {U H : Hp} (e : Same U H) : Gr M U H U H := ⟨Same.refl _, e, fun _ _ _ h => h, fun _ h => h, fun _ h _ => h⟩
theorem Gr.trans {M : List Addr} {U0 H0 U1 H1 U2 H2 : Hp} (a : Gr M U0 H0 U1 H1) (b : Gr M U1 H1 U2 H2) : Gr M U0 H0 U2 H2 :=
  ⟨a.vv.trans b.vv, b.vh, fun x o m h => b.hh x o m (a.hh x o m h), fun x h => b.dom x (a.dom x h), fun x h k => b.fr x (a.fr x h k) (a.dom x k)⟩
theorem Gr.weak {M N : List Addr} {U0 H0 U1 H1 : Hp} (a : Gr M U0 H0 U1 H1) (s : ∀ x, x ∈ M → x ∈ N) : Gr N U0 H0 U1 H1 :=
  ⟨a.vv, a.vh, fun x o m h => a.hh x o (fun z => m (s x z)) h, a.dom, a.fr⟩
theorem Gr.any {N : List Addr} {U0 H0 U1 H1 : Hp} (a : Gr [] U0 H0 U1 H1) : Gr N U0 H0 U1 H1 := a.weak fun _ h => nomatch h
/-- a new object that never changes -/
theorem Gr.new {M : List Addr} {U0 H0 U H : Hp} {p : Addr} {o : HO} (g : Gr M U0 H0 U H) (n : H p = none) : Gr M U0 H0 (upd U p o) (upd H p o) := by
  have nu : U p = none := g.vh.free n
  have n0 : H0 p = none := by
    cases e : H0 p with
    | none => rfl
    | some x => exact absurd n (g.dom p (by rw [e]; intro z; cases z))
  refine ⟨g.vv.trans (same_new nu), fun a x h => ?_, fun a x m h => ?_, fun a h => ?_, fun a h k => ?_⟩
  · by_cases e : a = p
    · subst e
      rw [upd_same] at h ⊢
      exact h
    · rw [upd_ne e] at h ⊢
      exact g.vh a x h
  · rw [upd_ne (ne_of_none h n0)]
    exact g.hh a x m h
  · by_cases e : a = p
    · subst e
      rw [upd_same]
      intro z
      cases z
    · rw [upd_ne e]
      exact g.dom a h
  · have e : a ≠ p := fun z => by
      subst z
      exact k n0
    rw [upd_ne e]
    exact g.fr a h k
/-- a new object that will change -/
theorem Gr.newM {M : List Addr} {U0 H0 U H : Hp} {p : Addr} {o : HO} (g : Gr M U0 H0 U H) (n : H p = none) : Gr M U0 H0 U (upd H p o) := by
  have nu : U p = none := g.vh.free n
  refine ⟨g.vv, same_mut g.vh nu, fun a x m h => ?_, fun a h => ?_, g.fr⟩
  · rw [upd_ne (ne_of_none (g.hh a x m h) n)]
    exact g.hh a x m h
  · by_cases e : a = p
    · subst e
      rw [upd_same]
      intro z
      cases z
    · rw [upd_ne e]
      exact g.dom a h
/-- an object outside of the view changes: one of M, or one that is newer than H0 -/
theorem Gr.mut {M : List Addr} {U0 H0 U H : Hp} {p : Addr} {o : HO} (g : Gr M U0 H0 U H) (nu : U p = none) (n0 : p ∈ M ∨ H0 p = none) : Gr M U0 H0 U (upd H p o) := by
  refine ⟨g.vv, same_mut g.vh nu, fun a x m h => ?_, fun a h => ?_, g.fr⟩
  · have e : a ≠ p := fun z => by
      subst z
      rcases n0 with n0 | n0
      · exact m n0
      · rw [n0] at h
        cases h
    rw [upd_ne e]
    exact g.hh a x m h
  · by_cases e : a = p
    · subst e
      rw [upd_same]
      intro z
      cases z
    · rw [upd_ne e]
      exact g.dom a h
/-- what will change no more comes into the view -/
theorem Gr.seal {M : List Addr} {U0 H0 U H : Hp} {p : Addr} {o : HO} (g : Gr M U0 H0 U H) (h : H p = some o) (nu : U p = none) (n0 : H0 p = none) : Gr M U0 H0 (upd U p o) H := by
  refine ⟨g.vv.trans (same_new nu), fun a x e => ?_, g.hh, g.dom, fun a e k => ?_⟩
  · by_cases z : a = p
    · subst z
      rw [upd_same] at e
      rw [h]
      exact e
    · rw [upd_ne z] at e
      exact g.vh a x e
  · have z : a ≠ p := fun z => by
      subst z
      exact k n0
    rw [upd_ne z]
    exact g.fr a e k
theorem Gr.fresh {M : List Addr} {U0 H0 U H : Hp} {p : Addr} (g : Gr M U0 H0 U H) (n : H p = none) : H0 p = none := by
  cases e : H0 p with
  | none => rfl
  | some x => exact absurd n (g.dom p (by rw [e]; intro z; cases z))
/-! ### the rules with the written part named (so that they serve inside comprehensions too) -/
section
variable {X : Cx} {K : PySem.W.Frag}
theorem ix_listK (h : X.K = K) : IxR X (rIxL K) := by subst h; exact ix_list
theorem ix_tupK (h : X.K = K) : IxR X (rIxT K) := by subst h; exact ix_tup
theorem sl_listK (h : X.K = K) : SlR X (rSlL K) := by subst h; exact sl_list
theorem sl_tupK (h : X.K = K) : SlR X (rSlT K) := by subst h; exact sl_tup
theorem op_inK (h : X.K = K) : OpR X (compareOp .In) (rIn K false) := by subst h; exact op_in_seq
theorem op_notInK (h : X.K = K) : OpR X (compareOp .NotIn) (rIn K true) := by subst h; exact op_notIn_seq
theorem op_eqDK (h : X.K = K) (hu : X.A.units + 64 < cLine) : OpR X (compareOp .Eq) (rEqD K) := by subst h; exact op_eqD hu
theorem op_neDK (h : X.K = K) (hu : X.A.units + 64 < cLine) : OpR X (compareOp .NotEq) (rNeD K) := by subst h; exact op_neD hu
theorem op_catTK (h : X.K = K) : OpR X (binaryOp .Add) (rCatT K) := by subst h; exact op_catT
def rLenK (K : PySem.W.Frag) : List V → Hp → VK → Prop := fun xs H Q => ∃ p ys, xs = [.ref p] ∧ (SqL K H p ys ∨ SqT K H p ys) ∧ Q (.int ys.length) H
def rListK (K : PySem.W.Frag) : List V → Hp → VK → Prop := fun xs H Q => ∃ p ys, xs = [.ref p] ∧ (SqL K H p ys ∨ SqT K H p ys) ∧ ∀ l, H l = none → Q (.ref l) (upd H l (.lst ys))
def rTupleK (K : PySem.W.Frag) : List V → Hp → VK → Prop := fun xs H Q => ∃ p ys, xs = [.ref p] ∧ ((SqL K H p ys ∧ ∀ l, H l = none → Q (.ref l) (upd H l (.tup ys))) ∨ (SqT K H p ys ∧ Q (.ref p) H))
theorem call_lenK (h : X.K = K) : CallR X (.builtin "len") (rLenK K) := by subst h; exact call_len_seq
theorem call_listK (h : X.K = K) : CallR X (.type "list") (rListK K) := by subst h; exact call_list_of
theorem call_tupleK (h : X.K = K) : CallR X (.type "tuple") (rTupleK K) := by subst h; exact call_tuple_of
theorem cr_sumK (h : X.K = K) (hc : X.calm = true) : CallR X (.builtin "sum") (rSum K) := by subst h; exact cr_sum hc
theorem cr_maxK (h : X.K = K) (hc : X.calm = true) : CallR X (.builtin "max") (rMax K) := by subst h; exact cr_max hc
theorem cr_minK (h : X.K = K) (hc : X.calm = true) : CallR X (.builtin "min") (rMin K) := by subst h; exact cr_min hc
theorem cr_allK (h : X.K = K) (hc : X.calm = true) : CallR X (.builtin "all") (rAll K) := by subst h; exact cr_all hc
theorem cr_anyK (h : X.K = K) (hc : X.calm = true) : CallR X (.builtin "any") (rAny K) := by subst h; exact cr_any hc
theorem cr_sortedK (h : X.K = K) : CallR X (.builtin "sorted") (rSorted K) := by subst h; exact cr_sorted
theorem call_isiKK (h : X.K = K) : CallR X (.builtin "isinstance") (rIsi K) := by subst h; exact call_isi
theorem pi_listK {tg e : Expr} {te : TE} (h : X.K = K) (he : PE X e te) : PI X tg e (iList K te) := by subst h; exact pi_list he
theorem pi_tupK {tg e : Expr} {te : TE} (h : X.K = K) (he : PE X e te) : PI X tg e (iTup K te) := by subst h; exact pi_tup he
theorem pg_tupK {pos : Pos} {es : List Expr} {k : Nat} {t : TGs} {n : Nat} (h : X.K = K) (hc : X.calm = true) (hh : PGs X es t) (hn : (assignEach es X.env).length = n := by rfl) (hst : (assignEach es X.env).findIdx? (·.1) = none := by rfl) : PG X (.Tuple es k pos) (gTup K n t) := by subst h; exact pg_tup hc hh hn hst
theorem pe_fldK {pos : Pos} {e : Expr} {ta : TE} {f : Str} (h : X.K = K) (he : PE X e ta) (hb : attributeBase e f X.env (eval e X.env) = eval e X.env) : PE X (.Attribute e f pos) (tFld K ta f) := by subst h; exact pe_fld he hb
end
/-! ### the readings, step by step -/
section
variable {σ : L2.St} {H : Hp} {Q : VK} {te ta tb tc : TE} {i : Nat} {v x y : V} {K : PySem.W.Frag} {n bk ct : L2.St → Hp → Prop} {rt : VK} {t u : TS} {g : TG}
theorem i_var (h : σ[i]? = some (some v)) (q : Q v H) : tVar i σ H Q := ⟨v, h, q⟩
theorem i_c (q : Q v H) : tC v σ H Q := q
theorem i_op {r : R2} (q : ta σ H (fun x H1 => tb σ H1 fun y H2 => r x y H2 Q)) : tOp r ta tb σ H Q := q
theorem i_un {r : V → Hp → VK → Prop} (q : ta σ H (fun x H1 => r x H1 Q)) : tUn r ta σ H Q := q
theorem i_rI0 {f : Int → Int → V} {a b : Int} (q : Q (f a b) H) : rI0 f (.int a) (.int b) H Q := ⟨a, b, rfl, rfl, q⟩
theorem i_rI {C : Int → Int → Prop} {f : Int → Int → V} {a b : Int} (c : C a b) (q : Q (f a b) H) : rI C f (.int a) (.int b) H Q := ⟨a, b, rfl, rfl, c, q⟩
theorem i_mulR {f : Int → Int → V} {a b : Int} (h0 : -(2 ^ 64) < b) (h1 : b < 2 ^ 64) (q : Q (f a b) H) : rI CMul f (.int a) (.int b) H Q := ⟨a, b, rfl, rfl, .inr ⟨h0, h1⟩, q⟩
theorem i_mulL {f : Int → Int → V} {a b : Int} (h0 : -(2 ^ 64) < a) (h1 : a < 2 ^ 64) (q : Q (f a b) H) : rI CMul f (.int a) (.int b) H Q := ⟨a, b, rfl, rfl, .inl ⟨h0, h1⟩, q⟩
theorem i_rU {f : Int → V} {a : Int} (q : Q (f a) H) : rU f (.int a) H Q := ⟨a, rfl, q⟩
theorem i_eqI {a b : Int} (q : Q (.bl (decide (a = b))) H) : rEq (.int a) (.int b) H Q := ⟨rfl, by
  have e : decide (V.int a = V.int b) = decide (a = b) := by
    by_cases h : a = b
    · rw [decide_eq_true h, decide_eq_true (congrArg V.int h)]
    · rw [decide_eq_false h, decide_eq_false (fun z => h (V.int.inj z))]
  show Q (.bl (decide (V.int a = V.int b))) H
  rw [e]
  exact q⟩
theorem i_neI {a b : Int} (q : Q (.bl (!decide (a = b))) H) : rNe (.int a) (.int b) H Q := ⟨rfl, by
  have e : decide (V.int a = V.int b) = decide (a = b) := by
    by_cases h : a = b
    · rw [decide_eq_true h, decide_eq_true (congrArg V.int h)]
    · rw [decide_eq_false h, decide_eq_false (fun z => h (V.int.inj z))]
  show Q (.bl (!decide (V.int a = V.int b))) H
  rw [e]
  exact q⟩
theorem i_eqS {a b : Str} (q : Q (.bl (decide (a = b))) H) : rEq (.str a) (.str b) H Q := ⟨rfl, by
  have e : decide (V.str a = V.str b) = decide (a = b) := by
    by_cases h : a = b
    · rw [decide_eq_true h, decide_eq_true (congrArg V.str h)]
    · rw [decide_eq_false h, decide_eq_false (fun z => h (V.str.inj z))]
  show Q (.bl (decide (V.str a = V.str b))) H
  rw [e]
  exact q⟩
theorem i_neS {a b : Str} (q : Q (.bl (!decide (a = b))) H) : rNe (.str a) (.str b) H Q := ⟨rfl, by
  have e : decide (V.str a = V.str b) = decide (a = b) := by
    by_cases h : a = b
    · rw [decide_eq_true h, decide_eq_true (congrArg V.str h)]
    · rw [decide_eq_false h, decide_eq_false (fun z => h (V.str.inj z))]
  show Q (.bl (!decide (V.str a = V.str b))) H
  rw [e]
  exact q⟩
theorem i_nil {R : List V → Hp → Prop} (q : R [] H) : tNil σ H R := q
theorem i_cons {R : List V → Hp → Prop} {tr : TA} (q : ta σ H (fun x H1 => tr σ H1 fun xs H2 => R (x :: xs) H2)) : tCons ta tr σ H R := q
theorem i_cb {r : List V → Hp → VK → Prop} {tr : TA} (q : tr σ H (fun vs H1 => r vs H1 Q)) : tCB r tr σ H Q := q
theorem i_call {sp : Sp} {dvs : List V} {E : XK} {tr : TA} (q : tr σ H (fun vs H1 => sp (vs ++ dvs) H1 Q E)) : tCall sp dvs E tr σ H Q := q
theorem i_callN {k m : Nat} {sp : Sp} {gV : List V → List V → List V} {E : XK} {tr tk : TA} (q : tr σ H fun vs H1 => tk σ H1 fun zs H2 => vs.length = k ∧ zs.length = m ∧ sp (gV vs zs) H2 Q E) : tCallN k m sp gV E tr tk σ H Q := q
theorem i_seq (q : t ⟨u ⟨n, rt, bk, ct⟩, rt, bk, ct⟩ σ H) : tSeq t u ⟨n, rt, bk, ct⟩ σ H := q
theorem i_next (q : n σ H) : tNext ⟨n, rt, bk, ct⟩ σ H := q
theorem i_brk (q : bk σ H) : tBreak ⟨n, rt, bk, ct⟩ σ H := q
theorem i_cont (q : ct σ H) : tCont ⟨n, rt, bk, ct⟩ σ H := q
theorem i_set (q : te σ H (fun x H1 => n (σ.set i (some x)) H1)) : tAsg te (gName i) ⟨n, rt, bk, ct⟩ σ H := q
theorem i_asg (q : te σ H (fun x H1 => g x σ H1 n)) : tAsg te g ⟨n, rt, bk, ct⟩ σ H := q
theorem i_drop (q : te σ H (fun _ H1 => n σ H1)) : tDrop te ⟨n, rt, bk, ct⟩ σ H := q
theorem i_ret (q : te σ H rt) : tRet te ⟨n, rt, bk, ct⟩ σ H := q
theorem i_retN (q : rt .non H) : tRetN ⟨n, rt, bk, ct⟩ σ H := q
theorem i_if {c : TT} (q : c σ H (fun b H1 => if b = true then t ⟨n, rt, bk, ct⟩ σ H1 else u ⟨n, rt, bk, ct⟩ σ H1)) : tIfS c t u ⟨n, rt, bk, ct⟩ σ H := q
theorem i_test {R : Bool → Hp → Prop} (q : te σ H (fun x H1 => ∃ k, x = .bl k ∧ R k H1)) : tTest te σ H R := q
theorem i_B {R : Bool → Hp → Prop} (q : te σ H (fun x H1 => ∃ k, x = .bl k ∧ R k H1)) : tB te σ H R := q
theorem i_bl {b : Bool} {R : Bool → Hp → Prop} (q : R b H) : ∃ k, V.bl b = .bl k ∧ R k H := ⟨b, rfl, q⟩
theorem i_not {c : TT} {R : Bool → Hp → Prop} (q : c σ H (fun b H1 => R (!b) H1)) : tNot c σ H R := q
theorem i_and {c d : TT} {R : Bool → Hp → Prop} (q : c σ H (fun b H1 => if b = true then d σ H1 R else R false H1)) : tAnd c d σ H R := q
theorem i_or {c d : TT} {R : Bool → Hp → Prop} (q : c σ H (fun b H1 => if b = true then R true H1 else d σ H1 R)) : tOr c d σ H R := q
theorem i_andV (q : ta σ H (fun x H1 => ∃ c, x = .bl c ∧ if c = true then tb σ H1 Q else Q (.bl false) H1)) : tAndV ta tb σ H Q := q
theorem i_orV (q : ta σ H (fun x H1 => ∃ c, x = .bl c ∧ if c = true then Q (.bl true) H1 else tb σ H1 Q)) : tOrV ta tb σ H Q := q
theorem i_notV (q : ta σ H (fun x H1 => ∃ c, x = .bl c ∧ Q (.bl (!c)) H1)) : tNotV ta σ H Q := q
theorem i_blV {b : Bool} {R : Bool → Prop} (q : R b) : ∃ k, V.bl b = .bl k ∧ R k := ⟨b, rfl, q⟩
theorem i_ifE {c : TT} (q : c σ H (fun b H1 => if b = true then ta σ H1 Q else tb σ H1 Q)) : tIf c ta tb σ H Q := q
theorem i_chain {r r' : R2} (q : ta σ H fun x H1 => tb σ H1 fun y H2 => r x y H2 fun z H3 => ∃ k, z = .bl k ∧ (if k = true then tc σ H3 fun w' H4 => r' y w' H4 Q else Q (.bl false) H3)) : tChain r r' ta tb tc σ H Q := q
theorem i_itT {A B : Prop} (q : A) : if true = true then A else B := by rw [if_pos rfl]; exact q
theorem i_itF {A B : Prop} (q : B) : if false = true then A else B := by rw [if_neg Bool.false_ne_true]; exact q
theorem i_ite {p : Prop} [Decidable p] {A B : Prop} (h1 : p → A) (h2 : ¬ p → B) : if decide p = true then A else B := by
  by_cases h : p
  · rw [decide_eq_true h, if_pos rfl]; exact h1 h
  · rw [decide_eq_false h, if_neg Bool.false_ne_true]; exact h2 h
theorem i_iteN {p : Prop} [Decidable p] {A B : Prop} (h1 : ¬ p → A) (h2 : p → B) : if (!decide p) = true then A else B := by
  by_cases h : p
  · rw [decide_eq_true h]; exact i_itF (h2 h)
  · rw [decide_eq_false h]; exact i_itT (h1 h)
theorem i_iteNT {A B : Prop} (q : B) : if (!true) = true then A else B := i_itF q
theorem i_iteNF {A B : Prop} (q : A) : if (!false) = true then A else B := i_itT q
theorem i_iteNN {b : Bool} {A B : Prop} (q : if b = true then A else B) : if (!!b) = true then A else B := by rw [Bool.not_not]; exact q
theorem i_ixL {p : Addr} {xs : List V} {k : Int} (h : H p = some (.lst xs)) (ha : atI xs k = some v) (q : Q v H) : rIxL K (.ref p) (.int k) H Q := ⟨p, xs, k, v, rfl, rfl, SqL.of h, ha, q⟩
theorem i_ixT {p : Addr} {xs : List V} {k : Int} (h : H p = some (.tup xs)) (ha : atI xs k = some v) (q : Q v H) : rIxT K (.ref p) (.int k) H Q := ⟨p, xs, k, v, rfl, rfl, SqT.of h, ha, q⟩
theorem i_sub {to ti : TE} {s : TSet} {R : L2.St → Hp → Prop} (q : to σ H fun o H1 => ti σ H1 fun j H2 => s o j v H2 fun H3 => R σ H3) : gSub to ti s v σ H R := q
theorem i_setL {p : Addr} {xs : List V} {k : Int} {j : Nat} {R : Hp → Prop} (h : H p = some (.lst xs)) (hk : ixN xs.length k = some j) (q : R (upd H p (.lst (xs.set j v)))) : rSetL (.ref p) (.int k) v H R := ⟨p, xs, k, j, rfl, rfl, h, hk, q⟩
theorem i_lst {tr : TA} (q : tr σ H fun xs H1 => xs.length ≤ sizeLine ∧ ∀ p, H1 p = none → Q (.ref p) (upd H1 p (.lst xs))) : tLst tr σ H Q := q
theorem i_tup {tr : TA} (q : tr σ H fun xs H1 => xs.length ≤ sizeLine ∧ ∀ p, H1 p = none → Q (.ref p) (upd H1 p (.tup xs))) : tTup tr σ H Q := q
theorem i_sl {r : V → Option Int → Option Int → Hp → VK → Prop} {tl th : TO} (q : te σ H fun x H1 => tl σ H1 fun l H2 => th σ H2 fun u H3 => r x l u H3 Q) : tSl r te tl th σ H Q := q
theorem i_nopart {R : Option Int → Hp → Prop} (q : R none H) : tNoPart σ H R := q
theorem i_part {R : Option Int → Hp → Prop} (q : te σ H fun x H1 => ∃ i, x = .int i ∧ R (some i) H1) : tPart te σ H R := q
theorem i_partE {k : Int} {R : Int → Prop} (q : R k) : ∃ i, V.int k = .int i ∧ R i := ⟨k, rfl, q⟩
theorem i_slL {a : Addr} {xs : List V} {lo hi : Option Int} (h : H a = some (.lst xs)) (q : ∀ p, H p = none → Q (.ref p) (upd H p (.lst (cutV xs lo hi)))) : rSlL K (.ref a) lo hi H Q := ⟨a, xs, rfl, SqL.of h, q⟩
theorem i_all {a : Addr} {bs : List Bool} (h : H a = some (.lst (bs.map V.bl))) (q : Q (.bl (bs.all id)) H) : rAll K [.ref a] H Q := ⟨a, bs, rfl, SqL.of h, q⟩
theorem i_any {a : Addr} {bs : List Bool} (h : H a = some (.lst (bs.map V.bl))) (q : Q (.bl (bs.any id)) H) : rAny K [.ref a] H Q := ⟨a, bs, rfl, SqL.of h, q⟩
theorem i_sum {a : Addr} {ns : List Int} (h : H a = some (.lst (ns.map V.int))) (q : Q (.int ns.sum) H) : rSum K [.ref a] H Q := ⟨a, ns, rfl, SqL.of h, q⟩
theorem i_lenL {p : Addr} {xs : List V} (h : H p = some (.lst xs)) (q : Q (.int xs.length) H) : rLenK K [.ref p] H Q := ⟨p, xs, rfl, .inl (SqL.of h), q⟩
theorem i_lenT {p : Addr} {xs : List V} (h : H p = some (.tup xs)) (q : Q (.int xs.length) H) : rLenK K [.ref p] H Q := ⟨p, xs, rfl, .inr (SqT.of h), q⟩
theorem i_listL {p : Addr} {xs : List V} (h : H p = some (.lst xs)) (q : ∀ l, H l = none → Q (.ref l) (upd H l (.lst xs))) : rListK K [.ref p] H Q := ⟨p, xs, rfl, .inl (SqL.of h), q⟩
theorem i_listT {p : Addr} {xs : List V} (h : H p = some (.tup xs)) (q : ∀ l, H l = none → Q (.ref l) (upd H l (.lst xs))) : rListK K [.ref p] H Q := ⟨p, xs, rfl, .inr (SqT.of h), q⟩
theorem i_tupleL {p : Addr} {xs : List V} (h : H p = some (.lst xs)) (q : ∀ l, H l = none → Q (.ref l) (upd H l (.tup xs))) : rTupleK K [.ref p] H Q := ⟨p, xs, rfl, .inl ⟨SqL.of h, q⟩⟩
theorem i_tupleT {p : Addr} {xs : List V} (h : H p = some (.tup xs)) (q : Q (.ref p) H) : rTupleK K [.ref p] H Q := ⟨p, xs, rfl, .inr ⟨SqT.of h, q⟩⟩
theorem i_catT {a b : Addr} {xs ys : List V} (h : H a = some (.tup xs)) (h' : H b = some (.tup ys)) (nx : xs ≠ []) (ny : ys ≠ []) (hl : xs.length + ys.length ≤ sizeLine) (q : ∀ p, H p = none → Q (.ref p) (upd H p (.tup (xs ++ ys)))) : rCatT K (.ref a) (.ref b) H Q :=
  ⟨a, b, xs, ys, rfl, rfl, SqT.of h, SqT.of h', nx, hl, fun e => absurd e ny, fun _ => q⟩
theorem i_slT {a : Addr} {xs : List V} {lo hi : Option Int} (h : H a = some (.tup xs)) (hw : ¬ (HT.sIx xs.length 0 lo = 0 ∧ HT.sIx xs.length xs.length hi = xs.length)) (q : ∀ p, H p = none → Q (.ref p) (upd H p (.tup (cutV xs lo hi)))) : rSlT K (.ref a) lo hi H Q := ⟨a, xs, rfl, SqT.of h, hw, q⟩
theorem i_bm {Ty : String} {r : V → List V → Hp → VK → Prop} {to : TE} {t : TA} (q : to σ H fun x H1 => tyV K Ty x H1 ∧ t σ H1 fun xs H2 => r x xs H2 Q) : tBM K Ty r to t σ H Q := q
theorem i_bm0 {Ty : String} {r : V → List V → Hp → VK → Prop} {to : TE} (q : to σ H fun x H1 => tyV K Ty x H1 ∧ r x [] H1 Q) : tBM0 K Ty r to σ H Q := q
theorem i_tyL {p : Addr} {xs : List V} {R : Prop} (h : H p = some (.lst xs)) (q : R) : tyV K "list" (.ref p) H ∧ R := ⟨.inl ⟨rfl, _, SqL.of h⟩, q⟩
theorem i_app {p : Addr} {xs : List V} {y : V} (h : H p = some (.lst xs)) (hl : xs.length ≤ 1000) (q : Q .non (upd H p (.lst (xs ++ [y])))) : rAppend (.ref p) [y] H Q := ⟨p, xs, y, rfl, rfl, h, small1000 hl, q⟩
theorem i_popAt {p : Addr} {xs : List V} {i : Int} {k : Nat} {y : V} (h : H p = some (.lst xs)) (e : i = (k : Int)) (hk : xs[k]? = some y) (hz : xs.length ≤ 1000) (q : Q y (upd H p (.lst (xs.eraseIdx k)))) : rPopAt (.ref p) [.int i] H Q := by
  have hl := (List.getElem?_eq_some_iff.mp hk).1
  refine ⟨p, xs, i, k, y, rfl, rfl, h, by omega, by omega, ?_, hk, q⟩
  exact (ixN_seq (show ixN xs.length i = some k by
    unfold ixN
    rw [e, if_pos (by omega), if_pos (by omega), Int.toNat_natCast])).1
theorem i_isN {x : V} (q : Q (.bl (decide (x = .non))) H) : (.non : V) = .non ∧ Q (.bl (decide (x = .non))) H := ⟨rfl, q⟩
theorem i_abs {a : Int} (q : Q (.int (if a < 0 then -a else a)) H) : (fun (xs : List V) (H : Hp) (Q : VK) => ∃ i, xs = [.int i] ∧ Q (.int (if i < 0 then -i else i)) H) [.int a] H Q := ⟨a, rfl, q⟩
end
/-! ### loops -/
def LOOP (J : It) (g : TG) (tb : TS) (D : Ends) (σ : L2.St) (H : Hp) : Prop := ∃ W : Nat → Nat → L2.St → Hp → Prop, (∃ m, W 0 m σ H) ∧ ∀ i m σ H, W i m σ H →
  (J.stop i H ∧ D.nx σ H) ∨ (J.go i H ∧ ∃ N : L2.St → Hp → Prop, (∀ σ' H', N σ' H' → ∃ m', m' < m ∧ W (i + 1) m' σ' H') ∧ ∀ x H', J.yld i H x H' → g x σ H' fun σ2 H2 => tb { D with nx := N, ct := N, bk := D.nx } σ2 H2)
section
variable {σ : L2.St} {H : Hp} {K : PySem.W.Frag} {n bk ct : L2.St → Hp → Prop} {rt : VK} {tb : TS} {g : TG} {te : TE} {ta : TA}
theorem i_for1 (q : ta σ H fun vs H1 => ∃ j : Int, vs = [.int j] ∧ -(2 ^ 62) ≤ j ∧ j < 2 ^ 62 ∧ LOOP (Itr 0 j.toNat) g tb ⟨n, rt, bk, ct⟩ σ H1) : tFor (iRng1 ta) g tb ⟨n, rt, bk, ct⟩ σ H := q
theorem i_for2 (q : ta σ H fun vs H1 => ∃ i j : Int, vs = [.int i, .int j] ∧ (-(2 ^ 62) ≤ i ∧ i < 2 ^ 62 ∧ -(2 ^ 62) ≤ j ∧ j < 2 ^ 62) ∧ LOOP (Itr i (j - i).toNat) g tb ⟨n, rt, bk, ct⟩ σ H1) : tFor (iRng2 ta) g tb ⟨n, rt, bk, ct⟩ σ H := q
theorem i_for3 (q : ta σ H fun vs H1 => ∃ (i j c : Int) (m : Nat), vs = [.int i, .int j, .int c] ∧ RgC i j c m ∧ LOOP (Itc i c m) g tb ⟨n, rt, bk, ct⟩ σ H1) : tFor (iRng3 ta) g tb ⟨n, rt, bk, ct⟩ σ H := q
theorem l_rngC {lo c : Int} {m : Nat} (Pv : Nat → L2.St → Hp → Prop) (h0 : Pv 0 σ H) (hs : ∀ i σ H, i < m → Pv i σ H → g (.int (lo + (i : Nat) * c)) σ H fun σ2 H2 => tb ⟨Pv (i + 1), rt, n, Pv (i + 1)⟩ σ2 H2) (hd : ∀ σ H, Pv m σ H → n σ H) :
    LOOP (Itc lo c m) g tb ⟨n, rt, bk, ct⟩ σ H := for_rangeC Pv h0 hs hd
theorem i_forL (q : te σ H fun x H1 => ∃ a, x = .ref a ∧ (∃ xs, SqL K H1 a xs) ∧ LOOP (Itl K a) g tb ⟨n, rt, bk, ct⟩ σ H1) : tFor (iList K te) g tb ⟨n, rt, bk, ct⟩ σ H := q
theorem i_forT (q : te σ H fun x H1 => ∃ a, x = .ref a ∧ (∃ xs, SqT K H1 a xs) ∧ LOOP (Itt K a) g tb ⟨n, rt, bk, ct⟩ σ H1) : tFor (iTup K te) g tb ⟨n, rt, bk, ct⟩ σ H := q
theorem l_rng {lo : Int} {m : Nat} (Pv : Nat → L2.St → Hp → Prop) (h0 : Pv 0 σ H) (hs : ∀ i σ H, i < m → Pv i σ H → g (.int (lo + i)) σ H fun σ2 H2 => tb ⟨Pv (i + 1), rt, n, Pv (i + 1)⟩ σ2 H2) (hd : ∀ σ H, Pv m σ H → n σ H) :
    LOOP (Itr lo m) g tb ⟨n, rt, bk, ct⟩ σ H := for_range Pv h0 hs hd
theorem l_lst {a : Addr} {xs : List V} (Pv : Nat → L2.St → Hp → Prop) (h0 : Pv 0 σ H) (hl : ∀ i σ H, i ≤ xs.length → Pv i σ H → SqL K H a xs)
    (hs : ∀ i x σ H, xs[i]? = some x → Pv i σ H → g x σ H fun σ2 H2 => tb ⟨Pv (i + 1), rt, n, Pv (i + 1)⟩ σ2 H2) (hd : ∀ σ H, Pv xs.length σ H → n σ H) : LOOP (Itl K a) g tb ⟨n, rt, bk, ct⟩ σ H := for_list Pv h0 hl hs hd
theorem l_tup {a : Addr} {xs : List V} (Pv : Nat → L2.St → Hp → Prop) (h0 : Pv 0 σ H) (hl : ∀ i σ H, i ≤ xs.length → Pv i σ H → SqT K H a xs)
    (hs : ∀ i x σ H, xs[i]? = some x → Pv i σ H → g x σ H fun σ2 H2 => tb ⟨Pv (i + 1), rt, n, Pv (i + 1)⟩ σ2 H2) (hd : ∀ σ H, Pv xs.length σ H → n σ H) : LOOP (Itt K a) g tb ⟨n, rt, bk, ct⟩ σ H := for_tup Pv h0 hl hs hd
theorem i_while {c : TT} (W : Nat → L2.St → Hp → Prop) (m : Nat) (w0 : W m σ H) (hs : ∀ m σ H, W m σ H → c σ H fun b H1 => if b = true then ∃ N : L2.St → Hp → Prop, (∀ σ' H', N σ' H' → ∃ m', m' < m ∧ W m' σ' H') ∧ tb ⟨N, rt, n, N⟩ σ H1 else n σ H1) :
    tWhile c tb ⟨n, rt, bk, ct⟩ σ H := ⟨W, ⟨m, w0⟩, hs⟩
theorem i_par {i j : Nat} (q : ta σ H fun vs H1 => ∃ v w, vs = [v, w] ∧ n ((σ.set i (some v)).set j (some w)) H1) : tPar i j ta ⟨n, rt, bk, ct⟩ σ H := q
theorem i_parE {x y : V} {R : V → V → Prop} (q : R x y) : ∃ v w, [x, y] = [v, w] ∧ R v w := ⟨x, y, rfl, q⟩
theorem i_aug {i : Nat} {ti : TIp} {x : V} (h : σ[i]? = some (some x)) (q : te σ H fun y H1 => ti x y H1 fun z H2 => n (σ.set i (some z)) H2) : tAug i te ti ⟨n, rt, bk, ct⟩ σ H := ⟨_, h, q⟩
theorem i_ipI {f : Int → Int → Int} {a b : Int} {Q : VK} (q : Q (.int (f a b)) H) : ipI f (.int a) (.int b) H Q := ⟨a, b, rfl, rfl, q⟩
theorem ip_mul {X : Cx} : PIp X .Mult (rI CMul fun i j => .int (i * j)) := fun pins s σ H x y v u Q I rx ry h => iop_mul pins s σ H x y v u Q I rx ry h
theorem i_asg2 {g1 g2 : TG} (q : te σ H fun x H1 => g1 x σ H1 fun σ1 H2 => g2 x σ1 H2 n) : tAsg2 te g1 g2 ⟨n, rt, bk, ct⟩ σ H := q
theorem i_gtup {a : Addr} {xs : List V} {k : Nat} {tg : TGs} {R : L2.St → Hp → Prop} (h : H a = some (.tup xs)) (hl : xs.length = k) (q : tg xs σ H R) : gTup K k tg (.ref a) σ H R := ⟨a, xs, rfl, SqT.of h, hl, q⟩
theorem i_gcons {v : V} {r : List V} {tg : TGs} {R : L2.St → Hp → Prop} (q : g v σ H fun σ' H' => tg r σ' H' R) : gCons g tg (v :: r) σ H R := ⟨v, r, rfl, q⟩
theorem i_gnil {R : L2.St → Hp → Prop} (q : R σ H) : gNil [] σ H R := ⟨rfl, q⟩
theorem i_gname {i : Nat} {x : V} {R : L2.St → Hp → Prop} (q : R (σ.set i (some x)) H) : gName i x σ H R := q
end
/-! ### a word between a statement and what follows -/
def tCut (t u : TS) : TS := fun D σ H => ∃ Mid : L2.St → Hp → Prop, t { D with nx := Mid } σ H ∧ ∀ σ' H', Mid σ' H' → u D σ' H'
theorem pss_cut {X : Cx} {st : Stmt} {rest : List Stmt} {t u : TS} (h1 : PS X st t) (h2 : PSs X rest u) : PSs X (st :: rest) (tCut t u) := by
  refine ⟨fun pins s σ H D I h => ?_⟩
  obtain ⟨M, hm, hu⟩ := h
  refine wpAny_execs_cons (thn (h1.run pins s σ H { D with nx := M } I hm) fun f s1 z => ?_)
  cases f with
  | next =>
    obtain ⟨a, b, c, z⟩ := z
    exact h2.run pins s1 a b D c (hu a b z)
  | ret v => exact z
  | brk => exact z
  | cont => exact z
theorem i_cut {σ : L2.St} {H : Hp} {n bk ct : L2.St → Hp → Prop} {rt : VK} {t u : TS} (Mid : L2.St → Hp → Prop) (h : t ⟨Mid, rt, bk, ct⟩ σ H) (k : ∀ σ' H', Mid σ' H' → u ⟨n, rt, bk, ct⟩ σ' H') : tCut t u ⟨n, rt, bk, ct⟩ σ H := ⟨Mid, h, k⟩
/-- the same for a value and for a test -/
def tCutE (t : TE) : TE := fun σ H Q => ∃ Mid : VK, t σ H Mid ∧ ∀ v H', Mid v H' → Q v H'
theorem pe_cut {X : Cx} {e : Expr} {t : TE} (h : PE X e t) : PE X e (tCutE t) := by
  refine ⟨fun pins s σ H Q I q => ?_⟩
  obtain ⟨M, hm, hu⟩ := q
  exact thn (h.run pins s σ H M I hm) fun v s1 ⟨x, H1, I1, r1, z⟩ => ⟨x, H1, I1, r1, hu _ _ z⟩
theorem i_cutE {σ : L2.St} {H : Hp} {Q : VK} {t : TE} (Mid : VK) (h : t σ H Mid) (k : ∀ v H', Mid v H' → Q v H') : tCutE t σ H Q := ⟨Mid, h, k⟩
def tCutT (t : TT) : TT := fun σ H Q => ∃ Mid : Bool → Hp → Prop, t σ H Mid ∧ ∀ v H', Mid v H' → Q v H'
theorem pt_cut {X : Cx} {e : Expr} {t : TT} (h : PT X e t) : PT X e (tCutT t) := by
  refine ⟨fun pins s σ H Q I q => ?_⟩
  obtain ⟨M, hm, hu⟩ := q
  exact thn (h.run pins s σ H M I hm) fun v s1 ⟨H1, I1, z⟩ => ⟨H1, I1, hu _ _ z⟩
theorem i_cutT {σ : L2.St} {H : Hp} {Q : Bool → Hp → Prop} {t : TT} (Mid : Bool → Hp → Prop) (h : t σ H Mid) (k : ∀ v H', Mid v H' → Q v H') : tCutT t σ H Q := ⟨Mid, h, k⟩
/-! ### comprehensions -/
def COMP (J : It) (g : TG) (tt : TT) (te : TE) (vs : List Nat) (σ : L2.St) (H1 : Hp) (D : Addr) (Q : VK) : Prop := ∃ W : Nat → Nat → Hp → Prop, (∃ m, W 0 m (upd H1 D (.lst []))) ∧ ∀ i m H, W i m H →
  (J.stop i H ∧ Q (.ref D) H) ∨ (J.go i H ∧ ∃ Nx : Hp → Prop, (∀ H', Nx H' → ∃ m', m' < m ∧ W (i + 1) m' H') ∧ ∀ x H', J.yld i H x H' → g x (wipe σ vs) H' fun σ2 H2 => wipe σ2 vs = wipe σ vs ∧ tt σ2 H2 fun b H3 =>
    if b = true then te σ2 H3 fun y H4 => ∃ acc, H4 D = some (.lst acc) ∧ acc.length < sizeLine ∧ Nx (upd H4 D (.lst (acc ++ [y]))) else Nx H3)
section
variable {σ : L2.St} {H : Hp} {K : PySem.W.Frag} {Q : VK} {g : TG} {tt : TT} {te tl : TE} {ta : TA} {vs : List Nat}
theorem i_lc1 (q : ta σ H fun us H1 => ∃ j : Int, us = [.int j] ∧ -(2 ^ 62) ≤ j ∧ j < 2 ^ 62 ∧ ∀ D, H1 D = none → COMP (Itr 0 j.toNat) g tt te vs σ H1 D Q) : tLc (iRng1 ta) g tt te vs σ H Q := q
theorem i_lc2 (q : ta σ H fun us H1 => ∃ i j : Int, us = [.int i, .int j] ∧ (-(2 ^ 62) ≤ i ∧ i < 2 ^ 62 ∧ -(2 ^ 62) ≤ j ∧ j < 2 ^ 62) ∧ ∀ D, H1 D = none → COMP (Itr i (j - i).toNat) g tt te vs σ H1 D Q) : tLc (iRng2 ta) g tt te vs σ H Q := q
theorem i_lcL (q : tl σ H fun x H1 => ∃ a, x = .ref a ∧ (∃ xs, SqL K H1 a xs) ∧ ∀ D, H1 D = none → COMP (Itl K a) g tt te vs σ H1 D Q) : tLc (iList K tl) g tt te vs σ H Q := q
theorem i_lcT (q : tl σ H fun x H1 => ∃ a, x = .ref a ∧ (∃ xs, SqT K H1 a xs) ∧ ∀ D, H1 D = none → COMP (Itt K a) g tt te vs σ H1 D Q) : tLc (iTup K tl) g tt te vs σ H Q := q
theorem c_rng {lo : Int} {n : Nat} {D : Addr} (Pv : Nat → Hp → Prop) (h0 : Pv 0 (upd H D (.lst [])))
    (hs : ∀ i H, i < n → Pv i H → g (.int (lo + i)) (wipe σ vs) H fun σ2 H2 => wipe σ2 vs = wipe σ vs ∧ tt σ2 H2 fun b H3 =>
      if b = true then te σ2 H3 fun y H4 => ∃ acc, H4 D = some (.lst acc) ∧ acc.length < sizeLine ∧ Pv (i + 1) (upd H4 D (.lst (acc ++ [y]))) else Pv (i + 1) H3) (hd : ∀ H, Pv n H → Q (.ref D) H) :
    COMP (Itr lo n) g tt te vs σ H D Q := lc_range Pv h0 hs hd
theorem c_lst {a D : Addr} {xs : List V} (Pv : Nat → Hp → Prop) (h0 : Pv 0 (upd H D (.lst []))) (hl : ∀ i H, i ≤ xs.length → Pv i H → SqL K H a xs)
    (hs : ∀ i x H, xs[i]? = some x → Pv i H → g x (wipe σ vs) H fun σ2 H2 => wipe σ2 vs = wipe σ vs ∧ tt σ2 H2 fun b H3 =>
      if b = true then te σ2 H3 fun y H4 => ∃ acc, H4 D = some (.lst acc) ∧ acc.length < sizeLine ∧ Pv (i + 1) (upd H4 D (.lst (acc ++ [y]))) else Pv (i + 1) H3) (hd : ∀ H, Pv xs.length H → Q (.ref D) H) :
    COMP (Itl K a) g tt te vs σ H D Q := lc_list Pv h0 hl hs hd
theorem c_tup {a D : Addr} {xs : List V} (Pv : Nat → Hp → Prop) (h0 : Pv 0 (upd H D (.lst []))) (hl : ∀ i H, i ≤ xs.length → Pv i H → SqT K H a xs)
    (hs : ∀ i x H, xs[i]? = some x → Pv i H → g x (wipe σ vs) H fun σ2 H2 => wipe σ2 vs = wipe σ vs ∧ tt σ2 H2 fun b H3 =>
      if b = true then te σ2 H3 fun y H4 => ∃ acc, H4 D = some (.lst acc) ∧ acc.length < sizeLine ∧ Pv (i + 1) (upd H4 D (.lst (acc ++ [y]))) else Pv (i + 1) H3) (hd : ∀ H, Pv xs.length H → Q (.ref D) H) :
    COMP (Itt K a) g tt te vs σ H D Q := lc_tup Pv h0 hl hs hd
theorem i_yes {R : Bool → Hp → Prop} (q : R true H) : tYes σ H R := q
end
def spCommon : Sp := fun vs H Q _ => ∃ p q : Int, vs = [.int p, .int q] ∧ 0 ≤ p ∧ 0 ≤ q ∧ Q (.int (Int.gcd p q)) H
/-! ### lists of tuples -/
def LT (U : Hp) (p : Addr) (rows : List (List V)) : Prop := ∃ as : List Addr, U p = some (.lst (as.map V.ref)) ∧ Paired (fun a r => U a = some (.tup r)) as rows
theorem Paired.imp {α β : Type} {F G : α → β → Prop} (h : ∀ a b, F a b → G a b) : ∀ {xs : List α} {ys : List β}, Paired F xs ys → Paired G xs ys
  | _, _, .nil => .nil
  | _, _, .cons a t => .cons (h _ _ a) (Paired.imp h t)
theorem Paired.at {α β : Type} {F : α → β → Prop} : ∀ {xs : List α} {ys : List β}, Paired F xs ys → ∀ (i : Nat) (y : β), ys[i]? = some y → ∃ x, xs[i]? = some x ∧ F x y
  | _, _, .nil, i, y, e => by simp at e
  | _, _, .cons a t, 0, y, e => by
    have e' := Option.some.inj e
    subst e'
    exact ⟨_, rfl, a⟩
  | _, _, .cons a t, i + 1, y, e => Paired.at t i y e
theorem Paired.at' {α β : Type} {F : α → β → Prop} : ∀ {xs : List α} {ys : List β}, Paired F xs ys → ∀ (i : Nat) (x : α), xs[i]? = some x → ∃ y, ys[i]? = some y ∧ F x y
  | _, _, .nil, i, y, e => by simp at e
  | _, _, .cons a t, 0, y, e => by
    have e' := Option.some.inj e
    subst e'
    exact ⟨_, rfl, a⟩
  | _, _, .cons a t, i + 1, y, e => Paired.at' t i y e
theorem Paired.len {α β : Type} {F : α → β → Prop} : ∀ {xs : List α} {ys : List β}, Paired F xs ys → xs.length = ys.length
  | _, _, .nil => rfl
  | _, _, .cons _ t => congrArg (· + 1) (Paired.len t)
theorem Paired.tk {α β : Type} {F : α → β → Prop} : ∀ {xs : List α} {ys : List β} (k : Nat), Paired F xs ys → Paired F (xs.take k) (ys.take k)
  | _, _, 0, _ => .nil
  | _, _, _ + 1, .nil => .nil
  | _, _, k + 1, .cons a t => .cons a (Paired.tk k t)
theorem Paired.dp {α β : Type} {F : α → β → Prop} : ∀ {xs : List α} {ys : List β} (k : Nat), Paired F xs ys → Paired F (xs.drop k) (ys.drop k)
  | _, _, 0, h => h
  | _, _, _ + 1, .nil => .nil
  | _, _, k + 1, .cons _ t => Paired.dp k t
theorem Paired.mp {α β γ : Type} {F : α → γ → Prop} {f : β → γ} : ∀ {xs : List α} {ys : List β}, Paired (fun a b => F a (f b)) xs ys → Paired F xs (ys.map f)
  | _, _, .nil => .nil
  | _, _, .cons a t => .cons a (Paired.mp t)
theorem LT.mono {U U' : Hp} {p : Addr} {rows : List (List V)} (e : Same U U') (h : LT U p rows) : LT U' p rows := by
  obtain ⟨as, h1, h2⟩ := h
  exact ⟨as, e _ _ h1, Paired.imp (fun a r x => e _ _ x) h2⟩
section
variable {σ : L2.St} {H U : Hp} {K : PySem.W.Frag} {n bk ct : L2.St → Hp → Prop} {rt : VK} {tb : TS} {g : TG} {te : TE} {ta : TA} {p : Addr} {rows : List (List V)}
theorem LT.len (h : LT U p rows) : ∃ xs : List V, U p = some (.lst xs) ∧ xs.length = rows.length := by
  obtain ⟨as, h1, h2⟩ := h
  exact ⟨_, h1, by rw [List.length_map, Paired.len h2]⟩
theorem LT.get (h : LT U p rows) : ∃ xs : List V, U p = some (.lst xs) ∧ xs.length = rows.length ∧ ∀ (i : Nat) (r : List V), rows[i]? = some r → ∃ a : Addr, xs[i]? = some (V.ref a) ∧ U a = some (.tup r) := by
  obtain ⟨as, h1, h2⟩ := h
  refine ⟨_, h1, by rw [List.length_map, Paired.len h2], fun i r e => ?_⟩
  obtain ⟨a, e1, e2⟩ := Paired.at h2 i r e
  exact ⟨a, by rw [List.getElem?_map, e1]; rfl, e2⟩
theorem l_LT (h : LT U p rows) (Pv : Nat → L2.St → Hp → Prop) (h0 : Pv 0 σ H) (hv : ∀ i σ H, Pv i σ H → Same U H)
    (hs : ∀ i r a σ H, rows[i]? = some r → H a = some (.tup r) → Pv i σ H → g (.ref a) σ H fun σ2 H2 => tb ⟨Pv (i + 1), rt, n, Pv (i + 1)⟩ σ2 H2) (hd : ∀ σ H, Pv rows.length σ H → n σ H) : LOOP (Itl K p) g tb ⟨n, rt, bk, ct⟩ σ H := by
  obtain ⟨as, h1, h2⟩ := h
  refine l_lst (xs := as.map V.ref) Pv h0 (fun i σ H _ q => SqL.of (hv i σ H q _ _ h1)) (fun i x σ H e q => ?_) (fun σ H q => hd σ H ?_)
  · rw [List.getElem?_map] at e
    cases ea : as[i]? with
    | none =>
      rw [ea] at e
      cases e
    | some a =>
      rw [ea] at e
      have e' := Option.some.inj e
      subst e'
      obtain ⟨r, er, hr⟩ := Paired.at' h2 i a ea
      exact hs i r a σ H er (hv i σ H q _ _ hr) q
  · rw [List.length_map, Paired.len h2] at q
    exact q
end
theorem cut_to (xs : List V) (k : Nat) : cutV xs none (some (k : Int)) = xs.take k := by
  unfold cutV
  rw [HT.sIx_nat, HT.sIx_none, List.drop_zero, Nat.sub_zero]
  by_cases h : k ≤ xs.length
  · rw [Nat.min_eq_left h]
  · rw [Nat.min_eq_right (by omega), List.take_length, List.take_of_length_le (by omega)]
theorem cut_from (xs : List V) (k : Nat) : cutV xs (some (k : Int)) none = xs.drop k := by
  unfold cutV
  rw [HT.sIx_nat, HT.sIx_none]
  by_cases h : k ≤ xs.length
  · rw [Nat.min_eq_left h, List.take_of_length_le]
    rw [List.length_drop]
    exact Nat.le_refl _
  · rw [Nat.min_eq_right (by omega), List.drop_length, List.drop_of_length_le (by omega), List.take_nil]
def dV : V → PyData
  | .int i => .int i
  | .bl b => .bool b
  | .str x => .str x
  | _ => .none
theorem dV_dp {K : PySem.W.Frag} {H : Hp} {v : V} (h : (match v with | .int _ => true | .bl _ => true | .str _ => true | .non => true | _ => false) = true) : Dp K H v (dV v) := by
  cases v with
  | int i => exact .int i
  | bl b => exact .bl b
  | str x => exact .str x
  | non => exact .non
  | byt _ => cases h
  | flt _ => cases h
  | ref _ => cases h
  | ty _ => cases h
theorem LT.dp {K : PySem.W.Frag} {U H : Hp} {p : Addr} {rows : List (List V)} (e : Same U H) (h : LT U p rows) (f : ∀ r ∈ rows, ∀ v ∈ r, Dp K H v (dV v)) : Dp K H (.ref p) (.list (rows.map fun r => .tuple (r.map dV))) := by
  obtain ⟨as, h1, h2⟩ := h
  refine .lst (SqL.of (e _ _ h1)) ?_
  clear h1
  induction h2 with
  | nil => exact .nil
  | @cons a r as rows h t ih =>
    refine .cons (.tup (SqT.of (e _ _ h)) ?_) (ih fun x hx => f x (List.mem_cons_of_mem _ hx))
    have fr := f r List.mem_cons_self
    clear h ih t f
    induction r with
    | nil => exact .nil
    | cons v r ih => exact .cons (fr v List.mem_cons_self) (ih fun x hx => fr x (List.mem_cons_of_mem _ hx))
def Lay (n : Nat) (d : PyData) : Prop := d.canLay0 = true ∧ d.depth ≤ n
theorem lay_all {n : Nat} : ∀ {xs : List PyData}, (∀ x ∈ xs, Lay n x) → PyData.canLayAll0 xs = true ∧ PyData.depthAll xs ≤ n
  | [], _ => ⟨rfl, Nat.zero_le _⟩
  | x :: r, h => by
    have h1 := h x List.mem_cons_self
    have h2 := lay_all (xs := r) fun y hy => h y (List.mem_cons_of_mem _ hy)
    constructor
    · show (x.canLay0 && PyData.canLayAll0 r) = true
      rw [h1.1, h2.1]
      rfl
    · show max x.depth (PyData.depthAll r) ≤ n
      exact Nat.max_le.mpr ⟨h1.2, h2.2⟩
theorem lay_int {n : Nat} {i : Int} : Lay n (.int i) := ⟨rfl, Nat.zero_le _⟩
theorem lay_none {n : Nat} : Lay n .none := ⟨rfl, Nat.zero_le _⟩
theorem lay_bool {n : Nat} {b : Bool} : Lay n (.bool b) := ⟨rfl, Nat.zero_le _⟩
theorem lay_list {n : Nat} {xs : List PyData} (h : ∀ x ∈ xs, Lay n x) : Lay (n + 1) (.list xs) := ⟨(lay_all h).1, Nat.succ_le_succ (lay_all h).2⟩
theorem lay_tuple {n : Nat} {xs : List PyData} (h : ∀ x ∈ xs, Lay n x) : Lay (n + 1) (.tuple xs) := ⟨(lay_all h).1, Nat.succ_le_succ (lay_all h).2⟩
theorem Lay.shaped {n : Nat} {d : PyData} (h : Lay n d) (hn : n ≤ 64) : SeqAt.shaped d = true := by
  unfold SeqAt.shaped
  rw [h.1, decide_eq_true (Nat.le_trans h.2 hn)]
  rfl
theorem i_eqD {K : PySem.W.Frag} {H : Hp} {Q : VK} {x y : V} {d e : PyData} (h1 : Dp K H x d) (h2 : Dp K H y e) (l1 : Lay 8 d) (l2 : Lay 8 e) (q : Q (.bl (PyData.eqv d e)) H) : rEqD K x y H Q := ⟨d, e, h1, h2, l1.shaped (by decide), l2.shaped (by decide), q⟩
theorem i_neD {K : PySem.W.Frag} {H : Hp} {Q : VK} {x y : V} {d e : PyData} (h1 : Dp K H x d) (h2 : Dp K H y e) (l1 : Lay 8 d) (l2 : Lay 8 e) (q : Q (.bl (!PyData.eqv d e)) H) : rNeD K x y H Q := ⟨d, e, h1, h2, l1.shaped (by decide), l2.shaped (by decide), q⟩
theorem Lay.up {n m : Nat} {d : PyData} (h : Lay n d) (e : n ≤ m) : Lay m d := ⟨h.1, Nat.le_trans h.2 e⟩
theorem i_eqT {K : PySem.W.Frag} {H : Hp} {Q : VK} {x y : V} {d : PyData} (h1 : Dp K H x d) (h2 : Dp K H y d) (l1 : Lay 8 d) (q : Q (.bl true) H) : rEqD K x y H Q := i_eqD h1 h2 l1 l1 (by rw [SeqAt.eqv_refl _ l1.1]; exact q)
theorem i_neT {K : PySem.W.Frag} {H : Hp} {Q : VK} {x y : V} {d : PyData} (h1 : Dp K H x d) (h2 : Dp K H y d) (l1 : Lay 8 d) (q : Q (.bl false) H) : rNeD K x y H Q := i_neD h1 h2 l1 l1 (by rw [SeqAt.eqv_refl _ l1.1]; exact q)
/-- a list of ints as data -/
theorem dp_ints {K : PySem.W.Frag} {H : Hp} {p : Addr} {ns : List Int} (h : H p = some (.lst (ns.map V.int))) : Dp K H (.ref p) (.list (ns.map .int)) := by
  refine .lst (SqL.of h) ?_
  clear h
  induction ns with
  | nil => exact .nil
  | cons x r ih => exact .cons (.int x) ih
theorem dp_intsT {K : PySem.W.Frag} {H : Hp} {p : Addr} {ns : List Int} (h : SqT K H p (ns.map V.int)) : Dp K H (.ref p) (.tuple (ns.map .int)) := by
  refine .tup h ?_
  clear h
  induction ns with
  | nil => exact .nil
  | cons x r ih => exact .cons (.int x) ih
theorem dp_bls {K : PySem.W.Frag} {H : Hp} {p : Addr} {ns : List Bool} (h : H p = some (.lst (ns.map V.bl))) : Dp K H (.ref p) (.list (ns.map .bool)) := by
  refine .lst (SqL.of h) ?_
  clear h
  induction ns with
  | nil => exact .nil
  | cons x r ih => exact .cons (.bl x) ih
theorem lay_bls (ns : List Bool) : Lay 8 (.list (ns.map .bool)) := by
  refine (lay_list (n := 0) fun x hx => ?_).up (by decide)
  obtain ⟨i, _, rfl⟩ := List.mem_map.mp hx
  exact lay_bool
theorem lay_intsT (ns : List Int) : Lay 8 (.tuple (ns.map .int)) := by
  refine (lay_tuple (n := 0) fun x hx => ?_).up (by decide)
  obtain ⟨i, _, rfl⟩ := List.mem_map.mp hx
  exact lay_int
theorem lay_ints (ns : List Int) : Lay 8 (.list (ns.map .int)) := by
  refine (lay_list (n := 0) fun x hx => ?_).up (by decide)
  obtain ⟨i, _, rfl⟩ := List.mem_map.mp hx
  exact lay_int
/-! ### built-ins' names -/
theorem bt_len : bootBuiltins "len" = some (.builtin "len") := by decide +kernel
theorem bt_abs : bootBuiltins "abs" = some (.builtin "abs") := by decide +kernel
theorem bt_max : bootBuiltins "max" = some (.builtin "max") := by decide +kernel
theorem bt_min : bootBuiltins "min" = some (.builtin "min") := by decide +kernel
theorem bt_sum : bootBuiltins "sum" = some (.builtin "sum") := by decide +kernel
theorem bt_all : bootBuiltins "all" = some (.builtin "all") := by decide +kernel
theorem bt_any : bootBuiltins "any" = some (.builtin "any") := by decide +kernel
theorem bt_sorted : bootBuiltins "sorted" = some (.builtin "sorted") := by decide +kernel
theorem bt_isinstance : bootBuiltins "isinstance" = some (.builtin "isinstance") := by decide +kernel
theorem bt_list : bootBuiltins "list" = some (.type "list") := by decide +kernel
theorem bt_tuple : bootBuiltins "tuple" = some (.type "tuple") := by decide +kernel
theorem bt_str : bootBuiltins "str" = some (.type "str") := by decide +kernel
theorem bt_int : bootBuiltins "int" = some (.type "int") := by decide +kernel
theorem bt_bool : bootBuiltins "bool" = some (.type "bool") := by decide +kernel
theorem bt_ValueError : bootBuiltins "ValueError" = some (.type "ValueError") := by decide +kernel
section
variable {K : PySem.W.Frag} {H : Hp} {Q : VK}
theorem i_isI {i : Int} (q : Q (.bl true) H) : rIsi K [.int i, .ty "int"] H Q := ⟨.int i, .ty "int", .type "int", .type "int", true, rfl, .ty _, .base (.int _), kit_ty (by decide +kernel), q⟩
theorem i_isB {i : Int} (q : Q (.bl false) H) : rIsi K [.int i, .ty "bool"] H Q := ⟨.int i, .ty "bool", .type "int", .type "bool", false, rfl, .ty _, .base (.int _), kit_ty (by decide +kernel), q⟩
theorem i_isBB {b : Bool} (q : Q (.bl true) H) : rIsi K [.bl b, .ty "bool"] H Q := ⟨.bl b, .ty "bool", .type "bool", .type "bool", true, rfl, .ty _, .base (.bl _), kit_ty (by decide +kernel), q⟩
theorem i_isL {p : Addr} {xs : List V} (h : H p = some (.lst xs)) (q : Q (.bl true) H) : rIsi K [.ref p, .ty "list"] H Q := ⟨.ref p, .ty "list", .type "list", .type "list", true, rfl, .ty _, .base (.lst h), kit_ty (by decide +kernel), q⟩
theorem i_isT {p : Addr} {xs : List V} (h : H p = some (.tup xs)) (q : Q (.bl true) H) : rIsi K [.ref p, .ty "tuple"] H Q := ⟨.ref p, .ty "tuple", .type "tuple", .type "tuple", true, rfl, .ty _, .base (.tup h), kit_ty (by decide +kernel), q⟩
end
/-! ### the law's own draws -/
structure Dr (U H : Hp) (s : Addr) : Prop where
  ex : ∃ (l : Addr) (ns : List Int) (i b e : Int), H s = some (.lst [.ref l, .int i, .int b, .int e]) ∧ U l = some (.lst (ns.map V.int)) ∧ 0 ≤ i ∧ i ≤ ns.length ∧ 0 ≤ b
  out : U s = none
def spStart (K : PySem.W.Frag) : Sp := fun vs H Q _ => ∃ (a : Addr) (ns : List Int) (U : Hp), vs = [.ref a] ∧ SqL K H a (ns.map V.int) ∧ Same U H ∧
  ∀ s U' H', Gr [] U H U' H' → Dr U' H' s → H s = none → Q (.ref s) H'
def spDraw : Sp := fun vs H Q _ => ∃ (s : Addr) (many : Int) (U : Hp), vs = [.ref s, .int many] ∧ 0 < many ∧ many < 2 ^ 200 ∧ Same U H ∧ Dr U H s ∧
  ∀ r H', 0 ≤ r → r < many → Same U H' → Dr U H' s → (∀ a, a ≠ s → H' a = H a) → Q (.int r) H'
/-- the answer of isinstance(x, int) and not isinstance(x, bool) -/
def spWhole : Sp := fun vs H Q _ => ∃ v, vs = [v] ∧ ((∃ i, v = .int i) ∧ Q (.bl true) H)
theorem cut63 (ns : List Int) : ∃ ms : List Int, cutV (ns.map V.int) none (some 63) = ms.map V.int := by
  unfold cutV
  exact ⟨(ns.drop _).take _, by rw [List.map_take, List.map_drop]⟩
theorem Dr.mono {U U' H H' : Hp} {s : Addr} (d : Dr U H s) (e : Same U U') (h : H' s = H s) (n : U' s = none) : Dr U' H' s := by
  obtain ⟨⟨l, ns, i, b, e', h1, h2, h3⟩, _⟩ := d
  exact ⟨⟨l, ns, i, b, e', by rw [h]; exact h1, e _ _ h2, h3⟩, n⟩
theorem Dr.some {U H : Hp} {s : Addr} (d : Dr U H s) : H s ≠ none := by
  obtain ⟨⟨l, ns, i, b, e', h1, _⟩, _⟩ := d
  rw [h1]
  intro z
  cases z
/-- a new thing that never changes; a new one that will -/
theorem Dr.new {U H : Hp} {s p : Addr} {o : HO} (d : Dr U H s) (n : H p = none) (e : Same U H) : Dr (upd U p o) (upd H p o) s := by
  have ne : s ≠ p := fun z => by
    subst z
    exact d.some n
  exact d.mono (same_new (e.free n)) (upd_ne ne) (by rw [upd_ne ne]; exact d.out)
theorem Dr.newM {U H : Hp} {s p : Addr} {o : HO} (d : Dr U H s) (n : H p = none) : Dr U (upd H p o) s := by
  have ne : s ≠ p := fun z => by
    subst z
    exact d.some n
  exact d.mono (Same.refl _) (upd_ne ne) d.out
theorem Dr.mut {U H : Hp} {s p : Addr} {o : HO} (d : Dr U H s) (ne : s ≠ p) : Dr U (upd H p o) s := d.mono (Same.refl _) (upd_ne ne) d.out
theorem same_both {U H : Hp} {p : Addr} {o : HO} (e : Same U H) : Same (upd U p o) (upd H p o) := fun a x h => by
  by_cases z : a = p
  · subst z
    rw [upd_same] at h ⊢
    exact h
  · rw [upd_ne z] at h ⊢
    exact e a x h
theorem same_seal {U H : Hp} {p : Addr} {o : HO} (e : Same U H) (h : H p = some o) : Same (upd U p o) H := fun a x k => by
  by_cases z : a = p
  · subst z
    rw [upd_same] at k
    rw [h]
    exact k
  · rw [upd_ne z] at k
    exact e a x k
theorem Dr.seal {U H : Hp} {s p : Addr} {o : HO} (d : Dr U H s) (n : U p = none) (ne : s ≠ p) : Dr (upd U p o) H s := d.mono (same_new n) rfl (by rw [upd_ne ne]; exact d.out)
/-- behind a call that leaves all as it was -/
theorem Dr.gr {M : List Addr} {U U' H H' : Hp} {s : Addr} (d : Dr U H s) (g : Gr M U H U' H') (m : s ∉ M) : Dr U' H' s := by
  obtain ⟨⟨l, ns, i, b, e', h1, h2, h3⟩, n⟩ := d
  exact ⟨⟨l, ns, i, b, e', g.hh _ _ m h1, g.vv _ _ h2, h3⟩, g.fr s n (by rw [h1]; intro z; cases z)⟩
/-! ### comprehensions whose element changes nothing; whose element draws -/
section
variable {σ : L2.St} {H : Hp} {K : PySem.W.Frag} {Q : VK} {tt : TT} {te : TE} {vs : List Nat} {a D : Addr} {j : Nat}
theorem sq_off {H H' : Hp} {a D : Addr} {xs : List V} (h : SqL K H a xs) (n : H D = none) (e : ∀ b, b ≠ D → H' b = H b) : SqL K H' a xs := by
  rcases h with (h | ⟨o, h⟩) | h
  · exact .inl (.inl (by rw [e a (ne_of_none h n)]; exact h))
  · exact .inl (.inr ⟨o, by rw [e a (ne_of_none h n)]; exact h⟩)
  · exact .inr h
theorem st_off {H H' : Hp} {a D : Addr} {xs : List V} (h : SqT K H a xs) (n : H D = none) (e : ∀ b, b ≠ D → H' b = H b) : SqT K H' a xs := by
  rcases h with (h | ⟨o, h⟩) | h
  · exact .inl (.inl (by rw [e a (ne_of_none h n)]; exact h))
  · exact .inl (.inr ⟨o, by rw [e a (ne_of_none h n)]; exact h⟩)
  · exact .inr h
theorem upd_id {H H' : Hp} {D : Addr} {o : HO} (h : H' D = some o) (e : ∀ b, b ≠ D → H' b = H b) : H' = upd H D o := by
  funext b
  by_cases z : b = D
  · subst z
    rw [upd_same, h]
  · rw [upd_ne z, e b z]
theorem take_filter {xs : List V} {p : V → Bool} {f : V → V} {i : Nat} {x : V} (h : xs[i]? = some x) : ((xs.take (i + 1)).filter p).map f = ((xs.take i).filter p).map f ++ (if p x = true then [f x] else []) := by
  rw [List.take_add_one, h, List.filter_append, List.map_append]
  by_cases hp : p x = true
  · simp [hp]
  · simp [hp]
theorem c_pure {xs : List V} (p : V → Bool) (f : V → V) (hl : SqL K H a xs) (hD : H D = none) (hn : xs.length ≤ 1000) (hw : ∀ v, wipe ((wipe σ vs).set j (some v)) vs = wipe σ vs)
    (ht : ∀ x ∈ xs, ∀ H', (∀ b, b ≠ D → H' b = H b) → ∀ R : Bool → Hp → Prop, R (p x) H' → tt ((wipe σ vs).set j (some x)) H' R)
    (he : ∀ x ∈ xs, p x = true → ∀ H', (∀ b, b ≠ D → H' b = H b) → ∀ R : VK, R (f x) H' → te ((wipe σ vs).set j (some x)) H' R)
    (q : Q (.ref D) (upd H D (.lst ((xs.filter p).map f)))) : COMP (Itl K a) (gName j) tt te vs σ H D Q := by
  refine c_lst (xs := xs) (fun i H' => (∀ b, b ≠ D → H' b = H b) ∧ H' D = some (.lst (((xs.take i).filter p).map f))) ⟨fun b z => upd_ne z, upd_same⟩ (fun i H' _ h => sq_off hl hD h.1) ?_ ?_
  · rintro i x H' ex ⟨e, h⟩
    refine ⟨hw x, ?_⟩
    have mx := List.mem_of_getElem? ex
    refine ht x mx H' e _ ?_
    by_cases hp : p x = true
    · rw [hp, if_pos rfl]
      refine he x mx hp H' e _ ⟨_, h, ?_, fun b z => by rw [upd_ne z]; exact e b z, ?_⟩
      · rw [List.length_map]
        exact small1000 (Nat.le_trans (List.length_filter_le _ _) (by rw [List.length_take]; omega))
      · rw [upd_same, take_filter ex, if_pos hp]
    · rw [if_neg hp]
      refine ⟨e, ?_⟩
      rw [h, take_filter ex, if_neg hp, List.append_nil]
  · rintro H' ⟨e, h⟩
    rw [List.take_length] at h
    rw [upd_id h e]
    exact q
theorem c_pureT {xs : List V} (p : V → Bool) (f : V → V) (hl : SqT K H a xs) (hD : H D = none) (hn : xs.length ≤ 1000) (hw : ∀ v, wipe ((wipe σ vs).set j (some v)) vs = wipe σ vs)
    (ht : ∀ x ∈ xs, ∀ H', (∀ b, b ≠ D → H' b = H b) → ∀ R : Bool → Hp → Prop, R (p x) H' → tt ((wipe σ vs).set j (some x)) H' R)
    (he : ∀ x ∈ xs, p x = true → ∀ H', (∀ b, b ≠ D → H' b = H b) → ∀ R : VK, R (f x) H' → te ((wipe σ vs).set j (some x)) H' R)
    (q : Q (.ref D) (upd H D (.lst ((xs.filter p).map f)))) : COMP (Itt K a) (gName j) tt te vs σ H D Q := by
  refine c_tup (xs := xs) (fun i H' => (∀ b, b ≠ D → H' b = H b) ∧ H' D = some (.lst (((xs.take i).filter p).map f))) ⟨fun b z => upd_ne z, upd_same⟩ (fun i H' _ h => st_off hl hD h.1) ?_ ?_
  · rintro i x H' ex ⟨e, h⟩
    refine ⟨hw x, ?_⟩
    have mx := List.mem_of_getElem? ex
    refine ht x mx H' e _ ?_
    by_cases hp : p x = true
    · rw [hp, if_pos rfl]
      refine he x mx hp H' e _ ⟨_, h, ?_, fun b z => by rw [upd_ne z]; exact e b z, ?_⟩
      · rw [List.length_map]
        exact small1000 (Nat.le_trans (List.length_filter_le _ _) (by rw [List.length_take]; omega))
      · rw [upd_same, take_filter ex, if_pos hp]
    · rw [if_neg hp]
      refine ⟨e, ?_⟩
      rw [h, take_filter ex, if_neg hp, List.append_nil]
  · rintro H' ⟨e, h⟩
    rw [List.take_length] at h
    rw [upd_id h e]
    exact q
theorem filter_yes (xs : List V) : xs.filter (fun _ => true) = xs := by
  induction xs with
  | nil => rfl
  | cons x r ih => simp
/-- [f x for x in xs] -/
theorem c_map {xs : List V} (f : V → V) (hl : SqL K H a xs) (hD : H D = none) (hn : xs.length ≤ 1000) (hw : ∀ v, wipe ((wipe σ vs).set j (some v)) vs = wipe σ vs)
    (he : ∀ x ∈ xs, ∀ H', (∀ b, b ≠ D → H' b = H b) → ∀ R : VK, R (f x) H' → te ((wipe σ vs).set j (some x)) H' R)
    (q : Q (.ref D) (upd H D (.lst (xs.map f)))) : COMP (Itl K a) (gName j) tYes te vs σ H D Q :=
  c_pure (fun _ => true) f hl hD hn hw (fun x _ H' _ R r => r) (fun x m _ H' e R r => he x m H' e R r) (by rw [filter_yes]; exact q)
theorem c_mapT {xs : List V} (f : V → V) (hl : SqT K H a xs) (hD : H D = none) (hn : xs.length ≤ 1000) (hw : ∀ v, wipe ((wipe σ vs).set j (some v)) vs = wipe σ vs)
    (he : ∀ x ∈ xs, ∀ H', (∀ b, b ≠ D → H' b = H b) → ∀ R : VK, R (f x) H' → te ((wipe σ vs).set j (some x)) H' R)
    (q : Q (.ref D) (upd H D (.lst (xs.map f)))) : COMP (Itt K a) (gName j) tYes te vs σ H D Q :=
  c_pureT (fun _ => true) f hl hD hn hw (fun x _ H' _ R r => r) (fun x m _ H' e R r => he x m H' e R r) (by rw [filter_yes]; exact q)
/-- [.. draws .. for k in range(n)]: ints that keep P -/
theorem c_draws {n : Nat} {lo : Int} {U : Hp} {s : Addr} (P : Int → Prop) (hn : n ≤ 1000) (hU : Same U H) (d : Dr U H s) (hD : H D = none) (hw : ∀ v, wipe ((wipe σ vs).set j (some v)) vs = wipe σ vs)
    (he : ∀ (i : Nat) H', Same U H' → Dr U H' s → ∀ R : VK, (∀ y H'', P y → Same U H'' → Dr U H'' s → (∀ b, b ≠ s → H'' b = H' b) → R (.int y) H'') → te ((wipe σ vs).set j (some (.int (lo + i)))) H' R)
    (hd : ∀ (ns : List Int) H', ns.length = n → (∀ y ∈ ns, P y) → Same U H' → Dr U H' s → U D = none → (∀ b, b ≠ s → b ≠ D → H' b = H b) → H' D = some (.lst (ns.map V.int)) → Q (.ref D) H') : COMP (Itr lo n) (gName j) tYes te vs σ H D Q := by
  have nU : U D = none := hU.free hD
  have sD : s ≠ D := fun z => by
    subst z
    exact d.some hD
  refine c_rng (fun i H' => ∃ ns : List Int, ns.length = i ∧ (∀ y ∈ ns, P y) ∧ Same U H' ∧ Dr U H' s ∧ (∀ b, b ≠ s → b ≠ D → H' b = H b) ∧ H' D = some (.lst (ns.map V.int))) ?_ ?_ ?_
  · exact ⟨[], rfl, fun y h => (by cases h), same_mut hU nU, d.newM hD, fun b _ z => upd_ne z, upd_same⟩
  · rintro i H' hi ⟨ns, e1, e2, e3, e4, e5, e6⟩
    refine ⟨hw _, ?_⟩
    refine i_yes (i_itT ?_)
    refine he i H' e3 e4 _ fun y H'' py h1 h2 h3 => ⟨_, (h3 D sD.symm).trans e6, by rw [List.length_map]; exact small1000 (by omega), ns ++ [y], by rw [List.length_append, e1]; rfl, ?_, same_mut h1 nU, h2.mut sD, ?_, ?_⟩
    · intro z hz
      rcases List.mem_append.mp hz with h | h
      · exact e2 z h
      · rw [List.mem_singleton.mp h]
        exact py
    · intro b z1 z2
      rw [upd_ne z2, h3 b z1]
      exact e5 b z1 z2
    · rw [upd_same, List.map_append]
      rfl
  · rintro H' ⟨ns, e1, e2, e3, e4, e5, e6⟩
    exact hd ns H' e1 e2 e3 e4 nU e5 e6
end
/-! ### lists of tuples that stand in H, their tuples in the view -/
abbrev Tups (U : Hp) (as : List Addr) (rows : List (List V)) : Prop := Paired (fun a r => U a = some (.tup r)) as rows
theorem Tups.mono {U U' : Hp} {as : List Addr} {rows : List (List V)} (e : Same U U') (h : Tups U as rows) : Tups U' as rows := Paired.imp (fun _ _ x => e _ _ x) h
theorem Paired.setAt {α β : Type} {F : α → β → Prop} {a : α} {b : β} (h : F a b) : ∀ {xs : List α} {ys : List β} (i : Nat), Paired F xs ys → Paired F (xs.set i a) (ys.set i b)
  | _, _, _, .nil => .nil
  | _, _, 0, .cons _ t => .cons h t
  | _, _, i + 1, .cons x t => .cons x (Paired.setAt h i t)
theorem Paired.erase {α β : Type} {F : α → β → Prop} : ∀ {xs : List α} {ys : List β} (i : Nat), Paired F xs ys → Paired F (xs.eraseIdx i) (ys.eraseIdx i)
  | _, _, _, .nil => .nil
  | _, _, 0, .cons _ t => t
  | _, _, i + 1, .cons x t => .cons x (Paired.erase i t)
theorem Tups.setAt {U : Hp} {as : List Addr} {rows : List (List V)} {a : Addr} {r : List V} (h : U a = some (.tup r)) (i : Nat) (hT : Tups U as rows) : Tups U (as.set i a) (rows.set i r) := Paired.setAt (F := fun a r => U a = some (.tup r)) h i hT
theorem Tups.erase {U : Hp} {as : List Addr} {rows : List (List V)} (i : Nat) (hT : Tups U as rows) : Tups U (as.eraseIdx i) (rows.eraseIdx i) := Paired.erase i hT
theorem Tups.snoc {U : Hp} {as : List Addr} {rows : List (List V)} {a : Addr} {r : List V} (h : U a = some (.tup r)) (hT : Tups U as rows) : Tups U (as ++ [a]) (rows ++ [r]) := Paired.snoc hT h
theorem map_erase {α β : Type} (f : α → β) : ∀ (xs : List α) (i : Nat), (xs.map f).eraseIdx i = (xs.eraseIdx i).map f
  | [], _ => rfl
  | _ :: _, 0 => rfl
  | x :: r, i + 1 => congrArg (f x :: ·) (map_erase f r i)
theorem ixN_of {n j : Nat} {k : Int} (e : k = (j : Int)) (h : j < n) : ixN n k = some j := by
  unfold ixN
  rw [e, if_pos (by omega), if_pos (by omega), Int.toNat_natCast]
theorem Tups.get {U : Hp} {as : List Addr} {rows : List (List V)} (h : Tups U as rows) {i : Nat} {r : List V} (e : rows[i]? = some r) : ∃ a, as[i]? = some a ∧ (as.map V.ref)[i]? = some (.ref a) ∧ U a = some (.tup r) := by
  obtain ⟨a, e1, e2⟩ := Paired.at h i r e
  exact ⟨a, e1, by rw [List.getElem?_map, e1]; rfl, e2⟩
section
variable {σ : L2.St} {H U : Hp} {K : PySem.W.Frag} {n bk ct : L2.St → Hp → Prop} {rt : VK} {tb : TS} {g : TG} {te : TE} {tt : TT} {vs : List Nat} {Q : VK} {p D : Addr} {rows : List (List V)} {as : List Addr}
theorem l_rows (h : Tups U as rows) (Pv : Nat → L2.St → Hp → Prop) (h0 : Pv 0 σ H) (hv : ∀ i σ H, Pv i σ H → Same U H ∧ SqL K H p (as.map V.ref))
    (hs : ∀ i r a σ H, rows[i]? = some r → H a = some (.tup r) → Pv i σ H → g (.ref a) σ H fun σ2 H2 => tb ⟨Pv (i + 1), rt, n, Pv (i + 1)⟩ σ2 H2) (hd : ∀ σ H, Pv rows.length σ H → n σ H) : LOOP (Itl K p) g tb ⟨n, rt, bk, ct⟩ σ H := by
  refine l_lst (xs := as.map V.ref) Pv h0 (fun i σ H _ q => (hv i σ H q).2) (fun i x σ H e q => ?_) (fun σ H q => hd σ H ?_)
  · rw [List.getElem?_map] at e
    cases ea : as[i]? with
    | none =>
      rw [ea] at e
      cases e
    | some a =>
      rw [ea] at e
      have e' := Option.some.inj e
      subst e'
      obtain ⟨r, er, hr⟩ := Paired.at' h i a ea
      exact hs i r a σ H er ((hv i σ H q).1 _ _ hr) q
  · rw [List.length_map, Paired.len h] at q
    exact q
theorem filter_snoc {α β : Type} {xs : List α} {p : α → Bool} {f : α → β} {i : Nat} {x : α} (h : xs[i]? = some x) : ((xs.take (i + 1)).filter p).map f = ((xs.take i).filter p).map f ++ (if p x = true then [f x] else []) := by
  rw [List.take_add_one, h, List.filter_append, List.map_append]
  by_cases hp : p x = true
  · simp [hp]
  · simp [hp]
/-- [e for .. in rows if t]: nothing but the new list changes -/
theorem c_rows (pr : List V → Bool) (f : List V → V) (h : Tups U as rows) (hU : Same U H) (hl : SqL K H p (as.map V.ref)) (hD : H D = none) (hn : rows.length ≤ 1000)
    (he : ∀ a r, r ∈ rows → U a = some (.tup r) → ∀ H', Same U H' → (∀ b, b ≠ D → H' b = H b) → ∀ (Rt : VK) (Rf : Hp → Prop), (pr r = true → Rt (f r) H') → (pr r = false → Rf H') → g (.ref a) (wipe σ vs) H' fun σ2 H2 => wipe σ2 vs = wipe σ vs ∧ tt σ2 H2 fun b H3 => if b = true then te σ2 H3 Rt else Rf H3)
    (q : Q (.ref D) (upd H D (.lst ((rows.filter pr).map f)))) : COMP (Itl K p) g tt te vs σ H D Q := by
  have nU := hU.free hD
  refine c_lst (xs := as.map V.ref) (fun i H' => (∀ b, b ≠ D → H' b = H b) ∧ H' D = some (.lst (((rows.take i).filter pr).map f))) ⟨fun b z => upd_ne z, upd_same⟩ (fun i H' _ h => sq_off hl hD h.1) ?_ ?_
  · rintro i x H' ex ⟨e, hd⟩
    rw [List.getElem?_map] at ex
    cases ea : as[i]? with
    | none =>
      rw [ea] at ex
      cases ex
    | some a =>
      rw [ea] at ex
      have e' := Option.some.inj ex
      subst e'
      obtain ⟨r, er, hr⟩ := Paired.at' h i a ea
      have mr := List.mem_of_getElem? er
      have sU : Same U H' := fun b o hb => by
        rw [e b (ne_of_none hb nU)]
        exact hU b o hb
      refine he a r mr hr H' sU e _ _ (fun hp => ⟨_, hd, ?_, fun b z => by rw [upd_ne z]; exact e b z, ?_⟩) fun hp => ⟨e, ?_⟩
      · rw [List.length_map]
        exact small1000 (Nat.le_trans (List.length_filter_le _ _) (by rw [List.length_take]; omega))
      · rw [upd_same, filter_snoc er, if_pos hp]
      · rw [hd, filter_snoc er, if_neg (by rw [hp]; exact Bool.false_ne_true), List.append_nil]
  · rintro H' ⟨e, hd⟩
    rw [List.length_map, Paired.len h, List.take_length] at hd
    rw [upd_id hd e]
    exact q
end
theorem Tups.dp {K : PySem.W.Frag} {U H : Hp} {p : Addr} {as : List Addr} {rows : List (List V)} (h2 : Tups U as rows) (e : Same U H) (h1 : SqL K H p (as.map V.ref)) (f : ∀ r ∈ rows, ∀ v ∈ r, Dp K H v (dV v)) : Dp K H (.ref p) (.list (rows.map fun r => .tuple (r.map dV))) := by
  refine .lst h1 ?_
  clear h1
  induction h2 with
  | nil => exact .nil
  | @cons a r as rows h t ih =>
    refine .cons (.tup (SqT.of (e _ _ h)) ?_) (ih fun x hx => f x (List.mem_cons_of_mem _ hx))
    have fr := f r List.mem_cons_self
    clear h ih t f
    induction r with
    | nil => exact .nil
    | cons v r ih => exact .cons (fr v List.mem_cons_self) (ih fun x hx => fr x (List.mem_cons_of_mem _ hx))
/-- triples of ints -/
def row3 (r : Int × Int × Int) : List V := [.int r.1, .int r.2.1, .int r.2.2]
theorem dp_row3 {K : PySem.W.Frag} {H : Hp} (rows : List (Int × Int × Int)) : ∀ r ∈ rows.map row3, ∀ v ∈ r, Dp K H v (dV v) := by
  intro r hr v hv
  obtain ⟨x, _, rfl⟩ := List.mem_map.mp hr
  unfold row3 at hv
  simp only [List.mem_cons, List.not_mem_nil, or_false] at hv
  rcases hv with rfl | rfl | rfl <;> exact .int _
theorem lay_row3 (rows : List (Int × Int × Int)) : Lay 8 (.list ((rows.map row3).map fun r => .tuple (r.map dV))) := by
  refine (lay_list (n := 1) fun x hx => ?_).up (by decide)
  obtain ⟨r, hr, rfl⟩ := List.mem_map.mp hx
  obtain ⟨y, _, rfl⟩ := List.mem_map.mp hr
  refine lay_tuple (n := 0) fun z hz => ?_
  obtain ⟨v, hv, rfl⟩ := List.mem_map.mp hz
  unfold row3 at hv
  simp only [List.mem_cons, List.not_mem_nil, or_false] at hv
  rcases hv with rfl | rfl | rfl <;> exact lay_int
theorem row3_at {rows : List (Int × Int × Int)} {i : Nat} {r : List V} (h : (rows.map row3)[i]? = some r) : ∃ x, rows[i]? = some x ∧ r = row3 x := by
  rw [List.getElem?_map] at h
  cases e : rows[i]? with
  | none =>
    rw [e] at h
    cases h
  | some x =>
    rw [e] at h
    exact ⟨x, rfl, (Option.some.inj h).symm⟩
theorem c_mapR {σ : L2.St} {H : Hp} {Q : VK} {te : TE} {vs : List Nat} {D : Addr} {j n : Nat} {lo : Int} (f : Nat → V) (hD : H D = none) (hn : n ≤ 1000) (hw : ∀ v, wipe ((wipe σ vs).set j (some v)) vs = wipe σ vs)
    (he : ∀ i, i < n → ∀ H', (∀ b, b ≠ D → H' b = H b) → ∀ R : VK, R (f i) H' → te ((wipe σ vs).set j (some (.int (lo + (i : Nat))))) H' R)
    (q : Q (.ref D) (upd H D (.lst ((List.range n).map f)))) : COMP (Itr lo n) (gName j) tYes te vs σ H D Q := by
  refine c_rng (fun i H' => (∀ b, b ≠ D → H' b = H b) ∧ H' D = some (.lst ((List.range i).map f))) ⟨fun b z => upd_ne z, upd_same⟩ ?_ ?_
  · rintro i H' hi ⟨e, h⟩
    refine ⟨hw _, i_yes (i_itT ?_)⟩
    refine he i hi H' e _ ⟨_, h, by rw [List.length_map, List.length_range]; exact small1000 (by omega), fun b z => by rw [upd_ne z]; exact e b z, ?_⟩
    rw [upd_same, List.range_succ, List.map_append]
    rfl
  · rintro H' ⟨e, h⟩
    rw [upd_id h e]
    exact q
theorem cut_mid (xs : List V) (h : 2 ≤ xs.length) : cutV xs (some 1) (some (-1)) = (xs.drop 1).take (xs.length - 2) := by
  unfold cutV
  rw [show HT.sIx xs.length 0 (some 1) = min 1 xs.length from HT.sIx_nat xs.length 0 1]
  have e : HT.sIx xs.length xs.length (some (-1)) = xs.length - 1 := by
    show (if (-1 : Int) < 0 then ((-1 : Int) + (xs.length : Int)).toNat else min (-1 : Int).toNat xs.length) = xs.length - 1
    rw [if_pos (by decide)]
    omega
  rw [e, Nat.min_eq_left (by omega)]
  rfl
theorem at_last {xs : List V} {v : V} (h : xs[xs.length - 1]? = some v) (h0 : 0 < xs.length) : atI xs (-1) = some v := by
  unfold atI ixN
  rw [if_neg (by decide), if_pos (by omega)]
  have e : (-1 + (xs.length : Int)).toNat = xs.length - 1 := by omega
  rw [e]
  exact h
/-- two rising lists of the same numbers are one -/
theorem rising_eq {a b : List Int} (hp : a.Perm b) (ha : a.Pairwise (· ≤ ·)) (hb : b.Pairwise (· ≤ ·)) : a = b := hp.eq_of_pairwise (fun x y _ _ h1 h2 => Int.le_antisymm h1 h2) ha hb
/-- the middle of what was heard -/
def spMid : Sp := fun vs H Q _ => ∃ (a : Addr) (ns : List Int), vs = [.ref a] ∧ H a = some (.lst (ns.map V.int)) ∧ 3 ≤ ns.length ∧ ns.length < 60 ∧
  ∀ (s : List Int) (x y : Int) (H' : Hp), s.Perm ns → s.Pairwise (· ≤ ·) → s[1]? = some x → s[ns.length - 2]? = some y → Same H H' → Q (.int ((x + y) / 2)) H'
/-! ### comprehensions whose element makes new things -/
section
variable {σ : L2.St} {H : Hp} {K : PySem.W.Frag} {Q : VK} {te : TE} {vs : List Nat} {a D : Addr} {j : Nat}
theorem c_growT {xs : List V} (f : V → V) (hl : SqT K H a xs) (hD : H D = none) (hn : xs.length ≤ 1000) (hw : ∀ v, wipe ((wipe σ vs).set j (some v)) vs = wipe σ vs)
    (he : ∀ x ∈ xs, ∀ H', Same H H' → ∀ R : VK, (∀ H'', Same H' H'' → R (f x) H'') → te ((wipe σ vs).set j (some x)) H' R)
    (q : ∀ H', Same H H' → H' D = some (.lst (xs.map f)) → Q (.ref D) H') : COMP (Itt K a) (gName j) tYes te vs σ H D Q := by
  refine c_tup (xs := xs) (fun i H' => Same H H' ∧ H' D = some (.lst ((xs.take i).map f))) ⟨same_new hD, upd_same⟩ (fun i H' _ h => ?_) ?_ ?_
  · rcases hl with (h1 | ⟨o, h1⟩) | h1
    · exact .inl (.inl (h.1 _ _ h1))
    · exact .inl (.inr ⟨o, h.1 _ _ h1⟩)
    · exact .inr h1
  · rintro i x H' ex ⟨e, h⟩
    refine ⟨hw x, i_yes (i_itT ?_)⟩
    refine he x (List.mem_of_getElem? ex) H' e _ fun H'' s => ⟨_, s _ _ h, ?_, same_mut (e.trans s) hD, ?_⟩
    · rw [List.length_map, List.length_take]
      exact small1000 (by omega)
    · rw [upd_same, List.take_add_one, ex, List.map_append]
      rfl
  · rintro H' ⟨e, h⟩
    rw [List.take_length] at h
    exact q H' e h
theorem c_growL {xs : List V} (f : V → V) (hl : SqL K H a xs) (hD : H D = none) (hn : xs.length ≤ 1000) (hw : ∀ v, wipe ((wipe σ vs).set j (some v)) vs = wipe σ vs)
    (he : ∀ x ∈ xs, ∀ H', Same H H' → ∀ R : VK, (∀ H'', Same H' H'' → R (f x) H'') → te ((wipe σ vs).set j (some x)) H' R)
    (q : ∀ H', Same H H' → H' D = some (.lst (xs.map f)) → Q (.ref D) H') : COMP (Itl K a) (gName j) tYes te vs σ H D Q := by
  refine c_lst (xs := xs) (fun i H' => Same H H' ∧ H' D = some (.lst ((xs.take i).map f))) ⟨same_new hD, upd_same⟩ (fun i H' _ h => h.1.seq hl) ?_ ?_
  · rintro i x H' ex ⟨e, h⟩
    refine ⟨hw x, i_yes (i_itT ?_)⟩
    refine he x (List.mem_of_getElem? ex) H' e _ fun H'' s => ⟨_, s _ _ h, ?_, same_mut (e.trans s) hD, ?_⟩
    · rw [List.length_map, List.length_take]
      exact small1000 (by omega)
    · rw [upd_same, List.take_add_one, ex, List.map_append]
      rfl
  · rintro H' ⟨e, h⟩
    rw [List.take_length] at h
    exact q H' e h
end
end SW

open PySem L2 SW
local macro_rules | `(tactic| walk_at "sw1") => `(tactic| first
  | with_reducible refine i_seq ?_
  | with_reducible refine i_set ?_
  | with_reducible refine i_asg ?_
  | with_reducible refine i_var rfl ?_
  | with_reducible refine i_c ?_
  | with_reducible refine i_op ?_
  | with_reducible refine i_rI0 ?_
  | with_reducible refine i_cons ?_
  | with_reducible refine i_nil ?_
  | with_reducible refine i_call ?_
  | with_reducible refine i_cb ?_
  | with_reducible refine i_if ?_
  | with_reducible refine i_test ?_
  | with_reducible refine i_B ?_
  | with_reducible refine i_bl ?_
  | with_reducible refine i_blV ?_
  | with_reducible refine i_itT ?_
  | with_reducible refine i_itF ?_
  | with_reducible refine i_iteNT ?_
  | with_reducible refine i_iteNF ?_
  | with_reducible refine i_iteNN ?_
  | with_reducible refine i_ret ?_
  | with_reducible refine i_drop ?_
  | with_reducible refine i_next ?_
  | with_reducible refine i_un ?_
  | with_reducible refine i_rU ?_
  | with_reducible refine i_eqI ?_
  | with_reducible refine i_neI ?_
  | with_reducible refine i_eqS ?_
  | with_reducible refine i_neS ?_
  | with_reducible refine i_not ?_
  | with_reducible refine i_and ?_
  | with_reducible refine i_or ?_
  | with_reducible refine i_andV ?_
  | with_reducible refine i_orV ?_
  | with_reducible refine i_notV ?_
  | with_reducible refine i_ifE ?_
  | with_reducible refine i_chain ?_
  | with_reducible refine i_sub ?_
  | with_reducible refine i_lst ?_
  | with_reducible refine i_tup ?_
  | with_reducible refine i_for1 ?_
  | with_reducible refine i_for2 ?_
  | with_reducible refine i_for3 ?_
  | with_reducible refine i_forL ?_
  | with_reducible refine i_forT ?_
  | with_reducible refine i_lc1 ?_
  | with_reducible refine i_lc2 ?_
  | with_reducible refine i_lcL ?_
  | with_reducible refine i_lcT ?_
  | with_reducible refine i_gname ?_
  | with_reducible refine i_yes ?_
  | with_reducible refine i_callN ?_
  | with_reducible refine i_par ?_
  | with_reducible refine i_sl ?_
  | with_reducible refine i_nopart ?_
  | with_reducible refine i_part ?_
  | with_reducible refine i_partE ?_
  | with_reducible refine i_parE ?_
  | with_reducible refine i_ipI ?_
  | with_reducible refine i_asg2 ?_
  | with_reducible refine i_gcons ?_
  | with_reducible refine i_gnil ?_
  | with_reducible refine i_retN ?_
  | with_reducible refine i_brk ?_
  | with_reducible refine i_cont ?_)
local macro_rules | `(tactic| walk_at "hp") => `(tactic| first | assumption | exact upd_same | (refine upd_get (by assumption) ?_; walk_at "hp") | ((rw [upd_ne (by assumption)]); walk_at "hp"))
local macro_rules | `(tactic| walk_at "cc") => `(tactic| first | omega | decide | exact ⟨by decide, by decide⟩ | exact ⟨by omega, by omega⟩ | exact ⟨by decide, by decide, by decide⟩ | exact Or.inr ⟨by decide, by decide⟩ | exact Or.inl ⟨by decide, by decide⟩ | exact Or.inr ⟨by omega, by omega⟩ | exact Or.inl ⟨by omega, by omega⟩ | assumption)
local macro_rules | `(tactic| walk_at "sw2") => `(tactic| first
  | walk_at "sw1"
  | ((with_reducible refine' i_rI ?c1 ?_); (case c1 => (dsimp only; walk_at "cc")))
  | ((with_reducible refine' i_rI ?c1 ?_); (case c1 => (walk_at "cc")))
  | ((with_reducible refine' i_ixL ?c1 ?c2 ?_); (case c1 => walk_at "hp"); (case c2 => exact rfl))
  | ((with_reducible refine' i_ixT ?c1 ?c2 ?_); (case c1 => walk_at "hp"); (case c2 => exact rfl))
  | with_reducible refine i_isI ?_
  | with_reducible refine i_isB ?_
  | with_reducible refine i_isBB ?_
  | ((with_reducible refine' i_isL ?c1 ?_); (case c1 => walk_at "hp"))
  | ((with_reducible refine' i_isT ?c1 ?_); (case c1 => walk_at "hp"))
  | ((with_reducible refine' i_setL ?c1 ?c2 ?_); (case c1 => walk_at "hp"); (case c2 => exact rfl))
  | ((with_reducible refine' i_rI ?c1 ?_); (case c1 => first | (apply_assumption; done) | exact wide_div (b := 200) (by omega) (by omega) (by decide) (by decide)))
  | ((with_reducible refine' Exists.intro _ (Exists.intro _ (And.intro rfl (And.intro (Or.inl (SqL.of ?c1)) ?_)))); (case c1 => walk_at "hp"))
  | ((with_reducible refine' Exists.intro _ (Exists.intro _ (And.intro rfl (And.intro (Or.inr (SqT.of ?c1)) ?_)))); (case c1 => walk_at "hp"))
  | ((with_reducible refine' Exists.intro _ (And.intro (rfl : [V.int _] = [V.int _]) ?_)))
  | ((with_reducible refine' Exists.intro _ (Exists.intro _ (And.intro (rfl : [V.int _, V.int _] = [V.int _, V.int _]) ?_))))
  | (with_reducible refine And.intro (Nat.le_of_ble_eq_true rfl : List.length _ ≤ sizeLine) ?_))
local macro_rules | `(tactic| walk_at "sw3") => `(tactic| first
  | walk_at "sw2"
  | ((with_reducible refine' i_aug ?c1 ?_); (case c1 => exact rfl))
  | with_reducible refine And.intro (rfl : V.non = V.non) ?_
  | with_reducible refine i_bm ?_
  | with_reducible refine i_bm0 ?_
  | ((with_reducible refine' i_lenL ?c1 ?_); (case c1 => walk_at "hp"))
  | ((with_reducible refine' i_lenT ?c1 ?_); (case c1 => walk_at "hp"))
  | ((with_reducible refine' i_listL ?c1 ?_); (case c1 => walk_at "hp"))
  | ((with_reducible refine' i_listT ?c1 ?_); (case c1 => walk_at "hp"))
  | ((with_reducible refine' i_tupleL ?c1 ?_); (case c1 => walk_at "hp"))
  | ((with_reducible refine' i_tupleT ?c1 ?_); (case c1 => walk_at "hp"))
  | ((with_reducible refine' i_tyL ?c1 ?_); (case c1 => walk_at "hp"))
  | ((with_reducible refine' i_app ?c1 ?c2 ?_); (case c1 => walk_at "hp"); (case c2 => first | assumption | omega | (simp; done) | ((simp only [List.length_map, List.length_append, List.length_take]); omega)))
  | ((with_reducible refine' i_slL ?c1 ?_); (case c1 => walk_at "hp"))
  | ((with_reducible refine' i_gtup ?c1 ?c2 ?_); (case c1 => walk_at "hp"); (case c2 => exact rfl)))
local macro_rules | `(tactic| walk_at "sw") => `(tactic| ((try dsimp only); repeat walk_at "sw3"))

namespace SW
open PySem L2
def top (i : Nat) : Stmt := PySem.Challenge.pw_slotwright_k44_three_are_parted.main.body.getD i (.Pass ⟨0, 0, 0, 0⟩)
abbrev s_parted : Stmt := top 1
abbrev s_law_start : Stmt := top 3
abbrev s_law_draw : Stmt := top 4
abbrev s_law_whole : Stmt := top 5
abbrev s_law_middle : Stmt := top 6
abbrev s_law_side : Stmt := top 7
abbrev s_law : Stmt := top 8
theorem sc_parted : FnScope ["turns", "err", "gain", "found", "top", "turn", "low", "high"] ["turns", "err", "gain"] (defScope s_parted) := ⟨rfl, rfl, rfl, by decide +kernel, rfl, by decide +kernel, by decide +kernel⟩
theorem sc_law_start : FnScope ["_law_script"] ["_law_script"] (defScope s_law_start) := ⟨rfl, rfl, rfl, by decide +kernel, rfl, by decide +kernel, by decide +kernel⟩
theorem sc_law_draw : FnScope ["_law_s", "_law_many", "_law_cell", "_law_found"] ["_law_s", "_law_many"] (defScope s_law_draw) := ⟨rfl, rfl, rfl, by decide +kernel, rfl, by decide +kernel, by decide +kernel⟩
theorem sc_law_whole : FnScope ["_law_x"] ["_law_x"] (defScope s_law_whole) := ⟨rfl, rfl, rfl, by decide +kernel, rfl, by decide +kernel, by decide +kernel⟩
theorem sc_law_middle : FnScope ["_law_words", "_law_rest", "_law_word"] ["_law_words"] (defScope s_law_middle) := ⟨rfl, rfl, rfl, by decide +kernel, rfl, by decide +kernel, by decide +kernel⟩
theorem sc_law_side : FnScope ["_law_side_here", "_law_stands", "_law_fault", "_law_more", "_law_word", "_law_at"] ["_law_side_here", "_law_stands", "_law_fault", "_law_more"] (defScope s_law_side) := ⟨rfl, rfl, rfl, by decide +kernel, rfl, by decide +kernel, by decide +kernel⟩
theorem sc_law : FnScope ["_law_script", "_law_s", "_law_many", "_law_fault", "_law_more", "_law_way", "_law_found", "_law_stands", "_law_turn", "_law_side_here"] ["_law_script"] (defScope s_law) := ⟨rfl, rfl, rfl, by decide +kernel, rfl, by decide +kernel, by decide +kernel⟩
structure Tx (K : PySem.W.Frag) (mg : Str → Option Value) where
  f_parted : Addr
  fd_parted : FuncData
  F_parted : Fun K "parted" "parted" s_parted f_parted fd_parted
  D_parted : FunD K "parted" "parted" (defArgs s_parted) (defBody s_parted) (defScope s_parted) [] [("err", V.int 0), ("gain", V.int 1)] f_parted fd_parted
  g_parted : mg "parted" = some (.ref f_parted)
  f_law_start : Addr
  fd_law_start : FuncData
  F_law_start : Fun K "_law_start" "_law_start" s_law_start f_law_start fd_law_start
  b_law_start : Binds K fd_law_start ["_law_script"] []
  g_law_start : mg "_law_start" = some (.ref f_law_start)
  f_law_draw : Addr
  fd_law_draw : FuncData
  F_law_draw : Fun K "_law_draw" "_law_draw" s_law_draw f_law_draw fd_law_draw
  b_law_draw : Binds K fd_law_draw ["_law_s", "_law_many"] []
  g_law_draw : mg "_law_draw" = some (.ref f_law_draw)
  f_law_whole : Addr
  fd_law_whole : FuncData
  F_law_whole : Fun K "_law_whole" "_law_whole" s_law_whole f_law_whole fd_law_whole
  b_law_whole : Binds K fd_law_whole ["_law_x"] []
  g_law_whole : mg "_law_whole" = some (.ref f_law_whole)
  f_law_middle : Addr
  fd_law_middle : FuncData
  F_law_middle : Fun K "_law_middle" "_law_middle" s_law_middle f_law_middle fd_law_middle
  b_law_middle : Binds K fd_law_middle ["_law_words"] []
  g_law_middle : mg "_law_middle" = some (.ref f_law_middle)
  f_law_side : Addr
  fd_law_side : FuncData
  F_law_side : Fun K "_law_side" "_law_side" s_law_side f_law_side fd_law_side
  b_law_side : Binds K fd_law_side ["_law_side_here", "_law_stands", "_law_fault", "_law_more"] []
  g_law_side : mg "_law_side" = some (.ref f_law_side)
  f_law : Addr
  fd_law : FuncData
  F_law : Fun K "law" "law" s_law f_law fd_law
  b_law : Binds K fd_law ["_law_script"] []
  g_law : mg "law" = some (.ref f_law)
  z_abs : mg "abs" = none
  z_all : mg "all" = none
  z_bool : mg "bool" = none
  z_int : mg "int" = none
  z_isinstance : mg "isinstance" = none
  z_len : mg "len" = none
  z_list : mg "list" = none
  z_range : mg "range" = none
  z_sorted : mg "sorted" = none
  z_tuple : mg "tuple" = none
theorem kb_parted {K : PySem.W.Frag} {mg : Str → Option Value} (T : Tx K mg) : ∃ ds, Vals [V.int 0, V.int 1] ds ∧ Binds K T.fd_parted ["turns", "err", "gain"] ds :=
  T.D_parted.binds0 1 (by intro z; cases z) rfl (fun D doc pm an cdv ct us ks h1 h2 => by
    match us, h1, ks, h2 with
    | [_], _, [_, _], _ => exact ⟨_, _, _, _, _, _, rfl, rfl, ⟨_, _, _, _, _, _, rfl, rfl, rfl⟩⟩)
theorem kb_parted_gain {K : PySem.W.Frag} {mg : Str → Option Value} (T : Tx K mg) : ∃ mv : List Value, KBn K T.fd_parted ["turns", "err", "gain"] 1 ["gain"] (fun us ws => us ++ (((mv.drop 0).take 1) ++ ((ws.drop 0).take 1))) (fun vs zs => vs ++ ((([V.int 0].drop 0).take 1) ++ ((zs.drop 0).take 1))) :=
  T.D_parted.kbinds0 1 ["gain"] [("err", V.int 0)] (fun vs mz zs => vs ++ (((mz.drop 0).take 1) ++ ((zs.drop 0).take 1))) (by intro z; cases z) (fun q h => by simp at h ⊢; try (rcases h with rfl | rfl | rfl | rfl <;> simp); try (subst h; simp)) (fun a b c => a.append (((b.drop 0).take 1).append ((c.drop 0).take 1))) (fun D doc pm an cdv ct us mv ws h1 h2 h3 => by
    match us, h1, mv, h2, ws, h3 with
    | [_], _, [_], _, [_], _ => exact ⟨_, _, _, _, _, _, rfl, rfl, rfl⟩)
theorem kb_parted_err {K : PySem.W.Frag} {mg : Str → Option Value} (T : Tx K mg) : ∃ mv : List Value, KBn K T.fd_parted ["turns", "err", "gain"] 1 ["err"] (fun us ws => us ++ (((ws.drop 0).take 1) ++ ((mv.drop 0).take 1))) (fun vs zs => vs ++ (((zs.drop 0).take 1) ++ (([V.int 1].drop 0).take 1))) :=
  T.D_parted.kbinds0 1 ["err"] [("gain", V.int 1)] (fun vs mz zs => vs ++ (((zs.drop 0).take 1) ++ ((mz.drop 0).take 1))) (by intro z; cases z) (fun q h => by simp at h ⊢; try (rcases h with rfl | rfl | rfl | rfl <;> simp); try (subst h; simp)) (fun a b c => a.append (((c.drop 0).take 1).append ((b.drop 0).take 1))) (fun D doc pm an cdv ct us mv ws h1 h2 h3 => by
    match us, h1, mv, h2, ws, h3 with
    | [_], _, [_], _, [_], _ => exact ⟨_, _, _, _, _, _, rfl, rfl, rfl⟩)
theorem kb_parted_gain_err {K : PySem.W.Frag} {mg : Str → Option Value} (T : Tx K mg) : ∃ mv : List Value, KBn K T.fd_parted ["turns", "err", "gain"] 1 ["gain", "err"] (fun us ws => us ++ (((ws.drop 1).take 1) ++ ((ws.drop 0).take 1))) (fun vs zs => vs ++ (((zs.drop 1).take 1) ++ ((zs.drop 0).take 1))) :=
  T.D_parted.kbinds0 1 ["gain", "err"] [] (fun vs mz zs => vs ++ (((zs.drop 1).take 1) ++ ((zs.drop 0).take 1))) (by intro z; cases z) (fun q h => by simp at h ⊢; try (rcases h with rfl | rfl | rfl | rfl <;> simp); try (subst h; simp)) (fun a b c => a.append (((c.drop 1).take 1).append ((c.drop 0).take 1))) (fun D doc pm an cdv ct us mv ws h1 h2 h3 => by
    match us, h1, mv, h2, ws, h3 with
    | [_], _, [], _, [_, _], _ => exact rfl)
def spLaw (K : PySem.W.Frag) : Sp := fun vs H Q _ => ∃ (a : Addr) (ns : List Int), vs = [.ref a] ∧ SqL K H a (ns.map V.int) ∧ ns.length ≤ 63 ∧ (∀ z ∈ ns, Builtin.Int.intBits z ≤ 1048576) ∧ ∀ H', Q (.bl true) H'
section
variable {P : Program} {w : World} {K : PySem.W.Frag} {mg : Str → Option Value} {base : Heap}
theorem ok_law_start (T : Tx K mg) : FnOk P w K mg base CX0 1 T.f_law_start T.fd_law_start ["_law_script"] (spStart K) := by
  refine T.F_law_start.ok sc_law_start (fun vs H Q E h => ?_) (fun cdv A outer s H vs Q E hr h => ?_)
  · obtain ⟨a, ns, U, rfl, _⟩ := h
    rfl
  · obtain ⟨a, ns, U, rfl, hS, hU, q⟩ := h
    refine ⟨_, (pss_one (ps_ret (pe_lst (pa_cons (pe_callTy (call_listK (K := K) rfl) (by rfl) T.z_list bt_list (pa_cons (pe_slice (sl_listK (K := K) rfl) (pv 0) po_none (po_some pe_int)) pa_nil)) (pa_cons pe_int (pa_cons pe_int (pa_cons pe_int pa_nil))))))), ?_⟩
    walk_at "sw"
    refine ⟨a, _, rfl, hS, fun c nc => ?_⟩
    obtain ⟨ms, em⟩ := cut63 ns
    rw [em]
    have g1 : Gr [] U H U (upd H c (.lst (ms.map V.int))) := (Gr.refl hU).newM nc
    walk_at "sw"
    intro l nl
    have g2 := g1.new (o := .lst (ms.map V.int)) nl
    walk_at "sw"
    intro s ns'
    have g3 := g2.newM (o := .lst [.ref l, .int 0, .int 0, .int 90210]) ns'
    refine q s _ _ g3 ⟨⟨l, ms, 0, 0, 90210, upd_same, upd_same, Int.le_refl _, by omega, Int.le_refl _⟩, g2.vh.free ns'⟩ (g2.fresh ns')
theorem ok_law_draw (T : Tx K mg) : FnOk P w K mg base CX0 1 T.f_law_draw T.fd_law_draw ["_law_s", "_law_many"] spDraw := by
  refine T.F_law_draw.ok sc_law_draw (fun vs H Q E h => ?_) (fun cdv A outer s0 H vs Q E hr h => ?_)
  · obtain ⟨s, many, U, rfl, _⟩ := h
    rfl
  · obtain ⟨s, many, U, rfl, h0, h2, hU, D, q⟩ := h
    obtain ⟨⟨l, ns, i, b, e, hs, hl, hi, hi2, hb⟩, hn⟩ := D
    have hlU := hU _ _ hl
    have sl : s ≠ l := fun z => by
      subst z
      rw [hn] at hl
      cases hl
    refine ⟨_, (pss_cons (ps_if (pt_cmpR op_eq (pe_ix (ix_listK (K := K) rfl) (pv 0) pe_int (fun _ _ => rfl)) pe_int (nomark _))
      (pss_cons (ps_set (i := 2) sc_law_draw.nd rfl (Or.inl rfl) pe_int)
      (pss_cons (ps_if (pt_cmpR op_lt (pe_ix (ix_listK (K := K) rfl) (pv 0) pe_int (fun _ _ => rfl)) (pe_callB (call_lenK (K := K) rfl) (by rfl) T.z_len bt_len (pa_cons (pe_ix (ix_listK (K := K) rfl) (pv 0) pe_int (fun _ _ => rfl)) pa_nil)) (nomark _))
      (pss_cons (ps_set (i := 2) sc_law_draw.nd rfl (Or.inl rfl) (pe_ix (ix_listK (K := K) rfl) (pe_ix (ix_listK (K := K) rfl) (pv 0) pe_int (fun _ _ => rfl)) (pe_ix (ix_listK (K := K) rfl) (pv 0) pe_int (fun _ _ => rfl)) (fun _ _ => rfl)))
      (pss_one (ps_asg (pe_op op_add (pe_ix (ix_listK (K := K) rfl) (pv 0) pe_int (fun _ _ => rfl)) pe_int) (pg_sub (pv 0) pe_int set_list))))
      pss_nil)
      (pss_one (ps_if ((pw_or (pt_cmpR op_ge (pv 2) (pe_op op_pow pe_int pe_int) (nomark _)) (pw_or1 (pt_cmpR op_le (pv 2) (pe_un un_neg (pe_op op_pow pe_int pe_int)) (nomark _))))).pt
      (pss_one (ps_asg (pe_callB call_abs (by rfl) T.z_abs bt_abs (pa_cons (pv 2) pa_nil)) (pg_sub (pv 0) pe_int set_list)))
      (pss_cons (ps_asg (pe_op op_mod (pe_op op_add (pe_op op_add (pe_op op_mul (pe_ix (ix_listK (K := K) rfl) (pv 0) pe_int (fun _ _ => rfl)) pe_int) (pe_op op_mod (pv 2) pe_int)) pe_int) pe_int) (pg_sub (pv 0) pe_int set_list))
      (pss_one (ps_ret (pe_op op_mod (pe_op op_fdiv (pe_ix (ix_listK (K := K) rfl) (pv 0) pe_int (fun _ _ => rfl)) pe_int) (pv 1)))))))))
      pss_nil)
      (pss_cons (ps_set (i := 3) sc_law_draw.nd rfl (Or.inl rfl) (pe_op op_mod (pe_ix (ix_listK (K := K) rfl) (pv 0) pe_int (fun _ _ => rfl)) (pv 1)))
      (pss_cons (ps_asg (pe_op op_fdivW (pe_ix (ix_listK (K := K) rfl) (pv 0) pe_int (fun _ _ => rfl)) (pv 1)) (pg_sub (pv 0) pe_int set_list))
      (pss_one (ps_ret (pv 3)))))), ?_⟩
    have w3 : ∀ z : Int, CDivW z many := fun z => wide_div h0 (b := 200) (by omega) (by decide) (by decide)
    -- the end, from a heap that has changed at s alone
    have fin : ∀ (H1 : Hp) (i1 b1 e1 : Int) (r : Int), (∀ a, a ≠ s → H1 a = H a) → H1 s = some (.lst [.ref l, .int i1, .int b1, .int e1]) → 0 ≤ i1 → i1 ≤ ns.length → 0 ≤ b1 → 0 ≤ r → r < many → Q (.int r) H1 := by
      intro H1 i1 b1 e1 r ho h1 a1 a2 a3 a4 a5
      refine q r H1 a4 a5 (fun a o ha => ?_) ⟨⟨l, ns, i1, b1, e1, h1, hl, a1, a2, a3⟩, hn⟩ ho
      have ne : a ≠ s := fun z => by
        subst z
        rw [hn] at ha
        cases ha
      rw [ho a ne]
      exact hU a o ha
    have tail : ∀ (H1 : Hp) (i1 b1 e1 : Int), (∀ a, a ≠ s → H1 a = H a) → H1 s = some (.lst [.ref l, .int i1, .int b1, .int e1]) → 0 ≤ i1 → i1 ≤ ns.length → 0 ≤ b1 →
        Q (.int (b1 % many)) (upd H1 s (.lst [.ref l, .int i1, .int (b1 / many), .int e1])) := by
      intro H1 i1 b1 e1 ho h1 a1 a2 a3
      refine fin _ i1 (b1 / many) e1 _ (fun a ne => ?_) upd_same a1 a2 (Int.ediv_nonneg a3 (by omega)) (Int.emod_nonneg _ (by omega)) (Int.emod_lt_of_pos _ h0)
      rw [upd_ne ne]
      exact ho a ne
    have ab : ∀ c : Int, 0 ≤ (if c < 0 then -c else c) := fun c => by split <;> omega
    have md : ∀ c : Int, 0 ≤ c % many ∧ c % many < many := fun c => ⟨Int.emod_nonneg _ (by omega), Int.emod_lt_of_pos _ h0⟩
    have un : ∀ (o : HO) (a : Addr), a ≠ s → upd H s o a = H a := fun o a ne => upd_ne ne
    have un2 : ∀ (o o' : HO) (a : Addr), a ≠ s → upd (upd H s o) s o' a = H a := fun o o' a ne => by rw [upd_ne ne, upd_ne ne]
    walk_at "sw"
    refine i_ite (fun h => ?_) (fun h => ?_)
    · walk_at "sw"
      refine i_ite (fun h => ?_) (fun h => ?_)
      · obtain ⟨j, rfl⟩ : ∃ j : Nat, i = (j : Int) := ⟨i.toNat, by omega⟩
        rw [List.length_map] at h
        have hj : j < ns.length := by omega
        walk_at "sw"
        refine i_ixL hlU (at_of (j := j) (v := V.int ns[j]) rfl (by rw [List.getElem?_map, List.getElem?_eq_getElem hj]; rfl)) ?_
        walk_at "sw"
        refine i_ite (fun h => ?_) (fun h => ?_)
        · walk_at "sw"
          exact tail _ (j + 1) _ e (un2 _ _) upd_same (by omega) (by omega) (ab _)
        · walk_at "sw"
          refine i_ite (fun h => ?_) (fun h => ?_)
          · walk_at "sw"
            exact tail _ (j + 1) _ e (un2 _ _) upd_same (by omega) (by omega) (ab _)
          · walk_at "sw"
            exact fin _ (j + 1) b _ _ (un2 _ _) upd_same (by omega) (by omega) hb (md _).1 (md _).2
      · walk_at "sw"
        refine i_ite (fun h => ?_) (fun h => ?_)
        · walk_at "sw"
          exact tail _ i _ e (un _) upd_same hi hi2 (ab _)
        · walk_at "sw"
          refine i_ite (fun h => ?_) (fun h => ?_)
          · walk_at "sw"
            exact tail _ i _ e (un _) upd_same hi hi2 (ab _)
          · walk_at "sw"
            exact fin _ i b _ _ (un _) upd_same hi hi2 hb (md _).1 (md _).2
    · walk_at "sw"
      exact tail H i b e (fun a _ => rfl) hs hi hi2 hb

theorem ok_law_whole (T : Tx K mg) : FnOk P w K mg base CX0 1 T.f_law_whole T.fd_law_whole ["_law_x"] spWhole := by
  refine T.F_law_whole.ok sc_law_whole (fun vs H Q E h => ?_) (fun cdv A outer s H vs Q E hr h => ?_)
  · obtain ⟨v, rfl, _⟩ := h
    rfl
  · obtain ⟨v, rfl, ⟨i, rfl⟩, q⟩ := h
    refine ⟨_, (pss_one (ps_ret (pe_and (pe_callB (call_isiKK (K := K) rfl) (by rfl) T.z_isinstance bt_isinstance (pa_cons (pv 0) (pa_cons (pe_bltn (v := .ty "int") (by rfl) T.z_int bt_int rfl) pa_nil))) (pe_one (pe_not (pe_callB (call_isiKK (K := K) rfl) (by rfl) T.z_isinstance bt_isinstance (pa_cons (pv 0) (pa_cons (pe_bltn (v := .ty "bool") (by rfl) T.z_bool bt_bool rfl) pa_nil)))))))), ?_⟩
    walk_at "sw"
    exact q

theorem ok_law_middle (T : Tx K mg) : FnOk P w K mg base CX0 1 T.f_law_middle T.fd_law_middle ["_law_words"] spMid := by
  refine T.F_law_middle.ok sc_law_middle (fun vs H Q E h => ?_) (fun cdv A outer s0 H vs Q E hr h => ?_)
  · obtain ⟨a, ns, rfl, _⟩ := h
    rfl
  · obtain ⟨a, ns, rfl, ha, h3, h60, q⟩ := h
    refine ⟨_, (pss_cons (ps_set (i := 1) sc_law_middle.nd rfl (Or.inl rfl) (pe_slice (sl_listK (K := K) rfl) (pe_callB (cr_sortedK (K := K) rfl) (by rfl) T.z_sorted bt_sorted (pa_cons (pe_lc (own := [("_law_word", 2)]) (by rfl) sc_law_middle.nd (pi_listK (K := K) rfl (pv 0)) (blkOk_by (own := [("_law_word", 2)]) (N := ["_law_words", "_law_rest", "_law_word"]) (sc := defScope s_law_middle) (by decide +kernel)) (fun _ _ _ _ _ => (pg_name (i := 2) sc_law_middle.nd rfl (Or.inl rfl))) (fun _ _ _ _ _ => (pts_one (pt_cmpR op_notN (pv 2) pe_non (nomark _)))) (fun _ _ _ _ _ => (pv 2))) pa_nil)) (po_some pe_int) (po_some (pe_un un_neg pe_int))))
      (pss_one (ps_ret (pe_op op_fdiv (pe_op op_add (pe_ix (ix_listK (K := K) rfl) (pv 1) pe_int (fun _ _ => rfl)) (pe_ix (ix_listK (K := K) rfl) (pv 1) (pe_un un_neg pe_int) (fun _ _ => rfl))) pe_int)))), ?_⟩
    walk_at "sw"
    refine ⟨a, rfl, ⟨_, SqL.of ha⟩, fun C nC => c_pure (xs := ns.map V.int) (fun v => !decide (v = .non)) id (SqL.of ha) nC (by rw [List.length_map]; omega) (fun v => rfl) ?_ ?_ ?_⟩
    · intro v hv H' hH R hR
      walk_at "sw"
      exact hR
    · intro v hv _ H' hH R hR
      walk_at "sw"
      exact hR
    · have ef : ((ns.map V.int).filter fun v => !decide (v = .non)).map id = ns.map V.int := by
        rw [List.map_id, List.filter_eq_self]
        intro v hv
        obtain ⟨z, _, rfl⟩ := List.mem_map.mp hv
        rfl
      rw [ef]
      walk_at "sw"
      refine ⟨C, ns, rfl, SqL.of upd_same, by omega, fun s p hp hs np => ?_⟩
      have ls : s.length = ns.length := hp.length_eq
      walk_at "sw"
      intro r nr
      have hl : (s.map V.int).length = ns.length := by rw [List.length_map, ls]
      rw [cut_mid _ (by omega)]
      have e1 : s[1]? = some s[1] := List.getElem?_eq_getElem (by omega)
      have e2 : s[ns.length - 2]? = some s[ns.length - 2] := List.getElem?_eq_getElem (by omega)
      have lr : (((s.map V.int).drop 1).take ((s.map V.int).length - 2)).length = ns.length - 2 := by
        rw [List.length_take, List.length_drop, hl]
        omega
      have g1 : atI (((s.map V.int).drop 1).take ((s.map V.int).length - 2)) 0 = some (.int s[1]) := at_of (j := 0) rfl (by
        rw [List.getElem?_take_of_lt (by omega), List.getElem?_drop, List.getElem?_map, Nat.add_zero, e1]
        rfl)
      have g2 : atI (((s.map V.int).drop 1).take ((s.map V.int).length - 2)) (-1) = some (.int s[ns.length - 2]) := at_last (by
        rw [lr, List.getElem?_take_of_lt (by omega), List.getElem?_drop, List.getElem?_map, show 1 + (ns.length - 2 - 1) = ns.length - 2 by omega, e2]
        rfl) (by omega)
      walk_at "sw"
      refine i_ixL upd_same g1 ?_
      walk_at "sw"
      refine i_ixL upd_same g2 ?_
      walk_at "sw"
      exact q s _ _ _ hp hs e1 e2 ((same_new nC).trans ((same_new np).trans (same_new nr)))

/-- a turn: two sides, each what was heard and the gain -/
def TurnAt (U : Hp) (t : Addr) (top err gain : Int) : Prop := ∃ s1 s2 l1 l2 : Addr, s1 ≠ s2 ∧ U t = some (.tup [.ref s1, .ref s2]) ∧ U s1 = some (.tup [.ref l1, .int 0]) ∧ U l1 = some (.lst ([0, top, 0].map V.int)) ∧ U s2 = some (.tup [.ref l2, .int gain]) ∧ U l2 = some (.lst ([err, top + err, top + err].map V.int))
theorem TurnAt.mono {U U' : Hp} {t : Addr} {top err gain : Int} (e : Same U U') (h : TurnAt U t top err gain) : TurnAt U' t top err gain := by
  obtain ⟨s1, s2, l1, l2, h0, h1, h2, h3, h4, h5⟩ := h
  exact ⟨s1, s2, l1, l2, h0, e _ _ h1, e _ _ h2, e _ _ h3, e _ _ h4, e _ _ h5⟩
def spParted : Sp := fun vs H Q _ => ∃ n err gain : Int, vs = [.int n, .int err, .int gain] ∧ 0 ≤ n ∧ n ≤ 500 ∧
  ∀ (p : Addr) (ts : List Addr) (H' : Hp), Same H H' → H' p = some (.lst (ts.map V.ref)) → (ts.length : Int) = n → (∀ k t, ts[k]? = some t → TurnAt H' t ((k : Nat) * (err + gain)) err gain) → Q (.ref p) H'
theorem ok_parted (T : Tx K mg) : FnOk P w K mg base CX0 1 T.f_parted T.fd_parted ["turns", "err", "gain"] spParted := by
  refine T.F_parted.ok sc_parted (fun vs H Q E h => ?_) (fun cdv A outer s0 H vs Q E hr h => ?_)
  · obtain ⟨n, err, gain, rfl, _⟩ := h
    rfl
  · obtain ⟨n, err, gain, rfl, n0, n1, q⟩ := h
    refine ⟨_, (pss_cons (ps_set (i := 3) sc_parted.nd rfl (Or.inl rfl) (pe_lst pa_nil))
      (pss_cons (ps_set (i := 4) sc_parted.nd rfl (Or.inl rfl) pe_int)
      (pss_cons (ps_for PassesOwn.never rfl (pi_range1 (by rfl) T.z_range (pa_cons (pv 0) pa_nil)) (pg_name (i := 5) sc_parted.nd rfl (Or.inl rfl))
      (pss_cons (ps_set (i := 6) sc_parted.nd rfl (Or.inl rfl) (pe_lst (pa_cons pe_int (pa_cons (pv 4) (pa_cons pe_int pa_nil)))))
      (pss_cons (ps_set (i := 7) sc_parted.nd rfl (Or.inl rfl) (pe_lst (pa_cons (pv 1) (pa_cons (pe_op op_add (pv 4) (pv 1)) (pa_cons (pe_op op_add (pv 4) (pv 1)) pa_nil)))))
      (pss_cons (ps_expr (pe_bm PySem.F.plainAttrs_list PySem.F.slot_list_append PySem.F.type_list_append mt_append (pv 3) (pa_cons (pe_tup (pa_cons (pe_tup (pa_cons (pv 6) (pa_cons pe_int pa_nil))) (pa_cons (pe_tup (pa_cons (pv 7) (pa_cons (pv 2) pa_nil))) pa_nil))) pa_nil)))
      (pss_one (ps_aug (i := 4) sc_parted.nd rfl (Or.inl rfl) (pe_op op_add (pv 1) (pv 2)) ip_add))))))
      (pss_one (ps_ret (pv 3)))))), ?_⟩
    walk_at "sw"
    intro p np
    walk_at "sw"
    refine ⟨by omega, by omega, l_rng (fun i σ H' => ∃ (v5 v6 v7 : Option V) (U : Hp) (ts : List Addr), σ = [some (.int n), some (.int err), some (.int gain), some (.ref p), some (.int ((i : Int) * (err + gain))), v5, v6, v7] ∧ Same H H' ∧ Same U H' ∧ Same H U ∧ U p = none ∧ H' p = some (.lst (ts.map V.ref)) ∧ ts.length = i ∧
      ∀ k t, ts[k]? = some t → TurnAt U t ((k : Nat) * (err + gain)) err gain) ⟨none, none, none, H, [], by rw [Int.natCast_zero, Int.zero_mul]; rfl, same_new np, same_new np, Same.refl _, np, upd_same, rfl, fun k t h => by cases h⟩ ?_ ?_⟩
    · rintro i σ H' hi ⟨v5, v6, v7, U, ts, rfl, hH, hU, hHU, nUp, hp, lt, hts⟩
      obtain ⟨top, et⟩ : ∃ top, top = (i : Int) * (err + gain) := ⟨_, rfl⟩
      have et' : ((i + 1 : Nat) : Int) * (err + gain) = top + (err + gain) := by
        rw [et, Int.natCast_add, Int.add_mul]
        omega
      rw [← et]
      walk_at "sw"
      intro l1 nl1
      walk_at "sw"
      intro l2 nl2
      walk_at "sw"
      have hp2 := upd_get (o := .lst [.int err, .int (top + err), .int (top + err)]) nl2 (upd_get (o := .lst [.int 0, .int top, .int 0]) nl1 hp)
      intro s1 ns1
      walk_at "sw"
      intro s2 ns2
      walk_at "sw"
      intro t nt
      have u1 := same_both (p := l1) (o := .lst [.int 0, .int top, .int 0]) hU
      have u2 := same_both (p := l2) (o := .lst [.int err, .int (top + err), .int (top + err)]) u1
      have u3 := same_both (p := s1) (o := .tup [.ref l1, .int 0]) u2
      have u4 := same_both (p := s2) (o := .tup [.ref l2, .int gain]) u3
      have u5 := same_both (p := t) (o := .tup [.ref s1, .ref s2]) u4
      have m1 := hU.free nl1
      have m2 := u1.free nl2
      have m3 := u2.free ns1
      have m4 := u3.free ns2
      have m5 := u4.free nt
      have up := ((((same_new (o := .lst [.int 0, .int top, .int 0]) m1).trans (same_new (o := .lst [.int err, .int (top + err), .int (top + err)]) m2)).trans (same_new (o := .tup [.ref l1, .int 0]) m3)).trans (same_new (o := .tup [.ref l2, .int gain]) m4)).trans (same_new (o := .tup [.ref s1, .ref s2]) m5)
      have tat : TurnAt (upd (upd (upd (upd (upd U l1 (.lst [.int 0, .int top, .int 0])) l2 (.lst [.int err, .int (top + err), .int (top + err)])) s1 (.tup [.ref l1, .int 0])) s2 (.tup [.ref l2, .int gain])) t (.tup [.ref s1, .ref s2])) t top err gain :=
        ⟨s1, s2, l1, l2, ne_of_none upd_same ns2, upd_same, upd_get m5 (upd_get m4 upd_same), upd_get m5 (upd_get m4 (upd_get m3 (upd_get m2 upd_same))), upd_get m5 upd_same, upd_get m5 (upd_get m4 (upd_get m3 upd_same))⟩
      have hp3 := upd_get (o := .tup [.ref s1, .ref s2]) nt (upd_get (o := .tup [.ref l2, .int gain]) ns2 (upd_get (o := .tup [.ref l1, .int 0]) ns1 hp2))
      have np5 : (upd (upd (upd (upd (upd U l1 (.lst [.int 0, .int top, .int 0])) l2 (.lst [.int err, .int (top + err), .int (top + err)])) s1 (.tup [.ref l1, .int 0])) s2 (.tup [.ref l2, .int gain])) t (.tup [.ref s1, .ref s2])) p = none := by
        rw [upd_ne (ne_of_none (upd_get ns2 (upd_get ns1 hp2)) nt), upd_ne (ne_of_none (upd_get ns1 hp2) ns2), upd_ne (ne_of_none hp2 ns1), upd_ne (ne_of_none (upd_get nl1 hp) nl2), upd_ne (ne_of_none hp nl1)]
        exact nUp
      walk_at "sw"
      refine ⟨_, _, _, _, ts ++ [t], by rw [et']; rfl, ?_, same_mut u5 np5, hHU.trans up, np5, by rw [upd_same, List.map_append]; rfl, by rw [List.length_append, lt]; rfl, fun k t' h => ?_⟩
      · exact ((((((hH.trans (same_new nl1)).trans (same_new nl2)).trans (same_new ns1)).trans (same_new ns2)).trans (same_new nt)) |> fun z => same_mut z np)
      · rcases Nat.lt_or_ge k ts.length with hk | hk
        · rw [List.getElem?_append_left hk] at h
          exact (hts k t' h).mono up
        · rw [List.getElem?_append_right hk] at h
          have hk0 : k - ts.length = 0 := by
            have := (List.getElem?_eq_some_iff.mp h).1
            simp at this
            omega
          rw [hk0] at h
          have e := Option.some.inj h
          subst e
          have ek : k = i := by omega
          subst ek
          rw [← et]
          exact tat
    · rintro σ H' ⟨v5, v6, v7, U, ts, rfl, hH, hU, hHU, nUp, hp, lt, hts⟩
      walk_at "sw"
      exact q p ts H' hH hp (by omega) fun k t h => (hts k t h).mono hU
def spSide : Sp := fun vs H Q _ => ∃ (sd l st : Addr) (w0 w1 w2 g x0 x1 fault more : Int), vs = [.ref sd, .ref st, .int fault, .int more] ∧ H sd = some (.tup [.ref l, .int g]) ∧ H l = some (.lst ([w0, w1, w2].map V.int)) ∧ H st = some (.lst ([x0, x1].map V.int)) ∧
  0 ≤ w0 - x0 ∧ w0 - x0 ≤ fault ∧ 0 ≤ w1 - x1 ∧ w1 - x1 ≤ fault ∧ 0 ≤ g ∧ g ≤ more ∧ ∀ H', Same H H' → Q (.bl true) H'
theorem ok_law_side (T : Tx K mg) : FnOk P w K mg base CX0 2 T.f_law_side T.fd_law_side ["_law_side_here", "_law_stands", "_law_fault", "_law_more"] spSide := by
  refine T.F_law_side.ok sc_law_side (fun vs H Q E h => ?_) (fun cdv A outer s0 H vs Q E hr h => ?_)
  · obtain ⟨sd, l, st, w0, w1, w2, g, x0, x1, fault, more, rfl, _⟩ := h
    rfl
  · obtain ⟨sd, l, st, w0, w1, w2, g, x0, x1, fault, more, rfl, hsd, hl, hst, a1, a2, a3, a4, g0, g1, q⟩ := h
    refine ⟨_, (pss_cons (ps_if ((pw_or (pt_not (pt_val (pe_callB (call_isiKK (K := K) rfl) (by rfl) T.z_isinstance bt_isinstance (pa_cons (pv 0) (pa_cons (pe_bltn (v := .ty "tuple") (by rfl) T.z_tuple bt_tuple rfl) pa_nil))))) (pw_or (pt_cmpR op_ne (pe_callB (call_lenK (K := K) rfl) (by rfl) T.z_len bt_len (pa_cons (pv 0) pa_nil)) pe_int (nomark _)) (pw_or (pt_not (pt_val (pe_callB (call_isiKK (K := K) rfl) (by rfl) T.z_isinstance bt_isinstance (pa_cons (pe_ix (ix_tupK (K := K) rfl) (pv 0) pe_int (fun _ _ => rfl)) (pa_cons (pe_bltn (v := .ty "list") (by rfl) T.z_list bt_list rfl) pa_nil))))) (pw_or1 (pt_cmpR op_ne (pe_callB (call_lenK (K := K) rfl) (by rfl) T.z_len bt_len (pa_cons (pe_ix (ix_tupK (K := K) rfl) (pv 0) pe_int (fun _ _ => rfl)) pa_nil)) pe_int (nomark _))))))).pt
      (pss_one (ps_ret pe_bl))
      pss_nil)
      (pss_cons (ps_if ((pw_or (pt_not (pt_val (pe_callB (cr_allK (K := K) rfl (by rfl)) (by rfl) T.z_all bt_all (pa_cons (pe_lc (own := [("_law_word", 4)]) (by rfl) sc_law_side.nd (pi_listK (K := K) rfl (pe_ix (ix_tupK (K := K) rfl) (pv 0) pe_int (fun _ _ => rfl))) (blkOk_by (own := [("_law_word", 4)]) (N := ["_law_side_here", "_law_stands", "_law_fault", "_law_more", "_law_word", "_law_at"]) (sc := defScope s_law_side) (by decide +kernel)) (fun _ _ _ _ _ => (pg_name (i := 4) sc_law_side.nd rfl (Or.inl rfl))) (fun _ _ _ _ _ => pts_nil) (fun _ _ _ _ _ => (pe_call (ok_law_whole T) (hr.mono (by decide)) (by rfl) T.g_law_whole T.F_law_whole.kp T.b_law_whole .nil pass0 (pa_cons (pv 4) pa_nil)))) pa_nil)))) (pw_or1 (pt_not (pt_val (pe_call (ok_law_whole T) (hr.mono (by decide)) (by rfl) T.g_law_whole T.F_law_whole.kp T.b_law_whole .nil pass0 (pa_cons (pe_ix (ix_tupK (K := K) rfl) (pv 0) pe_int (fun _ _ => rfl)) pa_nil))))))).pt
      (pss_one (ps_ret pe_bl))
      pss_nil)
      (pss_cons (ps_if (pt_not (pt_val (pe_callB (cr_allK (K := K) rfl (by rfl)) (by rfl) T.z_all bt_all (pa_cons (pe_lc (own := [("_law_at", 5)]) (by rfl) sc_law_side.nd (pi_range1 (by rfl) T.z_range (pa_cons pe_int pa_nil)) (blkOk_by (own := [("_law_at", 5)]) (N := ["_law_side_here", "_law_stands", "_law_fault", "_law_more", "_law_word", "_law_at"]) (sc := defScope s_law_side) (by decide +kernel)) (fun _ _ _ _ _ => (pg_name (i := 5) sc_law_side.nd rfl (Or.inl rfl))) (fun _ _ _ _ _ => pts_nil) (fun _ _ _ _ _ => (pe_chain op_le op_le pe_int (pe_op op_sub (pe_ix (ix_listK (K := K) rfl) (pe_ix (ix_tupK (K := K) rfl) (pv 0) pe_int (fun _ _ => rfl)) (pv 5) (fun _ _ => rfl)) (pe_ix (ix_listK (K := K) rfl) (pv 1) (pv 5) (fun _ _ => rfl))) (pv 2)))) pa_nil))))
      (pss_one (ps_ret pe_bl))
      pss_nil)
      (pss_one (ps_ret (pe_chain op_le op_le pe_int (pe_ix (ix_tupK (K := K) rfl) (pv 0) pe_int (fun _ _ => rfl)) (pv 3))))))), ?_⟩
    walk_at "sw"
    refine i_iteN (fun h => absurd rfl h) (fun _ => ?_)
    walk_at "sw"
    refine i_iteN (fun h => absurd rfl h) (fun _ => ?_)
    walk_at "sw"
    refine ⟨l, rfl, ⟨_, SqL.of hl⟩, fun C nC => c_map (xs := [w0, w1, w2].map V.int) (fun _ => .bl true) (SqL.of hl) nC (by show 3 ≤ 1000; decide) (fun v => rfl) ?_ ?_⟩
    · intro v hv H' hH R hR
      obtain ⟨z, _, rfl⟩ := List.mem_map.mp hv
      walk_at "sw"
      exact ⟨_, rfl, ⟨_, rfl⟩, hR⟩
    · have hsd2 := upd_get (o := .lst (([w0, w1, w2].map V.int).map fun _ => .bl true)) nC hsd
      have hl2 := upd_get (o := .lst (([w0, w1, w2].map V.int).map fun _ => .bl true)) nC hl
      have hst2 := upd_get (o := .lst (([w0, w1, w2].map V.int).map fun _ => .bl true)) nC hst
      have s2 := same_new (o := .lst (([w0, w1, w2].map V.int).map fun _ => .bl true)) nC
      walk_at "sw"
      refine i_all (bs := [true, true, true]) upd_same ?_
      rw [show [true, true, true].all id = true from rfl]
      obtain ⟨H2, eH2⟩ : ∃ X, X = upd H C (.lst (([w0, w1, w2].map V.int).map fun _ => .bl true)) := ⟨_, rfl⟩
      rw [← eH2] at hsd2 hl2 hst2 s2 ⊢
      walk_at "sw"
      refine ⟨_, rfl, ⟨_, rfl⟩, ?_⟩
      walk_at "sw"
      refine ⟨by decide, by decide, fun C3 n3 => c_mapR (n := 2) (fun _ => .bl true) n3 (by decide) (fun v => rfl) ?_ ?_⟩
      · intro i hi H' hH R hR
        have e1 : H' sd = some (.tup [.ref l, .int g]) := by rw [hH sd (ne_of_none hsd2 n3)]; exact hsd2
        have e2 : H' l = some (.lst ([w0, w1, w2].map V.int)) := by rw [hH l (ne_of_none hl2 n3)]; exact hl2
        have e3 : H' st = some (.lst ([x0, x1].map V.int)) := by rw [hH st (ne_of_none hst2 n3)]; exact hst2
        match i, hi with
        | 0, _ =>
          walk_at "sw"
          refine i_ite (fun _ => ?_) (fun h => absurd a1 h)
          walk_at "sw"
          rw [decide_eq_true a2]
          exact hR
        | 1, _ =>
          walk_at "sw"
          refine i_ite (fun _ => ?_) (fun h => absurd a3 h)
          walk_at "sw"
          rw [decide_eq_true a4]
          exact hR
      · have hsd3 := upd_get (o := .lst ((List.range 2).map fun _ => .bl true)) n3 hsd2
        have s3 := same_new (o := .lst ((List.range 2).map fun _ => .bl true)) n3
        walk_at "sw"
        refine i_all (bs := [true, true]) upd_same ?_
        rw [show [true, true].all id = true from rfl]
        obtain ⟨H3, eH3⟩ : ∃ X, X = upd H2 C3 (.lst ((List.range 2).map fun _ => .bl true)) := ⟨_, rfl⟩
        rw [← eH3] at hsd3 s3 ⊢
        walk_at "sw"
        refine i_ite (fun _ => ?_) (fun h => absurd g0 h)
        walk_at "sw"
        rw [decide_eq_true g1]
        exact q _ (s2.trans s3)
theorem mid3 {s : List Int} {a b c x y : Int} (hp : s.Perm [a, c, b]) (hs : s.Pairwise (· ≤ ·)) (h1 : a ≤ b) (h2 : b ≤ c) (e1 : s[1]? = some x) (e2 : s[1]? = some y) : (x + y) / 2 = b := by
  have hq : s.Perm [a, b, c] := hp.trans (List.Perm.cons a (List.Perm.swap b c []))
  have e : s = [a, b, c] := rising_eq hq hs (by simp only [List.pairwise_cons, List.mem_cons, List.not_mem_nil, or_false, forall_eq_or_imp, forall_eq]; exact ⟨⟨h1, by omega⟩, h2, (fun _ z => z.elim), .nil⟩)
  subst e
  have x1 := Option.some.inj e1
  have y1 := Option.some.inj e2
  have : b = x := x1
  have : b = y := y1
  omega
theorem mid3' {s : List Int} {a b x y : Int} (hp : s.Perm [a, b, b]) (hs : s.Pairwise (· ≤ ·)) (h1 : a ≤ b) (e1 : s[1]? = some x) (e2 : s[1]? = some y) : (x + y) / 2 = b := by
  have e : s = [a, b, b] := rising_eq hp hs (by simp only [List.pairwise_cons, List.mem_cons, List.not_mem_nil, or_false, forall_eq_or_imp, forall_eq]; exact ⟨⟨h1, h1⟩, Int.le_refl _, (fun _ z => z.elim), .nil⟩)
  subst e
  have x1 := Option.some.inj e1
  have y1 := Option.some.inj e2
  have : b = x := x1
  have : b = y := y1
  omega
theorem ok_law (T : Tx K mg) : FnOk P w K mg base CX0 3 T.f_law T.fd_law ["_law_script"] (spLaw K) := by
  refine T.F_law.ok sc_law (fun vs H Q E h => ?_) (fun cdv A outer s0 H vs Q E hr h => ?_)
  · obtain ⟨a, ns, rfl, _⟩ := h
    rfl
  · obtain ⟨a, ns, rfl, hS, hlen, hbits, q⟩ := h
    obtain ⟨ds_parted, vd_parted, bd_parted⟩ := kb_parted T
    obtain ⟨mv_kb_parted_gain, hkb_parted_gain⟩ := kb_parted_gain T
    obtain ⟨mv_kb_parted_err, hkb_parted_err⟩ := kb_parted_err T
    obtain ⟨mv_kb_parted_gain_err, hkb_parted_gain_err⟩ := kb_parted_gain_err T
    refine ⟨_, (pss_cons (ps_set (i := 1) sc_law.nd rfl (Or.inl rfl) (pe_call (ok_law_start T) (hr.mono (by decide)) (by rfl) T.g_law_start T.F_law_start.kp T.b_law_start .nil pass0 (pa_cons (pv 0) pa_nil)))
      (pss_cons (ps_set (i := 2) sc_law.nd rfl (Or.inl rfl) (pe_call (ok_law_draw T) (hr.mono (by decide)) (by rfl) T.g_law_draw T.F_law_draw.kp T.b_law_draw .nil pass0 (pa_cons (pv 1) (pa_cons pe_int pa_nil))))
      (pss_cons (ps_set (i := 3) sc_law.nd rfl (Or.inr rfl) (pe_call (ok_law_draw T) (hr.mono (by decide)) (by rfl) T.g_law_draw T.F_law_draw.kp T.b_law_draw .nil pass0 (pa_cons (pv 1) (pa_cons pe_int pa_nil))))
      (pss_cons (ps_set (i := 4) sc_law.nd rfl (Or.inr rfl) (pe_call (ok_law_draw T) (hr.mono (by decide)) (by rfl) T.g_law_draw T.F_law_draw.kp T.b_law_draw .nil pass0 (pa_cons (pv 1) (pa_cons pe_int pa_nil))))
      (pss_cons (ps_set (i := 5) sc_law.nd rfl (Or.inl rfl) (pe_call (ok_law_draw T) (hr.mono (by decide)) (by rfl) T.g_law_draw T.F_law_draw.kp T.b_law_draw .nil pass0 (pa_cons (pv 1) (pa_cons pe_int pa_nil))))
      (pss_cut (ps_if (pt_cmpR op_eq (pv 5) pe_int (nomark _))
      (pss_cons (ps_set (i := 3) sc_law.nd rfl (Or.inr rfl) pe_int)
      (pss_cons (ps_set (i := 4) sc_law.nd rfl (Or.inr rfl) pe_int)
      (pss_one (ps_set (i := 6) sc_law.nd rfl (Or.inl rfl) (pe_call (ok_parted T) (hr.mono (by decide)) (by rfl) T.g_parted T.F_parted.kp bd_parted vd_parted pass0 (pa_cons (pv 2) pa_nil))))))
      (pss_one (ps_if (pt_cmpR op_eq (pv 5) pe_int (nomark _))
      (pss_cons (ps_set (i := 3) sc_law.nd rfl (Or.inr rfl) pe_int)
      (pss_one (ps_set (i := 6) sc_law.nd rfl (Or.inl rfl) (pe_callN (ok_parted T) (hr.mono (by decide)) (by rfl) T.g_parted T.F_parted.kp hkb_parted_gain pass0 (pa_cons (pv 2) pa_nil) (pk_cons (pv 4) pk_nil)))))
      (pss_one (ps_if (pt_cmpR op_eq (pv 5) pe_int (nomark _))
      (pss_cons (ps_set (i := 4) sc_law.nd rfl (Or.inr rfl) pe_int)
      (pss_one (ps_set (i := 6) sc_law.nd rfl (Or.inl rfl) (pe_callN (ok_parted T) (hr.mono (by decide)) (by rfl) T.g_parted T.F_parted.kp hkb_parted_err pass0 (pa_cons (pv 2) pa_nil) (pk_cons (pv 3) pk_nil)))))
      (pss_one (ps_set (i := 6) sc_law.nd rfl (Or.inl rfl) (pe_callN (ok_parted T) (hr.mono (by decide)) (by rfl) T.g_parted T.F_parted.kp hkb_parted_gain_err pass0 (pa_cons (pv 2) pa_nil) (pk_cons (pv 4) (pk_cons (pv 3) pk_nil))))))))))
      (pss_cons (ps_if ((pw_or (pt_not (pt_val (pe_callB (call_isiKK (K := K) rfl) (by rfl) T.z_isinstance bt_isinstance (pa_cons (pv 6) (pa_cons (pe_bltn (v := .ty "list") (by rfl) T.z_list bt_list rfl) pa_nil))))) (pw_or1 (pt_cmpR op_ne (pe_callB (call_lenK (K := K) rfl) (by rfl) T.z_len bt_len (pa_cons (pv 6) pa_nil)) (pv 2) (nomark _))))).pt
      (pss_one (ps_ret pe_bl))
      pss_nil)
      (pss_cons (ps_set (i := 7) sc_law.nd rfl (Or.inr rfl) (pe_lst (pa_cons pe_int (pa_cons pe_int pa_nil))))
      (pss_cons (ps_for PassesOwn.never rfl (pi_listK (K := K) rfl (pv 6)) (pg_name (i := 8) sc_law.nd rfl (Or.inl rfl))
      (pss_cons (ps_if ((pw_or (pt_not (pt_val (pe_callB (call_isiKK (K := K) rfl) (by rfl) T.z_isinstance bt_isinstance (pa_cons (pv 8) (pa_cons (pe_bltn (v := .ty "tuple") (by rfl) T.z_tuple bt_tuple rfl) pa_nil))))) (pw_or1 (pt_cmpR op_ne (pe_callB (call_lenK (K := K) rfl) (by rfl) T.z_len bt_len (pa_cons (pv 8) pa_nil)) pe_int (nomark _))))).pt
      (pss_one (ps_ret pe_bl))
      pss_nil)
      (pss_cons (ps_if (pt_not (pt_val (pe_callB (cr_allK (K := K) rfl (by rfl)) (by rfl) T.z_all bt_all (pa_cons (pe_lc (own := [("_law_side_here", 9)]) (by rfl) sc_law.nd (pi_tupK (K := K) rfl (pv 8)) (blkOk_by (own := [("_law_side_here", 9)]) (N := ["_law_script", "_law_s", "_law_many", "_law_fault", "_law_more", "_law_way", "_law_found", "_law_stands", "_law_turn", "_law_side_here"]) (sc := defScope s_law) (by decide +kernel)) (fun _ _ _ _ _ => (pg_name (i := 9) sc_law.nd rfl (Or.inl rfl))) (fun _ _ _ _ _ => pts_nil) (fun _ _ _ _ _ => (pe_call (ok_law_side T) (hr.mono (by decide)) (by rfl) T.g_law_side T.F_law_side.kp T.b_law_side .nil pass0 (pa_cons (pv 9) (pa_cons (pv 7) (pa_cons (pv 3) (pa_cons (pv 4) pa_nil))))))) pa_nil))))
      (pss_one (ps_ret pe_bl))
      pss_nil)
      (pss_one (ps_set (i := 7) sc_law.nd rfl (Or.inr rfl) (pe_lc (own := [("_law_side_here", 9)]) (by rfl) sc_law.nd (pi_tupK (K := K) rfl (pv 8)) (blkOk_by (own := [("_law_side_here", 9)]) (N := ["_law_script", "_law_s", "_law_many", "_law_fault", "_law_more", "_law_way", "_law_found", "_law_stands", "_law_turn", "_law_side_here"]) (sc := defScope s_law) (by decide +kernel)) (fun _ _ _ _ _ => (pg_name (i := 9) sc_law.nd rfl (Or.inl rfl))) (fun _ _ _ _ _ => pts_nil) (fun _ _ _ _ _ => (pe_op op_add (pe_call (ok_law_middle T) (hr.mono (by decide)) (by rfl) T.g_law_middle T.F_law_middle.kp T.b_law_middle .nil pass0 (pa_cons (pe_ix (ix_tupK (K := K) rfl) (pv 9) pe_int (fun _ _ => rfl)) pa_nil)) (pe_ix (ix_tupK (K := K) rfl) (pv 9) pe_int (fun _ _ => rfl))))))))))
      (pss_one (ps_ret (pe_cmpR op_eq (pe_op op_sub (pe_ix (ix_listK (K := K) rfl) (pv 7) pe_int (fun _ _ => rfl)) (pe_ix (ix_listK (K := K) rfl) (pv 7) pe_int (fun _ _ => rfl))) (pe_op op_mul (pv 2) (pe_op op_add (pv 3) (pv 4))) (nomark _))))))))))))), ?_⟩
    walk_at "sw"
    refine ⟨a, ns, H, rfl, hS, Same.refl H, fun s U H1 g D n0 => ?_⟩
    have hU := g.vh
    walk_at "sw"
    refine ⟨s, 21, U, rfl, by decide, by decide, hU, D, fun n H2 m0 m1 hU2 D2 _ => ?_⟩
    walk_at "sw"
    refine ⟨s, 10, U, rfl, by decide, by decide, hU2, D2, fun fault H3 f0 f1 hU3 D3 _ => ?_⟩
    walk_at "sw"
    refine ⟨s, 10, U, rfl, by decide, by decide, hU3, D3, fun more H4 r0 r1 hU4 D4 _ => ?_⟩
    walk_at "sw"
    refine ⟨s, 4, U, rfl, by decide, by decide, hU4, D4, fun way H5 w0 w1 hU5 D5 _ => ?_⟩
    walk_at "sw"
    refine i_cut (fun σ H' => ∃ (er ga : Int) (p : Addr) (ts : List Addr), σ = [some (.ref a), some (.ref s), some (.int n), some (.int er), some (.int ga), some (.int way), some (.ref p), none, none, none] ∧ 0 ≤ er ∧ er < 10 ∧ 0 ≤ ga ∧ ga < 10 ∧ H' p = some (.lst (ts.map V.ref)) ∧ (ts.length : Int) = n ∧ ∀ k t, ts[k]? = some t → TurnAt H' t ((k : Nat) * (er + ga)) er ga) ?_ ?_
    · walk_at "sw"
      refine i_ite (fun h => ?_) (fun h => ?_)
      · walk_at "sw"
        refine ⟨n, 0, 1, rfl, m0, by omega, fun p ts H6 _ hp lt hts => ?_⟩
        walk_at "sw"
        exact ⟨0, 1, p, ts, rfl, by decide, by decide, by decide, by decide, hp, lt, hts⟩
      · walk_at "sw"
        refine i_ite (fun h => ?_) (fun h => ?_)
        · walk_at "sw"
          refine ⟨rfl, rfl, n, 0, more, rfl, m0, by omega, fun p ts H6 _ hp lt hts => ?_⟩
          walk_at "sw"
          exact ⟨0, more, p, ts, rfl, by decide, by decide, r0, r1, hp, lt, hts⟩
        · walk_at "sw"
          refine i_ite (fun h => ?_) (fun h => ?_)
          · walk_at "sw"
            refine ⟨rfl, rfl, n, fault, 1, rfl, m0, by omega, fun p ts H6 _ hp lt hts => ?_⟩
            walk_at "sw"
            exact ⟨fault, 1, p, ts, rfl, f0, f1, by decide, by decide, hp, lt, hts⟩
          · walk_at "sw"
            refine ⟨rfl, rfl, n, fault, more, rfl, m0, by omega, fun p ts H6 _ hp lt hts => ?_⟩
            walk_at "sw"
            exact ⟨fault, more, p, ts, rfl, f0, f1, r0, r1, hp, lt, hts⟩
    · rintro σ H6 ⟨er, ga, p, ts, rfl, e0, e9, g0, g9, hp, lt, hts⟩
      walk_at "sw"
      rw [List.length_map]
      refine i_iteN (fun h => absurd lt h) (fun _ => ?_)
      walk_at "sw"
      intro z nz
      have hp1 := upd_get (o := .lst ([0, 0].map V.int)) nz hp
      walk_at "sw"
      refine ⟨p, rfl, ⟨_, SqL.of hp1⟩, l_lst (xs := ts.map V.ref) (fun i σ H' => ∃ (st : Addr) (v8 : Option V), σ = [some (.ref a), some (.ref s), some (.int n), some (.int er), some (.int ga), some (.int way), some (.ref p), some (.ref st), v8, none] ∧ Same H6 H' ∧ H' st = some (.lst ([0, (i : Int) * (er + ga)].map V.int))) ?_ ?_ ?_ ?_⟩
      · refine ⟨z, none, rfl, same_new nz, ?_⟩
        rw [Int.natCast_zero, Int.zero_mul]
        exact upd_same
      · rintro i σ H' _ ⟨st, v8, rfl, hH, hst⟩
        exact SqL.of (hH _ _ hp)
      · rintro i x σ H' hx ⟨st, v8, rfl, hH, hst⟩
        obtain ⟨t, ht, rfl⟩ : ∃ t, ts[i]? = some t ∧ x = .ref t := by
          rw [List.getElem?_map] at hx
          cases e : ts[i]? with
          | none =>
            rw [e] at hx
            cases hx
          | some t =>
            rw [e] at hx
            exact ⟨t, rfl, (Option.some.inj hx).symm⟩
        obtain ⟨s1, s2, l1, l2, hne', h1, h2, h3, h4, h5⟩ := (hts i t ht).mono hH
        obtain ⟨top, et⟩ : ∃ top, top = (i : Int) * (er + ga) := ⟨_, rfl⟩
        have et' : ((i + 1 : Nat) : Int) * (er + ga) = top + (er + ga) := by
          rw [et, Int.natCast_add, Int.add_mul]
          omega
        have t0 : 0 ≤ top := by
          rw [et]
          exact Int.mul_nonneg (by omega) (by omega)
        rw [← et] at h3 h5 hst
        walk_at "sw"
        refine i_iteN (fun h => absurd rfl h) (fun _ => ?_)
        walk_at "sw"
        have s12 : s1 ≠ s2 ∨ True := .inr trivial
        refine ⟨t, rfl, ⟨_, SqT.of h1⟩, fun C nC => c_growT (xs := [.ref s1, .ref s2]) (fun _ => .bl true) (SqT.of h1) nC (by show 2 ≤ 1000; decide) (fun v => rfl) ?_ ?_⟩
        · intro v hv H7 s7 R hR
          simp only [List.mem_cons, List.not_mem_nil, or_false] at hv
          rcases hv with rfl | rfl
          · walk_at "sw"
            refine ⟨s1, l1, st, 0, top, 0, 0, 0, top, er, ga, rfl, s7 _ _ h2, s7 _ _ h3, s7 _ _ hst, by omega, by omega, by omega, by omega, by omega, by omega, hR⟩
          · walk_at "sw"
            refine ⟨s2, l2, st, er, top + er, top + er, ga, 0, top, er, ga, rfl, s7 _ _ h4, s7 _ _ h5, s7 _ _ hst, by omega, by omega, by omega, by omega, by omega, by omega, hR⟩
        · intro H7 s7 hC
          have h1' := s7 _ _ h1
          walk_at "sw"
          refine i_all (bs := [true, true]) hC ?_
          rw [show [true, true].all id = true from rfl]
          walk_at "sw"
          let fv : V → V := fun v => if v = .ref s1 then .int 0 else .int (top + (er + ga))
          by_cases hne : s1 = s2
          · exact absurd hne hne'
          · refine ⟨t, rfl, ⟨_, SqT.of h1'⟩, fun C2 nC2 => c_growT (xs := [.ref s1, .ref s2]) fv (SqT.of h1') nC2 (by show 2 ≤ 1000; decide) (fun v => rfl) ?_ ?_⟩
            · intro v hv H8 s8 R hR
              have h2' := s8 _ _ (s7 _ _ h2)
              have h3' := s8 _ _ (s7 _ _ h3)
              have h4' := s8 _ _ (s7 _ _ h4)
              have h5' := s8 _ _ (s7 _ _ h5)
              simp only [List.mem_cons, List.not_mem_nil, or_false] at hv
              rcases hv with rfl | rfl
              · walk_at "sw"
                refine ⟨l1, [0, top, 0], rfl, h3', (by show 3 ≤ 3; decide), (by show 3 < 60; decide), fun srt x y H9 hp hs e1 e2 s9 => ?_⟩
                have em := mid3 (a := 0) (b := 0) (c := top) hp hs (by decide) t0 e1 e2
                rw [em]
                have h2'' := s9 _ _ h2'
                walk_at "sw"
                have := hR H9 s9
                rw [show fv (.ref s1) = .int 0 from if_pos rfl] at this
                exact this
              · walk_at "sw"
                refine ⟨l2, [er, top + er, top + er], rfl, h5', (by show 3 ≤ 3; decide), (by show 3 < 60; decide), fun srt x y H9 hp hs e1 e2 s9 => ?_⟩
                have em := mid3' (a := er) (b := top + er) hp hs (by omega) e1 e2
                rw [em]
                have h4'' := s9 _ _ h4'
                walk_at "sw"
                have := hR H9 s9
                rw [show fv (.ref s2) = .int (top + (er + ga)) from if_neg (fun z => hne (V.ref.inj z).symm), ← Int.add_assoc] at this
                exact this
            · intro H8 s8 hC2
              walk_at "sw"
              refine ⟨C2, _, rfl, (hH.trans s7).trans s8, ?_⟩
              rw [hC2, et']
              show some (HO.lst [fv (.ref s1), fv (.ref s2)]) = _
              rw [show fv (.ref s1) = .int 0 from if_pos rfl, show fv (.ref s2) = .int (top + (er + ga)) from if_neg (fun z => hne (V.ref.inj z).symm)]
              rfl
      · rintro σ H' ⟨st, v8, rfl, hH, hst⟩
        walk_at "sw"
        rw [List.length_map, lt, Int.sub_zero, decide_eq_true rfl]
        exact q _

end
theorem all_mk {l : PySem.W.OpenLaw} {w : World} {K : PySem.W.Frag} {h : Heap} {mg : Str → Option Value} {fa : Addr} (X : K.In h) (G : h.Ns mainGlobals mg) (hfa : mg "law" = some (.ref fa))
    {f0 : Addr} {od0 an0 : Option Addr} {sl0 : Array (Option Value)} {oc0 dc0 pm0 cd0 ct0 : Value} {DD0 : Addr} {tk0_0 : Tok} {tk0_1 : Tok}
    {f1 : Addr} {od1 an1 : Option Addr} {sl1 : Array (Option Value)} {oc1 kV1 dc1 pm1 cd1 ct1 : Value}
    {f2 : Addr} {od2 an2 : Option Addr} {sl2 : Array (Option Value)} {oc2 kV2 dc2 pm2 cd2 ct2 : Value}
    {f3 : Addr} {od3 an3 : Option Addr} {sl3 : Array (Option Value)} {oc3 kV3 dc3 pm3 cd3 ct3 : Value}
    {f4 : Addr} {od4 an4 : Option Addr} {sl4 : Array (Option Value)} {oc4 kV4 dc4 pm4 cd4 ct4 : Value}
    {f5 : Addr} {od5 an5 : Option Addr} {sl5 : Array (Option Value)} {oc5 kV5 dc5 pm5 cd5 ct5 : Value}
    {f6 : Addr} {od6 an6 : Option Addr} {sl6 : Array (Option Value)} {oc6 kV6 dc6 pm6 cd6 ct6 : Value}
    (a0 : PySem.W.nsIn K mainGlobals "parted" = some (some (.ref f0))) (l0 : K.lookup f0 = some ⟨oc0, od0, .func (PySem.W.fnOf "parted" "parted" (defArgs s_parted) (defBody s_parted) (defScope s_parted) .none (.ref DD0) dc0 pm0 an0 cd0 ct0), sl0⟩) (c0 : PySem.W.codeIn K cd0 "parted" = true) (k0 : PySem.W.keepIn K (.ref f0) = true)
    (q0_0 : PySem.W.nsIn K DD0 "err" = some (some (.int 0 tk0_0)))
    (q0_1 : PySem.W.nsIn K DD0 "gain" = some (some (.int 1 tk0_1)))
    (a1 : PySem.W.nsIn K mainGlobals "_law_start" = some (some (.ref f1))) (l1 : K.lookup f1 = some ⟨oc1, od1, .func (PySem.W.fnOf "_law_start" "_law_start" (defArgs s_law_start) (defBody s_law_start) (defScope s_law_start) .none kV1 dc1 pm1 an1 cd1 ct1), sl1⟩) (c1 : PySem.W.codeIn K cd1 "_law_start" = true) (k1 : PySem.W.keepIn K (.ref f1) = true)
    (a2 : PySem.W.nsIn K mainGlobals "_law_draw" = some (some (.ref f2))) (l2 : K.lookup f2 = some ⟨oc2, od2, .func (PySem.W.fnOf "_law_draw" "_law_draw" (defArgs s_law_draw) (defBody s_law_draw) (defScope s_law_draw) .none kV2 dc2 pm2 an2 cd2 ct2), sl2⟩) (c2 : PySem.W.codeIn K cd2 "_law_draw" = true) (k2 : PySem.W.keepIn K (.ref f2) = true)
    (a3 : PySem.W.nsIn K mainGlobals "_law_whole" = some (some (.ref f3))) (l3 : K.lookup f3 = some ⟨oc3, od3, .func (PySem.W.fnOf "_law_whole" "_law_whole" (defArgs s_law_whole) (defBody s_law_whole) (defScope s_law_whole) .none kV3 dc3 pm3 an3 cd3 ct3), sl3⟩) (c3 : PySem.W.codeIn K cd3 "_law_whole" = true) (k3 : PySem.W.keepIn K (.ref f3) = true)
    (a4 : PySem.W.nsIn K mainGlobals "_law_middle" = some (some (.ref f4))) (l4 : K.lookup f4 = some ⟨oc4, od4, .func (PySem.W.fnOf "_law_middle" "_law_middle" (defArgs s_law_middle) (defBody s_law_middle) (defScope s_law_middle) .none kV4 dc4 pm4 an4 cd4 ct4), sl4⟩) (c4 : PySem.W.codeIn K cd4 "_law_middle" = true) (k4 : PySem.W.keepIn K (.ref f4) = true)
    (a5 : PySem.W.nsIn K mainGlobals "_law_side" = some (some (.ref f5))) (l5 : K.lookup f5 = some ⟨oc5, od5, .func (PySem.W.fnOf "_law_side" "_law_side" (defArgs s_law_side) (defBody s_law_side) (defScope s_law_side) .none kV5 dc5 pm5 an5 cd5 ct5), sl5⟩) (c5 : PySem.W.codeIn K cd5 "_law_side" = true) (k5 : PySem.W.keepIn K (.ref f5) = true)
    (a6 : PySem.W.nsIn K mainGlobals "law" = some (some (.ref f6))) (l6 : K.lookup f6 = some ⟨oc6, od6, .func (PySem.W.fnOf "law" "law" (defArgs s_law) (defBody s_law) (defScope s_law) .none kV6 dc6 pm6 an6 cd6 ct6), sl6⟩) (c6 : PySem.W.codeIn K cd6 "law" = true) (k6 : PySem.W.keepIn K (.ref f6) = true)
    (z_abs : PySem.W.nsIn K mainGlobals "abs" = some none)
    (z_all : PySem.W.nsIn K mainGlobals "all" = some none)
    (z_bool : PySem.W.nsIn K mainGlobals "bool" = some none)
    (z_int : PySem.W.nsIn K mainGlobals "int" = some none)
    (z_isinstance : PySem.W.nsIn K mainGlobals "isinstance" = some none)
    (z_len : PySem.W.nsIn K mainGlobals "len" = some none)
    (z_list : PySem.W.nsIn K mainGlobals "list" = some none)
    (z_range : PySem.W.nsIn K mainGlobals "range" = some none)
    (z_sorted : PySem.W.nsIn K mainGlobals "sorted" = some none)
    (z_tuple : PySem.W.nsIn K mainGlobals "tuple" = some none) :
    ∃ fd : FuncData, (∀ (s : Shared) (v : Value), BindsTo s fd ⟨[v], []⟩ [("_law_script", v)]) ∧ ∀ base : Heap, K.In base → base.Ns mainGlobals mg → FnOk l.prog w K mg base CX0 3 fa fd ["_law_script"] (spLaw K) := by
  have e := hfa.symm.trans (PySem.W.mg_of X G a6)
  cases e
  have F0 := fun_mk (st := s_parted) l0 c0 k0
  have D0 : FunD K "parted" "parted" (defArgs s_parted) (defBody s_parted) (defScope s_parted) [] [("err", V.int 0), ("gain", V.int 1)] f0 _ := ⟨⟨_, _, _, _, _, _, _, _, _, _, rfl, l0, c0, .inl ⟨rfl, rfl⟩, .inr ⟨_, rfl, (by intro q h; simp only [List.mem_cons, List.not_mem_nil, or_false] at h; rcases h with rfl | rfl <;> first | exact ⟨_, q0_0, ⟨_, rfl⟩⟩ | exact ⟨_, q0_1, ⟨_, rfl⟩⟩)⟩⟩, k0⟩
  have F1 := fun_mk (st := s_law_start) l1 c1 k1
  have b1 := F1.binds (ps := ["_law_script"]) fun _ _ _ _ _ _ us hl => match us, hl with | [_], _ => rfl
  have F2 := fun_mk (st := s_law_draw) l2 c2 k2
  have b2 := F2.binds (ps := ["_law_s", "_law_many"]) fun _ _ _ _ _ _ us hl => match us, hl with | [_, _], _ => rfl
  have F3 := fun_mk (st := s_law_whole) l3 c3 k3
  have b3 := F3.binds (ps := ["_law_x"]) fun _ _ _ _ _ _ us hl => match us, hl with | [_], _ => rfl
  have F4 := fun_mk (st := s_law_middle) l4 c4 k4
  have b4 := F4.binds (ps := ["_law_words"]) fun _ _ _ _ _ _ us hl => match us, hl with | [_], _ => rfl
  have F5 := fun_mk (st := s_law_side) l5 c5 k5
  have b5 := F5.binds (ps := ["_law_side_here", "_law_stands", "_law_fault", "_law_more"]) fun _ _ _ _ _ _ us hl => match us, hl with | [_, _, _, _], _ => rfl
  have F6 := fun_mk (st := s_law) l6 c6 k6
  have b6 := F6.binds (ps := ["_law_script"]) fun _ _ _ _ _ _ us hl => match us, hl with | [_], _ => rfl
  refine ⟨PySem.W.fnOf "law" "law" (defArgs s_law) (defBody s_law) (defScope s_law) .none kV6 dc6 pm6 an6 cd6 ct6, fun s v => .of_eq rfl, fun base _ _ => ?_⟩
  exact ok_law (T := ({ f_parted := f0, fd_parted := _, F_parted := F0, D_parted := D0, g_parted := PySem.W.mg_of X G a0, f_law_start := f1, fd_law_start := _, F_law_start := F1, b_law_start := b1, g_law_start := PySem.W.mg_of X G a1, f_law_draw := f2, fd_law_draw := _, F_law_draw := F2, b_law_draw := b2, g_law_draw := PySem.W.mg_of X G a2, f_law_whole := f3, fd_law_whole := _, F_law_whole := F3, b_law_whole := b3, g_law_whole := PySem.W.mg_of X G a3, f_law_middle := f4, fd_law_middle := _, F_law_middle := F4, b_law_middle := b4, g_law_middle := PySem.W.mg_of X G a4, f_law_side := f5, fd_law_side := _, F_law_side := F5, b_law_side := b5, g_law_side := PySem.W.mg_of X G a5, f_law := fa, fd_law := _, F_law := F6, b_law := b6, g_law := PySem.W.mg_of X G a6, z_abs := PySem.W.mg_none_of X G z_abs, z_all := PySem.W.mg_none_of X G z_all, z_bool := PySem.W.mg_none_of X G z_bool, z_int := PySem.W.mg_none_of X G z_int, z_isinstance := PySem.W.mg_none_of X G z_isinstance, z_len := PySem.W.mg_none_of X G z_len, z_list := PySem.W.mg_none_of X G z_list, z_range := PySem.W.mg_none_of X G z_range, z_sorted := PySem.W.mg_none_of X G z_sorted, z_tuple := PySem.W.mg_none_of X G z_tuple } : Tx K mg))

end SW
open PySem PySem.W PyProof.Rows
set_option maxRecDepth 100000 in
set_option maxHeartbeats 0 in
theorem PySem.Challenge.cw_slotwright_k44_three_are_parted_holds : PySem.Challenge.rw_slotwright_k44_three_are_parted.Holds := by
  w_on; o_law; k_head; (case hw => w_witness2)
  k_fill
  refine L2.walk_ofB (l := PySem.Challenge.rw_slotwright_k44_three_are_parted) (n := 63) (k := 3) (x := "_law_script") (CX := fun _ => L2.CX0) (sp := fun w => SW.spLaw _) rfl (by decide) rfl ⟨rfl, by decide, by decide⟩ (fun w h Y => PySem.W.kIn_of Y) ?F (fun _ _ a ns hl hb _ hS => ⟨a, ns, rfl, hS, hl, hb, fun _ => rfl⟩) (fun _ _ _ _ _ h => h)
  case F =>
    intro w mg fa h KX G hmg
    refine' SW.all_mk KX G hmg ?a0 ?l0 ?c0 ?k0 ?q0_0 ?q0_1 ?a1 ?l1 ?c1 ?k1 ?a2 ?l2 ?c2 ?k2 ?a3 ?l3 ?c3 ?k3 ?a4 ?l4 ?c4 ?k4 ?a5 ?l5 ?c5 ?k5 ?a6 ?l6 ?c6 ?k6 ?z_abs ?z_all ?z_bool ?z_int ?z_isinstance ?z_len ?z_list ?z_range ?z_sorted ?z_tuple
    (case a0 => k_is)
    (case l0 => k_is)
    (case c0 => k_is)
    (case k0 => k_is)
    (case q0_0 => k_is)
    (case q0_1 => k_is)
    (case a1 => k_is)
    (case l1 => k_is)
    (case c1 => k_is)
    (case k1 => k_is)
    (case a2 => k_is)
    (case l2 => k_is)
    (case c2 => k_is)
    (case k2 => k_is)
    (case a3 => k_is)
    (case l3 => k_is)
    (case c3 => k_is)
    (case k3 => k_is)
    (case a4 => k_is)
    (case l4 => k_is)
    (case c4 => k_is)
    (case k4 => k_is)
    (case a5 => k_is)
    (case l5 => k_is)
    (case c5 => k_is)
    (case k5 => k_is)
    (case a6 => k_is)
    (case l6 => k_is)
    (case c6 => k_is)
    (case k6 => k_is)
    (case z_abs => k_is)
    (case z_all => k_is)
    (case z_bool => k_is)
    (case z_int => k_is)
    (case z_isinstance => k_is)
    (case z_len => k_is)
    (case z_list => k_is)
    (case z_range => k_is)
    (case z_sorted => k_is)
    (case z_tuple => k_is)
#print axioms PySem.Challenge.cw_slotwright_k44_three_are_parted_holds

