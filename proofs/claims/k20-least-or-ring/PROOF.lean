import PyProof.Rows.All
import Wide.All
import OpenK.AllK
import Wide.FinOn
import HandS.ForMost
import HandS.Wide
import HandS.IsInst
import HandS.EndBits
import HandS.Flow
import HandS.Defaults
import HandS.MakeKwOnly
import HandS.Exc
import HandS.ExcOwn
import HandS.WordsExc
import HandS.TryOnly
import HandS.HotCalls
import HandS.Small
import HandS.ExcField
import KE.KExcIs
import HandS.ExcIs
import HandS.CallSlots
import HandS.MakeKw
import HandS.Walk
import HandS.Style
import HandS.TupAny
import HandS.Deep
import PySem.Challenge.RW_slotwright_k20_least_or_ring
set_option Elab.async false
set_option linter.all false
set_option maxRecDepth 100000
set_option maxHeartbeats 4000000

namespace SW
open PySem L2
/-! ### heaps by a view: U is what never changes, H is all -/
theorem same_new {U : Hp} {p : Addr} {o : HO} (h : U p = none) : Same U (upd U p o) := fun b x e => by
  rw [upd_ne (ne_of_none e h)]
  exact e
theorem same_mut {U H : Hp} {p : Addr} {o : HO} (e : Same U H) (h : U p = none) : Same U (upd H p o) := fun a u ha => by
  rw [upd_ne (ne_of_none ha h)]
  exact e a u ha
theorem same_back {U H : Hp} {p : Addr} (e : Same U H) (h : H p = none) : U p = none := e.free h
theorem upd_get {H : Hp} {p a : Addr} {o x : HO} (n : H p = none) (h : H a = some x) : upd H p o a = some x := by
  rw [upd_ne (ne_of_none h n)]
  exact h
structure Gr (M : List Addr) (U H U' H' : Hp) : Prop where
  vv : Same U U'
  vh : Same U' H'
  hh : ∀ a o, a ∉ M → H a = some o → H' a = some o
  dom : ∀ a, H a ≠ none → H' a ≠ none
  fr : ∀ a, U a = none → H a ≠ none → U' a = none
theorem Gr.refl {M : List Addr} {U H : Hp} (e : Same U H) : Gr M U H U H := ⟨Same.refl _, e, fun _ _ _ h => h, fun _ h => h, fun _ h _ => h⟩
theorem Gr.trans {M : List Addr} {U0 H0 U1 H1 U2 H2 : Hp} (a : Gr M U0 H0 U1 H1) (b : Gr M U1 H1 U2 H2) : Gr M U0 H0 U2 H2 :=
  ⟨a.vv.trans b.vv, b.vh, fun x o m h => b.hh x o m (a.hh x o m h), fun x h => b.dom x (a.dom x h), fun x h k => b.fr x (a.fr x h k) (a.dom x k)⟩
theorem Gr.weak {M N : List Addr} {U0 H0 U1 H1 : Hp} (a : Gr M U0 H0 U1 H1) (s : ∀ x, x ∈ M → x ∈ N) : Gr N U0 H0 U1 H1 :=
  ⟨a.vv, a.vh, fun x o m h => a.hh x o (fun z => m (s x z)) h, a.dom, a.fr⟩
theorem Gr.any {N : List Addr} {U0 H0 U1 H1 : Hp} (a : Gr [] U0 H0 U1 H1) : Gr N U0 H0 U1 H1 := a.weak fun _ h => nomatch h
/-- a new object that never changes -/
theorem Gr.new {M : List Addr} {U0 H0 U H : Hp} {p : Addr} {o : HO} (g : Gr M U0 H0 U H) (n : H p = none) : Gr M U0 H0 (upd U p o) (upd H p o) := by
  have nu : U p = none := g.vh.free n
  have n0 : H0 p = none := by
    cases e : H0 p with
    | none => rfl
    | some x => exact absurd n (g.dom p (by rw [e]; intro z; cases z))
  refine ⟨g.vv.trans (same_new nu), fun a x h => ?_, fun a x m h => ?_, fun a h => ?_, fun a h k => ?_⟩
  · by_cases e : a = p
    · subst e
      rw [upd_same] at h ⊢
      exact h
    · rw [upd_ne e] at h ⊢
      exact g.vh a x h
  · rw [upd_ne (ne_of_none h n0)]
    exact g.hh a x m h
  · by_cases e : a = p
    · subst e
      rw [upd_same]
      intro z
      cases z
    · rw [upd_ne e]
      exact g.dom a h
  · have e : a ≠ p := fun z => by
      subst z
      exact k n0
    rw [upd_ne e]
    exact g.fr a h k
/-- a new object that will change -/
theorem Gr.newM {M : List Addr} {U0 H0 U H : Hp} {p : Addr} {o : HO} (g : Gr M U0 H0 U H) (n : H p = none) : Gr M U0 H0 U (upd H p o) := by
  have nu : U p = none := g.vh.free n
  refine ⟨g.vv, same_mut g.vh nu, fun a x m h => ?_, fun a h => ?_, g.fr⟩
  · rw [upd_ne (ne_of_none (g.hh a x m h) n)]
    exact g.hh a x m h
  · by_cases e : a = p
    · subst e
      rw [upd_same]
      intro z
      cases z
    · rw [upd_ne e]
      exact g.dom a h
/-- an object outside of the view changes: one of M, or one that is newer than H0 -/
theorem Gr.mut {M : List Addr} {U0 H0 U H : Hp} {p : Addr} {o : HO} (g : Gr M U0 H0 U H) (nu : U p = none) (n0 : p ∈ M ∨ H0 p = none) : Gr M U0 H0 U (upd H p o) := by
  refine ⟨g.vv, same_mut g.vh nu, fun a x m h => ?_, fun a h => ?_, g.fr⟩
  · have e : a ≠ p := fun z => by
      subst z
      rcases n0 with n0 | n0
      · exact m n0
      · rw [n0] at h
        cases h
    rw [upd_ne e]
    exact g.hh a x m h
  · by_cases e : a = p
    · subst e
      rw [upd_same]
      intro z
      cases z
    · rw [upd_ne e]
      exact g.dom a h
/-- what will change no more comes into the view -/
theorem Gr.seal {M : List Addr} {U0 H0 U H : Hp} {p : Addr} {o : HO} (g : Gr M U0 H0 U H) (h : H p = some o) (nu : U p = none) (n0 : H0 p = none) : Gr M U0 H0 (upd U p o) H := by
  refine ⟨g.vv.trans (same_new nu), fun a x e => ?_, g.hh, g.dom, fun a e k => ?_⟩
  · by_cases z : a = p
    · subst z
      rw [upd_same] at e
      rw [h]
      exact e
    · rw [upd_ne z] at e
      exact g.vh a x e
  · have z : a ≠ p := fun z => by
      subst z
      exact k n0
    rw [upd_ne z]
    exact g.fr a e k
theorem Gr.fresh {M : List Addr} {U0 H0 U H : Hp} {p : Addr} (g : Gr M U0 H0 U H) (n : H p = none) : H0 p = none := by
  cases e : H0 p with
  | none => rfl
  | some x => exact absurd n (g.dom p (by rw [e]; intro z; cases z))
/-! ### the rules with the written part named (so that they serve inside comprehensions too) -/
section
variable {X : Cx} {K : PySem.W.Frag}
theorem ix_listK (h : X.K = K) : IxR X (rIxL K) := by subst h; exact ix_list
theorem ix_tupK (h : X.K = K) : IxR X (rIxT K) := by subst h; exact ix_tup
theorem sl_listK (h : X.K = K) : SlR X (rSlL K) := by subst h; exact sl_list
theorem sl_tupK (h : X.K = K) : SlR X (rSlT K) := by subst h; exact sl_tup
theorem op_inK (h : X.K = K) : OpR X (compareOp .In) (rIn K false) := by subst h; exact op_in_seq
theorem op_notInK (h : X.K = K) : OpR X (compareOp .NotIn) (rIn K true) := by subst h; exact op_notIn_seq
theorem op_eqDK (h : X.K = K) (hu : X.A.units + 64 < cLine) : OpR X (compareOp .Eq) (rEqD K) := by subst h; exact op_eqD hu
theorem op_neDK (h : X.K = K) (hu : X.A.units + 64 < cLine) : OpR X (compareOp .NotEq) (rNeD K) := by subst h; exact op_neD hu
theorem op_catTK (h : X.K = K) : OpR X (binaryOp .Add) (rCatT K) := by subst h; exact op_catT
def rLenK (K : PySem.W.Frag) : List V → Hp → VK → Prop := fun xs H Q => ∃ p ys, xs = [.ref p] ∧ (SqL K H p ys ∨ SqT K H p ys) ∧ Q (.int ys.length) H
def rListK (K : PySem.W.Frag) : List V → Hp → VK → Prop := fun xs H Q => ∃ p ys, xs = [.ref p] ∧ (SqL K H p ys ∨ SqT K H p ys) ∧ ∀ l, H l = none → Q (.ref l) (upd H l (.lst ys))
def rTupleK (K : PySem.W.Frag) : List V → Hp → VK → Prop := fun xs H Q => ∃ p ys, xs = [.ref p] ∧ ((SqL K H p ys ∧ ∀ l, H l = none → Q (.ref l) (upd H l (.tup ys))) ∨ (SqT K H p ys ∧ Q (.ref p) H))
theorem call_lenK (h : X.K = K) : CallR X (.builtin "len") (rLenK K) := by subst h; exact call_len_seq
theorem call_listK (h : X.K = K) : CallR X (.type "list") (rListK K) := by subst h; exact call_list_of
theorem call_tupleK (h : X.K = K) : CallR X (.type "tuple") (rTupleK K) := by subst h; exact call_tuple_of
theorem cr_sumK (h : X.K = K) (hc : X.calm = true) : CallR X (.builtin "sum") (rSum K) := by subst h; exact cr_sum hc
theorem cr_maxK (h : X.K = K) (hc : X.calm = true) : CallR X (.builtin "max") (rMax K) := by subst h; exact cr_max hc
theorem cr_minK (h : X.K = K) (hc : X.calm = true) : CallR X (.builtin "min") (rMin K) := by subst h; exact cr_min hc
theorem cr_allK (h : X.K = K) (hc : X.calm = true) : CallR X (.builtin "all") (rAll K) := by subst h; exact cr_all hc
theorem cr_anyK (h : X.K = K) (hc : X.calm = true) : CallR X (.builtin "any") (rAny K) := by subst h; exact cr_any hc
theorem cr_sortedK (h : X.K = K) : CallR X (.builtin "sorted") (rSorted K) := by subst h; exact cr_sorted
theorem call_isiKK (h : X.K = K) : CallR X (.builtin "isinstance") (rIsi K) := by subst h; exact call_isi
theorem pi_listK {tg e : Expr} {te : TE} (h : X.K = K) (he : PE X e te) : PI X tg e (iList K te) := by subst h; exact pi_list he
theorem pi_tupK {tg e : Expr} {te : TE} (h : X.K = K) (he : PE X e te) : PI X tg e (iTup K te) := by subst h; exact pi_tup he
theorem pg_tupK {pos : Pos} {es : List Expr} {k : Nat} {t : TGs} {n : Nat} (h : X.K = K) (hc : X.calm = true) (hh : PGs X es t) (hn : (assignEach es X.env).length = n := by rfl) (hst : (assignEach es X.env).findIdx? (·.1) = none := by rfl) : PG X (.Tuple es k pos) (gTup K n t) := by subst h; exact pg_tup hc hh hn hst
theorem pe_fldK {pos : Pos} {e : Expr} {ta : TE} {f : Str} (h : X.K = K) (he : PE X e ta) (hb : attributeBase e f X.env (eval e X.env) = eval e X.env) : PE X (.Attribute e f pos) (tFld K ta f) := by subst h; exact pe_fld he hb
end
/-! ### the readings, step by step -/
section
variable {σ : L2.St} {H : Hp} {Q : VK} {te ta tb tc : TE} {i : Nat} {v x y : V} {K : PySem.W.Frag} {n bk ct : L2.St → Hp → Prop} {rt : VK} {t u : TS} {g : TG}
theorem i_var (h : σ[i]? = some (some v)) (q : Q v H) : tVar i σ H Q := ⟨v, h, q⟩
theorem i_c (q : Q v H) : tC v σ H Q := q
theorem i_op {r : R2} (q : ta σ H (fun x H1 => tb σ H1 fun y H2 => r x y H2 Q)) : tOp r ta tb σ H Q := q
theorem i_un {r : V → Hp → VK → Prop} (q : ta σ H (fun x H1 => r x H1 Q)) : tUn r ta σ H Q := q
theorem i_rI0 {f : Int → Int → V} {a b : Int} (q : Q (f a b) H) : rI0 f (.int a) (.int b) H Q := ⟨a, b, rfl, rfl, q⟩
theorem i_rI {C : Int → Int → Prop} {f : Int → Int → V} {a b : Int} (c : C a b) (q : Q (f a b) H) : rI C f (.int a) (.int b) H Q := ⟨a, b, rfl, rfl, c, q⟩
theorem i_mulR {f : Int → Int → V} {a b : Int} (h0 : -(2 ^ 64) < b) (h1 : b < 2 ^ 64) (q : Q (f a b) H) : rI CMul f (.int a) (.int b) H Q := ⟨a, b, rfl, rfl, .inr ⟨h0, h1⟩, q⟩
theorem i_mulL {f : Int → Int → V} {a b : Int} (h0 : -(2 ^ 64) < a) (h1 : a < 2 ^ 64) (q : Q (f a b) H) : rI CMul f (.int a) (.int b) H Q := ⟨a, b, rfl, rfl, .inl ⟨h0, h1⟩, q⟩
theorem i_rU {f : Int → V} {a : Int} (q : Q (f a) H) : rU f (.int a) H Q := ⟨a, rfl, q⟩
theorem i_eqI {a b : Int} (q : Q (.bl (decide (a = b))) H) : rEq (.int a) (.int b) H Q := ⟨rfl, by
  have e : decide (V.int a = V.int b) = decide (a = b) := by
    by_cases h : a = b
    · rw [decide_eq_true h, decide_eq_true (congrArg V.int h)]
    · rw [decide_eq_false h, decide_eq_false (fun z => h (V.int.inj z))]
  show Q (.bl (decide (V.int a = V.int b))) H
  rw [e]
  exact q⟩
theorem i_neI {a b : Int} (q : Q (.bl (!decide (a = b))) H) : rNe (.int a) (.int b) H Q := ⟨rfl, by
  have e : decide (V.int a = V.int b) = decide (a = b) := by
    by_cases h : a = b
    · rw [decide_eq_true h, decide_eq_true (congrArg V.int h)]
    · rw [decide_eq_false h, decide_eq_false (fun z => h (V.int.inj z))]
  show Q (.bl (!decide (V.int a = V.int b))) H
  rw [e]
  exact q⟩
theorem i_eqS {a b : Str} (q : Q (.bl (decide (a = b))) H) : rEq (.str a) (.str b) H Q := ⟨rfl, by
  have e : decide (V.str a = V.str b) = decide (a = b) := by
    by_cases h : a = b
    · rw [decide_eq_true h, decide_eq_true (congrArg V.str h)]
    · rw [decide_eq_false h, decide_eq_false (fun z => h (V.str.inj z))]
  show Q (.bl (decide (V.str a = V.str b))) H
  rw [e]
  exact q⟩
theorem i_neS {a b : Str} (q : Q (.bl (!decide (a = b))) H) : rNe (.str a) (.str b) H Q := ⟨rfl, by
  have e : decide (V.str a = V.str b) = decide (a = b) := by
    by_cases h : a = b
    · rw [decide_eq_true h, decide_eq_true (congrArg V.str h)]
    · rw [decide_eq_false h, decide_eq_false (fun z => h (V.str.inj z))]
  show Q (.bl (!decide (V.str a = V.str b))) H
  rw [e]
  exact q⟩
theorem i_nil {R : List V → Hp → Prop} (q : R [] H) : tNil σ H R := q
theorem i_cons {R : List V → Hp → Prop} {tr : TA} (q : ta σ H (fun x H1 => tr σ H1 fun xs H2 => R (x :: xs) H2)) : tCons ta tr σ H R := q
theorem i_cb {r : List V → Hp → VK → Prop} {tr : TA} (q : tr σ H (fun vs H1 => r vs H1 Q)) : tCB r tr σ H Q := q
theorem i_call {sp : Sp} {dvs : List V} {E : XK} {tr : TA} (q : tr σ H (fun vs H1 => sp (vs ++ dvs) H1 Q E)) : tCall sp dvs E tr σ H Q := q
theorem i_callN {k m : Nat} {sp : Sp} {gV : List V → List V → List V} {E : XK} {tr tk : TA} (q : tr σ H fun vs H1 => tk σ H1 fun zs H2 => vs.length = k ∧ zs.length = m ∧ sp (gV vs zs) H2 Q E) : tCallN k m sp gV E tr tk σ H Q := q
theorem i_seq (q : t ⟨u ⟨n, rt, bk, ct⟩, rt, bk, ct⟩ σ H) : tSeq t u ⟨n, rt, bk, ct⟩ σ H := q
theorem i_next (q : n σ H) : tNext ⟨n, rt, bk, ct⟩ σ H := q
theorem i_brk (q : bk σ H) : tBreak ⟨n, rt, bk, ct⟩ σ H := q
theorem i_cont (q : ct σ H) : tCont ⟨n, rt, bk, ct⟩ σ H := q
theorem i_set (q : te σ H (fun x H1 => n (σ.set i (some x)) H1)) : tAsg te (gName i) ⟨n, rt, bk, ct⟩ σ H := q
theorem i_asg (q : te σ H (fun x H1 => g x σ H1 n)) : tAsg te g ⟨n, rt, bk, ct⟩ σ H := q
theorem i_drop (q : te σ H (fun _ H1 => n σ H1)) : tDrop te ⟨n, rt, bk, ct⟩ σ H := q
theorem i_ret (q : te σ H rt) : tRet te ⟨n, rt, bk, ct⟩ σ H := q
theorem i_retN (q : rt .non H) : tRetN ⟨n, rt, bk, ct⟩ σ H := q
theorem i_if {c : TT} (q : c σ H (fun b H1 => if b = true then t ⟨n, rt, bk, ct⟩ σ H1 else u ⟨n, rt, bk, ct⟩ σ H1)) : tIfS c t u ⟨n, rt, bk, ct⟩ σ H := q
theorem i_test {R : Bool → Hp → Prop} (q : te σ H (fun x H1 => ∃ k, x = .bl k ∧ R k H1)) : tTest te σ H R := q
theorem i_B {R : Bool → Hp → Prop} (q : te σ H (fun x H1 => ∃ k, x = .bl k ∧ R k H1)) : tB te σ H R := q
theorem i_bl {b : Bool} {R : Bool → Hp → Prop} (q : R b H) : ∃ k, V.bl b = .bl k ∧ R k H := ⟨b, rfl, q⟩
theorem i_not {c : TT} {R : Bool → Hp → Prop} (q : c σ H (fun b H1 => R (!b) H1)) : tNot c σ H R := q
theorem i_and {c d : TT} {R : Bool → Hp → Prop} (q : c σ H (fun b H1 => if b = true then d σ H1 R else R false H1)) : tAnd c d σ H R := q
theorem i_or {c d : TT} {R : Bool → Hp → Prop} (q : c σ H (fun b H1 => if b = true then R true H1 else d σ H1 R)) : tOr c d σ H R := q
theorem i_andV (q : ta σ H (fun x H1 => ∃ c, x = .bl c ∧ if c = true then tb σ H1 Q else Q (.bl false) H1)) : tAndV ta tb σ H Q := q
theorem i_orV (q : ta σ H (fun x H1 => ∃ c, x = .bl c ∧ if c = true then Q (.bl true) H1 else tb σ H1 Q)) : tOrV ta tb σ H Q := q
theorem i_notV (q : ta σ H (fun x H1 => ∃ c, x = .bl c ∧ Q (.bl (!c)) H1)) : tNotV ta σ H Q := q
theorem i_blV {b : Bool} {R : Bool → Prop} (q : R b) : ∃ k, V.bl b = .bl k ∧ R k := ⟨b, rfl, q⟩
theorem i_ifE {c : TT} (q : c σ H (fun b H1 => if b = true then ta σ H1 Q else tb σ H1 Q)) : tIf c ta tb σ H Q := q
theorem i_chain {r r' : R2} (q : ta σ H fun x H1 => tb σ H1 fun y H2 => r x y H2 fun z H3 => ∃ k, z = .bl k ∧ (if k = true then tc σ H3 fun w' H4 => r' y w' H4 Q else Q (.bl false) H3)) : tChain r r' ta tb tc σ H Q := q
theorem i_itT {A B : Prop} (q : A) : if true = true then A else B := by rw [if_pos rfl]; exact q
theorem i_itF {A B : Prop} (q : B) : if false = true then A else B := by rw [if_neg Bool.false_ne_true]; exact q
theorem i_ite {p : Prop} [Decidable p] {A B : Prop} (h1 : p → A) (h2 : ¬ p → B) : if decide p = true then A else B := by
  by_cases h : p
  · rw [decide_eq_true h, if_pos rfl]; exact h1 h
  · rw [decide_eq_false h, if_neg Bool.false_ne_true]; exact h2 h
theorem i_iteN {p : Prop} [Decidable p] {A B : Prop} (h1 : ¬ p → A) (h2 : p → B) : if (!decide p) = true then A else B := by
  by_cases h : p
  · rw [decide_eq_true h]; exact i_itF (h2 h)
  · rw [decide_eq_false h]; exact i_itT (h1 h)
theorem i_iteNT {A B : Prop} (q : B) : if (!true) = true then A else B := i_itF q
theorem i_iteNF {A B : Prop} (q : A) : if (!false) = true then A else B := i_itT q
theorem i_iteNN {b : Bool} {A B : Prop} (q : if b = true then A else B) : if (!!b) = true then A else B := by rw [Bool.not_not]; exact q
theorem i_ixL {p : Addr} {xs : List V} {k : Int} (h : H p = some (.lst xs)) (ha : atI xs k = some v) (q : Q v H) : rIxL K (.ref p) (.int k) H Q := ⟨p, xs, k, v, rfl, rfl, SqL.of h, ha, q⟩
theorem i_ixT {p : Addr} {xs : List V} {k : Int} (h : H p = some (.tup xs)) (ha : atI xs k = some v) (q : Q v H) : rIxT K (.ref p) (.int k) H Q := ⟨p, xs, k, v, rfl, rfl, SqT.of h, ha, q⟩
theorem i_sub {to ti : TE} {s : TSet} {R : L2.St → Hp → Prop} (q : to σ H fun o H1 => ti σ H1 fun j H2 => s o j v H2 fun H3 => R σ H3) : gSub to ti s v σ H R := q
theorem i_setL {p : Addr} {xs : List V} {k : Int} {j : Nat} {R : Hp → Prop} (h : H p = some (.lst xs)) (hk : ixN xs.length k = some j) (q : R (upd H p (.lst (xs.set j v)))) : rSetL (.ref p) (.int k) v H R := ⟨p, xs, k, j, rfl, rfl, h, hk, q⟩
theorem i_lst {tr : TA} (q : tr σ H fun xs H1 => xs.length ≤ sizeLine ∧ ∀ p, H1 p = none → Q (.ref p) (upd H1 p (.lst xs))) : tLst tr σ H Q := q
theorem i_tup {tr : TA} (q : tr σ H fun xs H1 => xs.length ≤ sizeLine ∧ ∀ p, H1 p = none → Q (.ref p) (upd H1 p (.tup xs))) : tTup tr σ H Q := q
theorem i_sl {r : V → Option Int → Option Int → Hp → VK → Prop} {tl th : TO} (q : te σ H fun x H1 => tl σ H1 fun l H2 => th σ H2 fun u H3 => r x l u H3 Q) : tSl r te tl th σ H Q := q
theorem i_nopart {R : Option Int → Hp → Prop} (q : R none H) : tNoPart σ H R := q
theorem i_part {R : Option Int → Hp → Prop} (q : te σ H fun x H1 => ∃ i, x = .int i ∧ R (some i) H1) : tPart te σ H R := q
theorem i_partE {k : Int} {R : Int → Prop} (q : R k) : ∃ i, V.int k = .int i ∧ R i := ⟨k, rfl, q⟩
theorem i_slL {a : Addr} {xs : List V} {lo hi : Option Int} (h : H a = some (.lst xs)) (q : ∀ p, H p = none → Q (.ref p) (upd H p (.lst (cutV xs lo hi)))) : rSlL K (.ref a) lo hi H Q := ⟨a, xs, rfl, SqL.of h, q⟩
theorem i_all {a : Addr} {bs : List Bool} (h : H a = some (.lst (bs.map V.bl))) (q : Q (.bl (bs.all id)) H) : rAll K [.ref a] H Q := ⟨a, bs, rfl, SqL.of h, q⟩
theorem i_any {a : Addr} {bs : List Bool} (h : H a = some (.lst (bs.map V.bl))) (q : Q (.bl (bs.any id)) H) : rAny K [.ref a] H Q := ⟨a, bs, rfl, SqL.of h, q⟩
theorem i_sum {a : Addr} {ns : List Int} (h : H a = some (.lst (ns.map V.int))) (q : Q (.int ns.sum) H) : rSum K [.ref a] H Q := ⟨a, ns, rfl, SqL.of h, q⟩
theorem i_lenL {p : Addr} {xs : List V} (h : H p = some (.lst xs)) (q : Q (.int xs.length) H) : rLenK K [.ref p] H Q := ⟨p, xs, rfl, .inl (SqL.of h), q⟩
theorem i_lenT {p : Addr} {xs : List V} (h : H p = some (.tup xs)) (q : Q (.int xs.length) H) : rLenK K [.ref p] H Q := ⟨p, xs, rfl, .inr (SqT.of h), q⟩
theorem i_listL {p : Addr} {xs : List V} (h : H p = some (.lst xs)) (q : ∀ l, H l = none → Q (.ref l) (upd H l (.lst xs))) : rListK K [.ref p] H Q := ⟨p, xs, rfl, .inl (SqL.of h), q⟩
theorem i_listT {p : Addr} {xs : List V} (h : H p = some (.tup xs)) (q : ∀ l, H l = none → Q (.ref l) (upd H l (.lst xs))) : rListK K [.ref p] H Q := ⟨p, xs, rfl, .inr (SqT.of h), q⟩
theorem i_tupleL {p : Addr} {xs : List V} (h : H p = some (.lst xs)) (q : ∀ l, H l = none → Q (.ref l) (upd H l (.tup xs))) : rTupleK K [.ref p] H Q := ⟨p, xs, rfl, .inl ⟨SqL.of h, q⟩⟩
theorem i_tupleT {p : Addr} {xs : List V} (h : H p = some (.tup xs)) (q : Q (.ref p) H) : rTupleK K [.ref p] H Q := ⟨p, xs, rfl, .inr ⟨SqT.of h, q⟩⟩
theorem i_catT {a b : Addr} {xs ys : List V} (h : H a = some (.tup xs)) (h' : H b = some (.tup ys)) (nx : xs ≠ []) (ny : ys ≠ []) (hl : xs.length + ys.length ≤ sizeLine) (q : ∀ p, H p = none → Q (.ref p) (upd H p (.tup (xs ++ ys)))) : rCatT K (.ref a) (.ref b) H Q :=
  ⟨a, b, xs, ys, rfl, rfl, SqT.of h, SqT.of h', nx, hl, fun e => absurd e ny, fun _ => q⟩
theorem i_slT {a : Addr} {xs : List V} {lo hi : Option Int} (h : H a = some (.tup xs)) (hw : ¬ (HT.sIx xs.length 0 lo = 0 ∧ HT.sIx xs.length xs.length hi = xs.length)) (q : ∀ p, H p = none → Q (.ref p) (upd H p (.tup (cutV xs lo hi)))) : rSlT K (.ref a) lo hi H Q := ⟨a, xs, rfl, SqT.of h, hw, q⟩
theorem i_bm {Ty : String} {r : V → List V → Hp → VK → Prop} {to : TE} {t : TA} (q : to σ H fun x H1 => tyV K Ty x H1 ∧ t σ H1 fun xs H2 => r x xs H2 Q) : tBM K Ty r to t σ H Q := q
theorem i_bm0 {Ty : String} {r : V → List V → Hp → VK → Prop} {to : TE} (q : to σ H fun x H1 => tyV K Ty x H1 ∧ r x [] H1 Q) : tBM0 K Ty r to σ H Q := q
theorem i_tyL {p : Addr} {xs : List V} {R : Prop} (h : H p = some (.lst xs)) (q : R) : tyV K "list" (.ref p) H ∧ R := ⟨.inl ⟨rfl, _, SqL.of h⟩, q⟩
theorem i_app {p : Addr} {xs : List V} {y : V} (h : H p = some (.lst xs)) (hl : xs.length ≤ 1000) (q : Q .non (upd H p (.lst (xs ++ [y])))) : rAppend (.ref p) [y] H Q := ⟨p, xs, y, rfl, rfl, h, small1000 hl, q⟩
theorem i_popAt {p : Addr} {xs : List V} {i : Int} {k : Nat} {y : V} (h : H p = some (.lst xs)) (e : i = (k : Int)) (hk : xs[k]? = some y) (hz : xs.length ≤ 1000) (q : Q y (upd H p (.lst (xs.eraseIdx k)))) : rPopAt (.ref p) [.int i] H Q := by
  have hl := (List.getElem?_eq_some_iff.mp hk).1
  refine ⟨p, xs, i, k, y, rfl, rfl, h, by omega, by omega, ?_, hk, q⟩
  exact (ixN_seq (show ixN xs.length i = some k by
    unfold ixN
    rw [e, if_pos (by omega), if_pos (by omega), Int.toNat_natCast])).1
theorem i_isN {x : V} (q : Q (.bl (decide (x = .non))) H) : (.non : V) = .non ∧ Q (.bl (decide (x = .non))) H := ⟨rfl, q⟩
theorem i_abs {a : Int} (q : Q (.int (if a < 0 then -a else a)) H) : (fun (xs : List V) (H : Hp) (Q : VK) => ∃ i, xs = [.int i] ∧ Q (.int (if i < 0 then -i else i)) H) [.int a] H Q := ⟨a, rfl, q⟩
end
/-! ### loops -/
def LOOP (J : It) (g : TG) (tb : TS) (D : Ends) (σ : L2.St) (H : Hp) : Prop := ∃ W : Nat → Nat → L2.St → Hp → Prop, (∃ m, W 0 m σ H) ∧ ∀ i m σ H, W i m σ H →
  (J.stop i H ∧ D.nx σ H) ∨ (J.go i H ∧ ∃ N : L2.St → Hp → Prop, (∀ σ' H', N σ' H' → ∃ m', m' < m ∧ W (i + 1) m' σ' H') ∧ ∀ x H', J.yld i H x H' → g x σ H' fun σ2 H2 => tb { D with nx := N, ct := N, bk := D.nx } σ2 H2)
section
variable {σ : L2.St} {H : Hp} {K : PySem.W.Frag} {n bk ct : L2.St → Hp → Prop} {rt : VK} {tb : TS} {g : TG} {te : TE} {ta : TA}
theorem i_for1 (q : ta σ H fun vs H1 => ∃ j : Int, vs = [.int j] ∧ -(2 ^ 62) ≤ j ∧ j < 2 ^ 62 ∧ LOOP (Itr 0 j.toNat) g tb ⟨n, rt, bk, ct⟩ σ H1) : tFor (iRng1 ta) g tb ⟨n, rt, bk, ct⟩ σ H := q
theorem i_for2 (q : ta σ H fun vs H1 => ∃ i j : Int, vs = [.int i, .int j] ∧ (-(2 ^ 62) ≤ i ∧ i < 2 ^ 62 ∧ -(2 ^ 62) ≤ j ∧ j < 2 ^ 62) ∧ LOOP (Itr i (j - i).toNat) g tb ⟨n, rt, bk, ct⟩ σ H1) : tFor (iRng2 ta) g tb ⟨n, rt, bk, ct⟩ σ H := q
theorem i_for3 (q : ta σ H fun vs H1 => ∃ (i j c : Int) (m : Nat), vs = [.int i, .int j, .int c] ∧ RgC i j c m ∧ LOOP (Itc i c m) g tb ⟨n, rt, bk, ct⟩ σ H1) : tFor (iRng3 ta) g tb ⟨n, rt, bk, ct⟩ σ H := q
theorem l_rngC {lo c : Int} {m : Nat} (Pv : Nat → L2.St → Hp → Prop) (h0 : Pv 0 σ H) (hs : ∀ i σ H, i < m → Pv i σ H → g (.int (lo + (i : Nat) * c)) σ H fun σ2 H2 => tb ⟨Pv (i + 1), rt, n, Pv (i + 1)⟩ σ2 H2) (hd : ∀ σ H, Pv m σ H → n σ H) :
    LOOP (Itc lo c m) g tb ⟨n, rt, bk, ct⟩ σ H := for_rangeC Pv h0 hs hd
theorem i_forL (q : te σ H fun x H1 => ∃ a, x = .ref a ∧ (∃ xs, SqL K H1 a xs) ∧ LOOP (Itl K a) g tb ⟨n, rt, bk, ct⟩ σ H1) : tFor (iList K te) g tb ⟨n, rt, bk, ct⟩ σ H := q
theorem i_forT (q : te σ H fun x H1 => ∃ a, x = .ref a ∧ (∃ xs, SqT K H1 a xs) ∧ LOOP (Itt K a) g tb ⟨n, rt, bk, ct⟩ σ H1) : tFor (iTup K te) g tb ⟨n, rt, bk, ct⟩ σ H := q
theorem l_rng {lo : Int} {m : Nat} (Pv : Nat → L2.St → Hp → Prop) (h0 : Pv 0 σ H) (hs : ∀ i σ H, i < m → Pv i σ H → g (.int (lo + i)) σ H fun σ2 H2 => tb ⟨Pv (i + 1), rt, n, Pv (i + 1)⟩ σ2 H2) (hd : ∀ σ H, Pv m σ H → n σ H) :
    LOOP (Itr lo m) g tb ⟨n, rt, bk, ct⟩ σ H := for_range Pv h0 hs hd
theorem l_lst {a : Addr} {xs : List V} (Pv : Nat → L2.St → Hp → Prop) (h0 : Pv 0 σ H) (hl : ∀ i σ H, i ≤ xs.length → Pv i σ H → SqL K H a xs)
    (hs : ∀ i x σ H, xs[i]? = some x → Pv i σ H → g x σ H fun σ2 H2 => tb ⟨Pv (i + 1), rt, n, Pv (i + 1)⟩ σ2 H2) (hd : ∀ σ H, Pv xs.length σ H → n σ H) : LOOP (Itl K a) g tb ⟨n, rt, bk, ct⟩ σ H := for_list Pv h0 hl hs hd
theorem l_tup {a : Addr} {xs : List V} (Pv : Nat → L2.St → Hp → Prop) (h0 : Pv 0 σ H) (hl : ∀ i σ H, i ≤ xs.length → Pv i σ H → SqT K H a xs)
    (hs : ∀ i x σ H, xs[i]? = some x → Pv i σ H → g x σ H fun σ2 H2 => tb ⟨Pv (i + 1), rt, n, Pv (i + 1)⟩ σ2 H2) (hd : ∀ σ H, Pv xs.length σ H → n σ H) : LOOP (Itt K a) g tb ⟨n, rt, bk, ct⟩ σ H := for_tup Pv h0 hl hs hd
theorem i_while {c : TT} (W : Nat → L2.St → Hp → Prop) (m : Nat) (w0 : W m σ H) (hs : ∀ m σ H, W m σ H → c σ H fun b H1 => if b = true then ∃ N : L2.St → Hp → Prop, (∀ σ' H', N σ' H' → ∃ m', m' < m ∧ W m' σ' H') ∧ tb ⟨N, rt, n, N⟩ σ H1 else n σ H1) :
    tWhile c tb ⟨n, rt, bk, ct⟩ σ H := ⟨W, ⟨m, w0⟩, hs⟩
theorem i_par {i j : Nat} (q : ta σ H fun vs H1 => ∃ v w, vs = [v, w] ∧ n ((σ.set i (some v)).set j (some w)) H1) : tPar i j ta ⟨n, rt, bk, ct⟩ σ H := q
theorem i_parE {x y : V} {R : V → V → Prop} (q : R x y) : ∃ v w, [x, y] = [v, w] ∧ R v w := ⟨x, y, rfl, q⟩
theorem i_aug {i : Nat} {ti : TIp} {x : V} (h : σ[i]? = some (some x)) (q : te σ H fun y H1 => ti x y H1 fun z H2 => n (σ.set i (some z)) H2) : tAug i te ti ⟨n, rt, bk, ct⟩ σ H := ⟨_, h, q⟩
theorem i_ipI {f : Int → Int → Int} {a b : Int} {Q : VK} (q : Q (.int (f a b)) H) : ipI f (.int a) (.int b) H Q := ⟨a, b, rfl, rfl, q⟩
theorem ip_mul {X : Cx} : PIp X .Mult (rI CMul fun i j => .int (i * j)) := fun pins s σ H x y v u Q I rx ry h => iop_mul pins s σ H x y v u Q I rx ry h
theorem i_asg2 {g1 g2 : TG} (q : te σ H fun x H1 => g1 x σ H1 fun σ1 H2 => g2 x σ1 H2 n) : tAsg2 te g1 g2 ⟨n, rt, bk, ct⟩ σ H := q
theorem i_gtup {a : Addr} {xs : List V} {k : Nat} {tg : TGs} {R : L2.St → Hp → Prop} (h : H a = some (.tup xs)) (hl : xs.length = k) (q : tg xs σ H R) : gTup K k tg (.ref a) σ H R := ⟨a, xs, rfl, SqT.of h, hl, q⟩
theorem i_gcons {v : V} {r : List V} {tg : TGs} {R : L2.St → Hp → Prop} (q : g v σ H fun σ' H' => tg r σ' H' R) : gCons g tg (v :: r) σ H R := ⟨v, r, rfl, q⟩
theorem i_gnil {R : L2.St → Hp → Prop} (q : R σ H) : gNil [] σ H R := ⟨rfl, q⟩
theorem i_gname {i : Nat} {x : V} {R : L2.St → Hp → Prop} (q : R (σ.set i (some x)) H) : gName i x σ H R := q
end
/-! ### a word between a statement and what follows -/
def tCut (t u : TS) : TS := fun D σ H => ∃ Mid : L2.St → Hp → Prop, t { D with nx := Mid } σ H ∧ ∀ σ' H', Mid σ' H' → u D σ' H'
theorem pss_cut {X : Cx} {st : Stmt} {rest : List Stmt} {t u : TS} (h1 : PS X st t) (h2 : PSs X rest u) : PSs X (st :: rest) (tCut t u) := by
  refine ⟨fun pins s σ H D I h => ?_⟩
  obtain ⟨M, hm, hu⟩ := h
  refine wpAny_execs_cons (thn (h1.run pins s σ H { D with nx := M } I hm) fun f s1 z => ?_)
  cases f with
  | next =>
    obtain ⟨a, b, c, z⟩ := z
    exact h2.run pins s1 a b D c (hu a b z)
  | ret v => exact z
  | brk => exact z
  | cont => exact z
theorem i_cut {σ : L2.St} {H : Hp} {n bk ct : L2.St → Hp → Prop} {rt : VK} {t u : TS} (Mid : L2.St → Hp → Prop) (h : t ⟨Mid, rt, bk, ct⟩ σ H) (k : ∀ σ' H', Mid σ' H' → u ⟨n, rt, bk, ct⟩ σ' H') : tCut t u ⟨n, rt, bk, ct⟩ σ H := ⟨Mid, h, k⟩
/-- the same for a value and for a test -/
def tCutE (t : TE) : TE := fun σ H Q => ∃ Mid : VK, t σ H Mid ∧ ∀ v H', Mid v H' → Q v H'
theorem pe_cut {X : Cx} {e : Expr} {t : TE} (h : PE X e t) : PE X e (tCutE t) := by
  refine ⟨fun pins s σ H Q I q => ?_⟩
  obtain ⟨M, hm, hu⟩ := q
  exact thn (h.run pins s σ H M I hm) fun v s1 ⟨x, H1, I1, r1, z⟩ => ⟨x, H1, I1, r1, hu _ _ z⟩
theorem i_cutE {σ : L2.St} {H : Hp} {Q : VK} {t : TE} (Mid : VK) (h : t σ H Mid) (k : ∀ v H', Mid v H' → Q v H') : tCutE t σ H Q := ⟨Mid, h, k⟩
def tCutT (t : TT) : TT := fun σ H Q => ∃ Mid : Bool → Hp → Prop, t σ H Mid ∧ ∀ v H', Mid v H' → Q v H'
theorem pt_cut {X : Cx} {e : Expr} {t : TT} (h : PT X e t) : PT X e (tCutT t) := by
  refine ⟨fun pins s σ H Q I q => ?_⟩
  obtain ⟨M, hm, hu⟩ := q
  exact thn (h.run pins s σ H M I hm) fun v s1 ⟨H1, I1, z⟩ => ⟨H1, I1, hu _ _ z⟩
theorem i_cutT {σ : L2.St} {H : Hp} {Q : Bool → Hp → Prop} {t : TT} (Mid : Bool → Hp → Prop) (h : t σ H Mid) (k : ∀ v H', Mid v H' → Q v H') : tCutT t σ H Q := ⟨Mid, h, k⟩
/-! ### comprehensions -/
def COMP (J : It) (g : TG) (tt : TT) (te : TE) (vs : List Nat) (σ : L2.St) (H1 : Hp) (D : Addr) (Q : VK) : Prop := ∃ W : Nat → Nat → Hp → Prop, (∃ m, W 0 m (upd H1 D (.lst []))) ∧ ∀ i m H, W i m H →
  (J.stop i H ∧ Q (.ref D) H) ∨ (J.go i H ∧ ∃ Nx : Hp → Prop, (∀ H', Nx H' → ∃ m', m' < m ∧ W (i + 1) m' H') ∧ ∀ x H', J.yld i H x H' → g x (wipe σ vs) H' fun σ2 H2 => wipe σ2 vs = wipe σ vs ∧ tt σ2 H2 fun b H3 =>
    if b = true then te σ2 H3 fun y H4 => ∃ acc, H4 D = some (.lst acc) ∧ acc.length < sizeLine ∧ Nx (upd H4 D (.lst (acc ++ [y]))) else Nx H3)
section
variable {σ : L2.St} {H : Hp} {K : PySem.W.Frag} {Q : VK} {g : TG} {tt : TT} {te tl : TE} {ta : TA} {vs : List Nat}
theorem i_lc1 (q : ta σ H fun us H1 => ∃ j : Int, us = [.int j] ∧ -(2 ^ 62) ≤ j ∧ j < 2 ^ 62 ∧ ∀ D, H1 D = none → COMP (Itr 0 j.toNat) g tt te vs σ H1 D Q) : tLc (iRng1 ta) g tt te vs σ H Q := q
theorem i_lc2 (q : ta σ H fun us H1 => ∃ i j : Int, us = [.int i, .int j] ∧ (-(2 ^ 62) ≤ i ∧ i < 2 ^ 62 ∧ -(2 ^ 62) ≤ j ∧ j < 2 ^ 62) ∧ ∀ D, H1 D = none → COMP (Itr i (j - i).toNat) g tt te vs σ H1 D Q) : tLc (iRng2 ta) g tt te vs σ H Q := q
theorem i_lcL (q : tl σ H fun x H1 => ∃ a, x = .ref a ∧ (∃ xs, SqL K H1 a xs) ∧ ∀ D, H1 D = none → COMP (Itl K a) g tt te vs σ H1 D Q) : tLc (iList K tl) g tt te vs σ H Q := q
theorem i_lcT (q : tl σ H fun x H1 => ∃ a, x = .ref a ∧ (∃ xs, SqT K H1 a xs) ∧ ∀ D, H1 D = none → COMP (Itt K a) g tt te vs σ H1 D Q) : tLc (iTup K tl) g tt te vs σ H Q := q
theorem c_rng {lo : Int} {n : Nat} {D : Addr} (Pv : Nat → Hp → Prop) (h0 : Pv 0 (upd H D (.lst [])))
    (hs : ∀ i H, i < n → Pv i H → g (.int (lo + i)) (wipe σ vs) H fun σ2 H2 => wipe σ2 vs = wipe σ vs ∧ tt σ2 H2 fun b H3 =>
      if b = true then te σ2 H3 fun y H4 => ∃ acc, H4 D = some (.lst acc) ∧ acc.length < sizeLine ∧ Pv (i + 1) (upd H4 D (.lst (acc ++ [y]))) else Pv (i + 1) H3) (hd : ∀ H, Pv n H → Q (.ref D) H) :
    COMP (Itr lo n) g tt te vs σ H D Q := lc_range Pv h0 hs hd
theorem c_lst {a D : Addr} {xs : List V} (Pv : Nat → Hp → Prop) (h0 : Pv 0 (upd H D (.lst []))) (hl : ∀ i H, i ≤ xs.length → Pv i H → SqL K H a xs)
    (hs : ∀ i x H, xs[i]? = some x → Pv i H → g x (wipe σ vs) H fun σ2 H2 => wipe σ2 vs = wipe σ vs ∧ tt σ2 H2 fun b H3 =>
      if b = true then te σ2 H3 fun y H4 => ∃ acc, H4 D = some (.lst acc) ∧ acc.length < sizeLine ∧ Pv (i + 1) (upd H4 D (.lst (acc ++ [y]))) else Pv (i + 1) H3) (hd : ∀ H, Pv xs.length H → Q (.ref D) H) :
    COMP (Itl K a) g tt te vs σ H D Q := lc_list Pv h0 hl hs hd
theorem c_tup {a D : Addr} {xs : List V} (Pv : Nat → Hp → Prop) (h0 : Pv 0 (upd H D (.lst []))) (hl : ∀ i H, i ≤ xs.length → Pv i H → SqT K H a xs)
    (hs : ∀ i x H, xs[i]? = some x → Pv i H → g x (wipe σ vs) H fun σ2 H2 => wipe σ2 vs = wipe σ vs ∧ tt σ2 H2 fun b H3 =>
      if b = true then te σ2 H3 fun y H4 => ∃ acc, H4 D = some (.lst acc) ∧ acc.length < sizeLine ∧ Pv (i + 1) (upd H4 D (.lst (acc ++ [y]))) else Pv (i + 1) H3) (hd : ∀ H, Pv xs.length H → Q (.ref D) H) :
    COMP (Itt K a) g tt te vs σ H D Q := lc_tup Pv h0 hl hs hd
theorem i_yes {R : Bool → Hp → Prop} (q : R true H) : tYes σ H R := q
end
def spCommon : Sp := fun vs H Q _ => ∃ p q : Int, vs = [.int p, .int q] ∧ 0 ≤ p ∧ 0 ≤ q ∧ Q (.int (Int.gcd p q)) H
/-! ### lists of tuples -/
def LT (U : Hp) (p : Addr) (rows : List (List V)) : Prop := ∃ as : List Addr, U p = some (.lst (as.map V.ref)) ∧ Paired (fun a r => U a = some (.tup r)) as rows
theorem Paired.imp {α β : Type} {F G : α → β → Prop} (h : ∀ a b, F a b → G a b) : ∀ {xs : List α} {ys : List β}, Paired F xs ys → Paired G xs ys
  | _, _, .nil => .nil
  | _, _, .cons a t => .cons (h _ _ a) (Paired.imp h t)
theorem Paired.at {α β : Type} {F : α → β → Prop} : ∀ {xs : List α} {ys : List β}, Paired F xs ys → ∀ (i : Nat) (y : β), ys[i]? = some y → ∃ x, xs[i]? = some x ∧ F x y
  | _, _, .nil, i, y, e => by simp at e
  | _, _, .cons a t, 0, y, e => by
    have e' := Option.some.inj e
    subst e'
    exact ⟨_, rfl, a⟩
  | _, _, .cons a t, i + 1, y, e => Paired.at t i y e
theorem Paired.at' {α β : Type} {F : α → β → Prop} : ∀ {xs : List α} {ys : List β}, Paired F xs ys → ∀ (i : Nat) (x : α), xs[i]? = some x → ∃ y, ys[i]? = some y ∧ F x y
  | _, _, .nil, i, y, e => by simp at e
  | _, _, .cons a t, 0, y, e => by
    have e' := Option.some.inj e
    subst e'
    exact ⟨_, rfl, a⟩
  | _, _, .cons a t, i + 1, y, e => Paired.at' t i y e
theorem Paired.len {α β : Type} {F : α → β → Prop} : ∀ {xs : List α} {ys : List β}, Paired F xs ys → xs.length = ys.length
  | _, _, .nil => rfl
  | _, _, .cons _ t => congrArg (· + 1) (Paired.len t)
theorem Paired.tk {α β : Type} {F : α → β → Prop} : ∀ {xs : List α} {ys : List β} (k : Nat), Paired F xs ys → Paired F (xs.take k) (ys.take k)
  | _, _, 0, _ => .nil
  | _, _, _ + 1, .nil => .nil
  | _, _, k + 1, .cons a t => .cons a (Paired.tk k t)
theorem Paired.dp {α β : Type} {F : α → β → Prop} : ∀ {xs : List α} {ys : List β} (k : Nat), Paired F xs ys → Paired F (xs.drop k) (ys.drop k)
  | _, _, 0, h => h
  | _, _, _ + 1, .nil => .nil
  | _, _, k + 1, .cons _ t => Paired.dp k t
theorem Paired.mp {α β γ : Type} {F : α → γ → Prop} {f : β → γ} : ∀ {xs : List α} {ys : List β}, Paired (fun a b => F a (f b)) xs ys → Paired F xs (ys.map f)
  | _, _, .nil => .nil
  | _, _, .cons a t => .cons a (Paired.mp t)
theorem LT.mono {U U' : Hp} {p : Addr} {rows : List (List V)} (e : Same U U') (h : LT U p rows) : LT U' p rows := by
  obtain ⟨as, h1, h2⟩ := h
  exact ⟨as, e _ _ h1, Paired.imp (fun a r x => e _ _ x) h2⟩
section
variable {σ : L2.St} {H U : Hp} {K : PySem.W.Frag} {n bk ct : L2.St → Hp → Prop} {rt : VK} {tb : TS} {g : TG} {te : TE} {ta : TA} {p : Addr} {rows : List (List V)}
theorem LT.len (h : LT U p rows) : ∃ xs : List V, U p = some (.lst xs) ∧ xs.length = rows.length := by
  obtain ⟨as, h1, h2⟩ := h
  exact ⟨_, h1, by rw [List.length_map, Paired.len h2]⟩
theorem LT.get (h : LT U p rows) : ∃ xs : List V, U p = some (.lst xs) ∧ xs.length = rows.length ∧ ∀ (i : Nat) (r : List V), rows[i]? = some r → ∃ a : Addr, xs[i]? = some (V.ref a) ∧ U a = some (.tup r) := by
  obtain ⟨as, h1, h2⟩ := h
  refine ⟨_, h1, by rw [List.length_map, Paired.len h2], fun i r e => ?_⟩
  obtain ⟨a, e1, e2⟩ := Paired.at h2 i r e
  exact ⟨a, by rw [List.getElem?_map, e1]; rfl, e2⟩
theorem l_LT (h : LT U p rows) (Pv : Nat → L2.St → Hp → Prop) (h0 : Pv 0 σ H) (hv : ∀ i σ H, Pv i σ H → Same U H)
    (hs : ∀ i r a σ H, rows[i]? = some r → H a = some (.tup r) → Pv i σ H → g (.ref a) σ H fun σ2 H2 => tb ⟨Pv (i + 1), rt, n, Pv (i + 1)⟩ σ2 H2) (hd : ∀ σ H, Pv rows.length σ H → n σ H) : LOOP (Itl K p) g tb ⟨n, rt, bk, ct⟩ σ H := by
  obtain ⟨as, h1, h2⟩ := h
  refine l_lst (xs := as.map V.ref) Pv h0 (fun i σ H _ q => SqL.of (hv i σ H q _ _ h1)) (fun i x σ H e q => ?_) (fun σ H q => hd σ H ?_)
  · rw [List.getElem?_map] at e
    cases ea : as[i]? with
    | none =>
      rw [ea] at e
      cases e
    | some a =>
      rw [ea] at e
      have e' := Option.some.inj e
      subst e'
      obtain ⟨r, er, hr⟩ := Paired.at' h2 i a ea
      exact hs i r a σ H er (hv i σ H q _ _ hr) q
  · rw [List.length_map, Paired.len h2] at q
    exact q
end
theorem cut_to (xs : List V) (k : Nat) : cutV xs none (some (k : Int)) = xs.take k := by
  unfold cutV
  rw [HT.sIx_nat, HT.sIx_none, List.drop_zero, Nat.sub_zero]
  by_cases h : k ≤ xs.length
  · rw [Nat.min_eq_left h]
  · rw [Nat.min_eq_right (by omega), List.take_length, List.take_of_length_le (by omega)]
theorem cut_from (xs : List V) (k : Nat) : cutV xs (some (k : Int)) none = xs.drop k := by
  unfold cutV
  rw [HT.sIx_nat, HT.sIx_none]
  by_cases h : k ≤ xs.length
  · rw [Nat.min_eq_left h, List.take_of_length_le]
    rw [List.length_drop]
    exact Nat.le_refl _
  · rw [Nat.min_eq_right (by omega), List.drop_length, List.drop_of_length_le (by omega), List.take_nil]
def dV : V → PyData
  | .int i => .int i
  | .bl b => .bool b
  | .str x => .str x
  | _ => .none
theorem dV_dp {K : PySem.W.Frag} {H : Hp} {v : V} (h : (match v with | .int _ => true | .bl _ => true | .str _ => true | .non => true | _ => false) = true) : Dp K H v (dV v) := by
  cases v with
  | int i => exact .int i
  | bl b => exact .bl b
  | str x => exact .str x
  | non => exact .non
  | byt _ => cases h
  | flt _ => cases h
  | ref _ => cases h
  | ty _ => cases h
theorem LT.dp {K : PySem.W.Frag} {U H : Hp} {p : Addr} {rows : List (List V)} (e : Same U H) (h : LT U p rows) (f : ∀ r ∈ rows, ∀ v ∈ r, Dp K H v (dV v)) : Dp K H (.ref p) (.list (rows.map fun r => .tuple (r.map dV))) := by
  obtain ⟨as, h1, h2⟩ := h
  refine .lst (SqL.of (e _ _ h1)) ?_
  clear h1
  induction h2 with
  | nil => exact .nil
  | @cons a r as rows h t ih =>
    refine .cons (.tup (SqT.of (e _ _ h)) ?_) (ih fun x hx => f x (List.mem_cons_of_mem _ hx))
    have fr := f r List.mem_cons_self
    clear h ih t f
    induction r with
    | nil => exact .nil
    | cons v r ih => exact .cons (fr v List.mem_cons_self) (ih fun x hx => fr x (List.mem_cons_of_mem _ hx))
def Lay (n : Nat) (d : PyData) : Prop := d.canLay0 = true ∧ d.depth ≤ n
theorem lay_all {n : Nat} : ∀ {xs : List PyData}, (∀ x ∈ xs, Lay n x) → PyData.canLayAll0 xs = true ∧ PyData.depthAll xs ≤ n
  | [], _ => ⟨rfl, Nat.zero_le _⟩
  | x :: r, h => by
    have h1 := h x List.mem_cons_self
    have h2 := lay_all (xs := r) fun y hy => h y (List.mem_cons_of_mem _ hy)
    constructor
    · show (x.canLay0 && PyData.canLayAll0 r) = true
      rw [h1.1, h2.1]
      rfl
    · show max x.depth (PyData.depthAll r) ≤ n
      exact Nat.max_le.mpr ⟨h1.2, h2.2⟩
theorem lay_int {n : Nat} {i : Int} : Lay n (.int i) := ⟨rfl, Nat.zero_le _⟩
theorem lay_none {n : Nat} : Lay n .none := ⟨rfl, Nat.zero_le _⟩
theorem lay_bool {n : Nat} {b : Bool} : Lay n (.bool b) := ⟨rfl, Nat.zero_le _⟩
theorem lay_list {n : Nat} {xs : List PyData} (h : ∀ x ∈ xs, Lay n x) : Lay (n + 1) (.list xs) := ⟨(lay_all h).1, Nat.succ_le_succ (lay_all h).2⟩
theorem lay_tuple {n : Nat} {xs : List PyData} (h : ∀ x ∈ xs, Lay n x) : Lay (n + 1) (.tuple xs) := ⟨(lay_all h).1, Nat.succ_le_succ (lay_all h).2⟩
theorem Lay.shaped {n : Nat} {d : PyData} (h : Lay n d) (hn : n ≤ 64) : SeqAt.shaped d = true := by
  unfold SeqAt.shaped
  rw [h.1, decide_eq_true (Nat.le_trans h.2 hn)]
  rfl
theorem i_eqD {K : PySem.W.Frag} {H : Hp} {Q : VK} {x y : V} {d e : PyData} (h1 : Dp K H x d) (h2 : Dp K H y e) (l1 : Lay 8 d) (l2 : Lay 8 e) (q : Q (.bl (PyData.eqv d e)) H) : rEqD K x y H Q := ⟨d, e, h1, h2, l1.shaped (by decide), l2.shaped (by decide), q⟩
theorem i_neD {K : PySem.W.Frag} {H : Hp} {Q : VK} {x y : V} {d e : PyData} (h1 : Dp K H x d) (h2 : Dp K H y e) (l1 : Lay 8 d) (l2 : Lay 8 e) (q : Q (.bl (!PyData.eqv d e)) H) : rNeD K x y H Q := ⟨d, e, h1, h2, l1.shaped (by decide), l2.shaped (by decide), q⟩
theorem Lay.up {n m : Nat} {d : PyData} (h : Lay n d) (e : n ≤ m) : Lay m d := ⟨h.1, Nat.le_trans h.2 e⟩
theorem i_eqT {K : PySem.W.Frag} {H : Hp} {Q : VK} {x y : V} {d : PyData} (h1 : Dp K H x d) (h2 : Dp K H y d) (l1 : Lay 8 d) (q : Q (.bl true) H) : rEqD K x y H Q := i_eqD h1 h2 l1 l1 (by rw [SeqAt.eqv_refl _ l1.1]; exact q)
theorem i_neT {K : PySem.W.Frag} {H : Hp} {Q : VK} {x y : V} {d : PyData} (h1 : Dp K H x d) (h2 : Dp K H y d) (l1 : Lay 8 d) (q : Q (.bl false) H) : rNeD K x y H Q := i_neD h1 h2 l1 l1 (by rw [SeqAt.eqv_refl _ l1.1]; exact q)
/-- a list of ints as data -/
theorem dp_ints {K : PySem.W.Frag} {H : Hp} {p : Addr} {ns : List Int} (h : H p = some (.lst (ns.map V.int))) : Dp K H (.ref p) (.list (ns.map .int)) := by
  refine .lst (SqL.of h) ?_
  clear h
  induction ns with
  | nil => exact .nil
  | cons x r ih => exact .cons (.int x) ih
theorem dp_intsT {K : PySem.W.Frag} {H : Hp} {p : Addr} {ns : List Int} (h : SqT K H p (ns.map V.int)) : Dp K H (.ref p) (.tuple (ns.map .int)) := by
  refine .tup h ?_
  clear h
  induction ns with
  | nil => exact .nil
  | cons x r ih => exact .cons (.int x) ih
theorem dp_bls {K : PySem.W.Frag} {H : Hp} {p : Addr} {ns : List Bool} (h : H p = some (.lst (ns.map V.bl))) : Dp K H (.ref p) (.list (ns.map .bool)) := by
  refine .lst (SqL.of h) ?_
  clear h
  induction ns with
  | nil => exact .nil
  | cons x r ih => exact .cons (.bl x) ih
theorem lay_bls (ns : List Bool) : Lay 8 (.list (ns.map .bool)) := by
  refine (lay_list (n := 0) fun x hx => ?_).up (by decide)
  obtain ⟨i, _, rfl⟩ := List.mem_map.mp hx
  exact lay_bool
theorem lay_intsT (ns : List Int) : Lay 8 (.tuple (ns.map .int)) := by
  refine (lay_tuple (n := 0) fun x hx => ?_).up (by decide)
  obtain ⟨i, _, rfl⟩ := List.mem_map.mp hx
  exact lay_int
theorem lay_ints (ns : List Int) : Lay 8 (.list (ns.map .int)) := by
  refine (lay_list (n := 0) fun x hx => ?_).up (by decide)
  obtain ⟨i, _, rfl⟩ := List.mem_map.mp hx
  exact lay_int
/-! ### built-ins' names -/
theorem bt_len : bootBuiltins "len" = some (.builtin "len") := by decide +kernel
theorem bt_abs : bootBuiltins "abs" = some (.builtin "abs") := by decide +kernel
theorem bt_max : bootBuiltins "max" = some (.builtin "max") := by decide +kernel
theorem bt_min : bootBuiltins "min" = some (.builtin "min") := by decide +kernel
theorem bt_sum : bootBuiltins "sum" = some (.builtin "sum") := by decide +kernel
theorem bt_all : bootBuiltins "all" = some (.builtin "all") := by decide +kernel
theorem bt_any : bootBuiltins "any" = some (.builtin "any") := by decide +kernel
theorem bt_sorted : bootBuiltins "sorted" = some (.builtin "sorted") := by decide +kernel
theorem bt_isinstance : bootBuiltins "isinstance" = some (.builtin "isinstance") := by decide +kernel
theorem bt_list : bootBuiltins "list" = some (.type "list") := by decide +kernel
theorem bt_tuple : bootBuiltins "tuple" = some (.type "tuple") := by decide +kernel
theorem bt_str : bootBuiltins "str" = some (.type "str") := by decide +kernel
theorem bt_int : bootBuiltins "int" = some (.type "int") := by decide +kernel
theorem bt_bool : bootBuiltins "bool" = some (.type "bool") := by decide +kernel
theorem bt_ValueError : bootBuiltins "ValueError" = some (.type "ValueError") := by decide +kernel
section
variable {K : PySem.W.Frag} {H : Hp} {Q : VK}
theorem i_isI {i : Int} (q : Q (.bl true) H) : rIsi K [.int i, .ty "int"] H Q := ⟨.int i, .ty "int", .type "int", .type "int", true, rfl, .ty _, .base (.int _), kit_ty (by decide +kernel), q⟩
theorem i_isB {i : Int} (q : Q (.bl false) H) : rIsi K [.int i, .ty "bool"] H Q := ⟨.int i, .ty "bool", .type "int", .type "bool", false, rfl, .ty _, .base (.int _), kit_ty (by decide +kernel), q⟩
theorem i_isBB {b : Bool} (q : Q (.bl true) H) : rIsi K [.bl b, .ty "bool"] H Q := ⟨.bl b, .ty "bool", .type "bool", .type "bool", true, rfl, .ty _, .base (.bl _), kit_ty (by decide +kernel), q⟩
theorem i_isL {p : Addr} {xs : List V} (h : H p = some (.lst xs)) (q : Q (.bl true) H) : rIsi K [.ref p, .ty "list"] H Q := ⟨.ref p, .ty "list", .type "list", .type "list", true, rfl, .ty _, .base (.lst h), kit_ty (by decide +kernel), q⟩
theorem i_isT {p : Addr} {xs : List V} (h : H p = some (.tup xs)) (q : Q (.bl true) H) : rIsi K [.ref p, .ty "tuple"] H Q := ⟨.ref p, .ty "tuple", .type "tuple", .type "tuple", true, rfl, .ty _, .base (.tup h), kit_ty (by decide +kernel), q⟩
end
/-! ### the law's own draws -/
structure Dr (U H : Hp) (s : Addr) : Prop where
  ex : ∃ (l : Addr) (ns : List Int) (i b e : Int), H s = some (.lst [.ref l, .int i, .int b, .int e]) ∧ U l = some (.lst (ns.map V.int)) ∧ 0 ≤ i ∧ i ≤ ns.length ∧ 0 ≤ b
  out : U s = none
def spStart (K : PySem.W.Frag) : Sp := fun vs H Q _ => ∃ (a : Addr) (ns : List Int) (U : Hp), vs = [.ref a] ∧ SqL K H a (ns.map V.int) ∧ Same U H ∧
  ∀ s U' H', Gr [] U H U' H' → Dr U' H' s → H s = none → Q (.ref s) H'
def spDraw : Sp := fun vs H Q _ => ∃ (s : Addr) (many : Int) (U : Hp), vs = [.ref s, .int many] ∧ 0 < many ∧ many < 2 ^ 200 ∧ Same U H ∧ Dr U H s ∧
  ∀ r H', 0 ≤ r → r < many → Same U H' → Dr U H' s → (∀ a, a ≠ s → H' a = H a) → Q (.int r) H'
/-- the answer of isinstance(x, int) and not isinstance(x, bool) -/
def spWhole : Sp := fun vs H Q _ => ∃ v, vs = [v] ∧ ((∃ i, v = .int i) ∧ Q (.bl true) H)
theorem cut63 (ns : List Int) : ∃ ms : List Int, cutV (ns.map V.int) none (some 63) = ms.map V.int := by
  unfold cutV
  exact ⟨(ns.drop _).take _, by rw [List.map_take, List.map_drop]⟩
theorem Dr.mono {U U' H H' : Hp} {s : Addr} (d : Dr U H s) (e : Same U U') (h : H' s = H s) (n : U' s = none) : Dr U' H' s := by
  obtain ⟨⟨l, ns, i, b, e', h1, h2, h3⟩, _⟩ := d
  exact ⟨⟨l, ns, i, b, e', by rw [h]; exact h1, e _ _ h2, h3⟩, n⟩
theorem Dr.some {U H : Hp} {s : Addr} (d : Dr U H s) : H s ≠ none := by
  obtain ⟨⟨l, ns, i, b, e', h1, _⟩, _⟩ := d
  rw [h1]
  intro z
  cases z
/-- a new thing that never changes; a new one that will -/
theorem Dr.new {U H : Hp} {s p : Addr} {o : HO} (d : Dr U H s) (n : H p = none) (e : Same U H) : Dr (upd U p o) (upd H p o) s := by
  have ne : s ≠ p := fun z => by
    subst z
    exact d.some n
  exact d.mono (same_new (e.free n)) (upd_ne ne) (by rw [upd_ne ne]; exact d.out)
theorem Dr.newM {U H : Hp} {s p : Addr} {o : HO} (d : Dr U H s) (n : H p = none) : Dr U (upd H p o) s := by
  have ne : s ≠ p := fun z => by
    subst z
    exact d.some n
  exact d.mono (Same.refl _) (upd_ne ne) d.out
theorem Dr.mut {U H : Hp} {s p : Addr} {o : HO} (d : Dr U H s) (ne : s ≠ p) : Dr U (upd H p o) s := d.mono (Same.refl _) (upd_ne ne) d.out
theorem same_both {U H : Hp} {p : Addr} {o : HO} (e : Same U H) : Same (upd U p o) (upd H p o) := fun a x h => by
  by_cases z : a = p
  · subst z
    rw [upd_same] at h ⊢
    exact h
  · rw [upd_ne z] at h ⊢
    exact e a x h
theorem same_seal {U H : Hp} {p : Addr} {o : HO} (e : Same U H) (h : H p = some o) : Same (upd U p o) H := fun a x k => by
  by_cases z : a = p
  · subst z
    rw [upd_same] at k
    rw [h]
    exact k
  · rw [upd_ne z] at k
    exact e a x k
theorem Dr.seal {U H : Hp} {s p : Addr} {o : HO} (d : Dr U H s) (n : U p = none) (ne : s ≠ p) : Dr (upd U p o) H s := d.mono (same_new n) rfl (by rw [upd_ne ne]; exact d.out)
/-- behind a call that leaves all as it was -/
theorem Dr.gr {M : List Addr} {U U' H H' : Hp} {s : Addr} (d : Dr U H s) (g : Gr M U H U' H') (m : s ∉ M) : Dr U' H' s := by
  obtain ⟨⟨l, ns, i, b, e', h1, h2, h3⟩, n⟩ := d
  exact ⟨⟨l, ns, i, b, e', g.hh _ _ m h1, g.vv _ _ h2, h3⟩, g.fr s n (by rw [h1]; intro z; cases z)⟩
/-! ### comprehensions whose element changes nothing; whose element draws -/
section
variable {σ : L2.St} {H : Hp} {K : PySem.W.Frag} {Q : VK} {tt : TT} {te : TE} {vs : List Nat} {a D : Addr} {j : Nat}
theorem sq_off {H H' : Hp} {a D : Addr} {xs : List V} (h : SqL K H a xs) (n : H D = none) (e : ∀ b, b ≠ D → H' b = H b) : SqL K H' a xs := by
  rcases h with (h | ⟨o, h⟩) | h
  · exact .inl (.inl (by rw [e a (ne_of_none h n)]; exact h))
  · exact .inl (.inr ⟨o, by rw [e a (ne_of_none h n)]; exact h⟩)
  · exact .inr h
theorem st_off {H H' : Hp} {a D : Addr} {xs : List V} (h : SqT K H a xs) (n : H D = none) (e : ∀ b, b ≠ D → H' b = H b) : SqT K H' a xs := by
  rcases h with (h | ⟨o, h⟩) | h
  · exact .inl (.inl (by rw [e a (ne_of_none h n)]; exact h))
  · exact .inl (.inr ⟨o, by rw [e a (ne_of_none h n)]; exact h⟩)
  · exact .inr h
theorem upd_id {H H' : Hp} {D : Addr} {o : HO} (h : H' D = some o) (e : ∀ b, b ≠ D → H' b = H b) : H' = upd H D o := by
  funext b
  by_cases z : b = D
  · subst z
    rw [upd_same, h]
  · rw [upd_ne z, e b z]
theorem take_filter {xs : List V} {p : V → Bool} {f : V → V} {i : Nat} {x : V} (h : xs[i]? = some x) : ((xs.take (i + 1)).filter p).map f = ((xs.take i).filter p).map f ++ (if p x = true then [f x] else []) := by
  rw [List.take_add_one, h, List.filter_append, List.map_append]
  by_cases hp : p x = true
  · simp [hp]
  · simp [hp]
theorem c_pure {xs : List V} (p : V → Bool) (f : V → V) (hl : SqL K H a xs) (hD : H D = none) (hn : xs.length ≤ 1000) (hw : ∀ v, wipe ((wipe σ vs).set j (some v)) vs = wipe σ vs)
    (ht : ∀ x ∈ xs, ∀ H', (∀ b, b ≠ D → H' b = H b) → ∀ R : Bool → Hp → Prop, R (p x) H' → tt ((wipe σ vs).set j (some x)) H' R)
    (he : ∀ x ∈ xs, p x = true → ∀ H', (∀ b, b ≠ D → H' b = H b) → ∀ R : VK, R (f x) H' → te ((wipe σ vs).set j (some x)) H' R)
    (q : Q (.ref D) (upd H D (.lst ((xs.filter p).map f)))) : COMP (Itl K a) (gName j) tt te vs σ H D Q := by
  refine c_lst (xs := xs) (fun i H' => (∀ b, b ≠ D → H' b = H b) ∧ H' D = some (.lst (((xs.take i).filter p).map f))) ⟨fun b z => upd_ne z, upd_same⟩ (fun i H' _ h => sq_off hl hD h.1) ?_ ?_
  · rintro i x H' ex ⟨e, h⟩
    refine ⟨hw x, ?_⟩
    have mx := List.mem_of_getElem? ex
    refine ht x mx H' e _ ?_
    by_cases hp : p x = true
    · rw [hp, if_pos rfl]
      refine he x mx hp H' e _ ⟨_, h, ?_, fun b z => by rw [upd_ne z]; exact e b z, ?_⟩
      · rw [List.length_map]
        exact small1000 (Nat.le_trans (List.length_filter_le _ _) (by rw [List.length_take]; omega))
      · rw [upd_same, take_filter ex, if_pos hp]
    · rw [if_neg hp]
      refine ⟨e, ?_⟩
      rw [h, take_filter ex, if_neg hp, List.append_nil]
  · rintro H' ⟨e, h⟩
    rw [List.take_length] at h
    rw [upd_id h e]
    exact q
theorem c_pureT {xs : List V} (p : V → Bool) (f : V → V) (hl : SqT K H a xs) (hD : H D = none) (hn : xs.length ≤ 1000) (hw : ∀ v, wipe ((wipe σ vs).set j (some v)) vs = wipe σ vs)
    (ht : ∀ x ∈ xs, ∀ H', (∀ b, b ≠ D → H' b = H b) → ∀ R : Bool → Hp → Prop, R (p x) H' → tt ((wipe σ vs).set j (some x)) H' R)
    (he : ∀ x ∈ xs, p x = true → ∀ H', (∀ b, b ≠ D → H' b = H b) → ∀ R : VK, R (f x) H' → te ((wipe σ vs).set j (some x)) H' R)
    (q : Q (.ref D) (upd H D (.lst ((xs.filter p).map f)))) : COMP (Itt K a) (gName j) tt te vs σ H D Q := by
  refine c_tup (xs := xs) (fun i H' => (∀ b, b ≠ D → H' b = H b) ∧ H' D = some (.lst (((xs.take i).filter p).map f))) ⟨fun b z => upd_ne z, upd_same⟩ (fun i H' _ h => st_off hl hD h.1) ?_ ?_
  · rintro i x H' ex ⟨e, h⟩
    refine ⟨hw x, ?_⟩
    have mx := List.mem_of_getElem? ex
    refine ht x mx H' e _ ?_
    by_cases hp : p x = true
    · rw [hp, if_pos rfl]
      refine he x mx hp H' e _ ⟨_, h, ?_, fun b z => by rw [upd_ne z]; exact e b z, ?_⟩
      · rw [List.length_map]
        exact small1000 (Nat.le_trans (List.length_filter_le _ _) (by rw [List.length_take]; omega))
      · rw [upd_same, take_filter ex, if_pos hp]
    · rw [if_neg hp]
      refine ⟨e, ?_⟩
      rw [h, take_filter ex, if_neg hp, List.append_nil]
  · rintro H' ⟨e, h⟩
    rw [List.take_length] at h
    rw [upd_id h e]
    exact q
theorem filter_yes (xs : List V) : xs.filter (fun _ => true) = xs := by
  induction xs with
  | nil => rfl
  | cons x r ih => simp
/-- [f x for x in xs] -/
theorem c_map {xs : List V} (f : V → V) (hl : SqL K H a xs) (hD : H D = none) (hn : xs.length ≤ 1000) (hw : ∀ v, wipe ((wipe σ vs).set j (some v)) vs = wipe σ vs)
    (he : ∀ x ∈ xs, ∀ H', (∀ b, b ≠ D → H' b = H b) → ∀ R : VK, R (f x) H' → te ((wipe σ vs).set j (some x)) H' R)
    (q : Q (.ref D) (upd H D (.lst (xs.map f)))) : COMP (Itl K a) (gName j) tYes te vs σ H D Q :=
  c_pure (fun _ => true) f hl hD hn hw (fun x _ H' _ R r => r) (fun x m _ H' e R r => he x m H' e R r) (by rw [filter_yes]; exact q)
theorem c_mapT {xs : List V} (f : V → V) (hl : SqT K H a xs) (hD : H D = none) (hn : xs.length ≤ 1000) (hw : ∀ v, wipe ((wipe σ vs).set j (some v)) vs = wipe σ vs)
    (he : ∀ x ∈ xs, ∀ H', (∀ b, b ≠ D → H' b = H b) → ∀ R : VK, R (f x) H' → te ((wipe σ vs).set j (some x)) H' R)
    (q : Q (.ref D) (upd H D (.lst (xs.map f)))) : COMP (Itt K a) (gName j) tYes te vs σ H D Q :=
  c_pureT (fun _ => true) f hl hD hn hw (fun x _ H' _ R r => r) (fun x m _ H' e R r => he x m H' e R r) (by rw [filter_yes]; exact q)
/-- [.. draws .. for k in range(n)]: ints that keep P -/
theorem c_draws {n : Nat} {lo : Int} {U : Hp} {s : Addr} (P : Int → Prop) (hn : n ≤ 1000) (hU : Same U H) (d : Dr U H s) (hD : H D = none) (hw : ∀ v, wipe ((wipe σ vs).set j (some v)) vs = wipe σ vs)
    (he : ∀ (i : Nat) H', Same U H' → Dr U H' s → ∀ R : VK, (∀ y H'', P y → Same U H'' → Dr U H'' s → (∀ b, b ≠ s → H'' b = H' b) → R (.int y) H'') → te ((wipe σ vs).set j (some (.int (lo + i)))) H' R)
    (hd : ∀ (ns : List Int) H', ns.length = n → (∀ y ∈ ns, P y) → Same U H' → Dr U H' s → U D = none → (∀ b, b ≠ s → b ≠ D → H' b = H b) → H' D = some (.lst (ns.map V.int)) → Q (.ref D) H') : COMP (Itr lo n) (gName j) tYes te vs σ H D Q := by
  have nU : U D = none := hU.free hD
  have sD : s ≠ D := fun z => by
    subst z
    exact d.some hD
  refine c_rng (fun i H' => ∃ ns : List Int, ns.length = i ∧ (∀ y ∈ ns, P y) ∧ Same U H' ∧ Dr U H' s ∧ (∀ b, b ≠ s → b ≠ D → H' b = H b) ∧ H' D = some (.lst (ns.map V.int))) ?_ ?_ ?_
  · exact ⟨[], rfl, fun y h => (by cases h), same_mut hU nU, d.newM hD, fun b _ z => upd_ne z, upd_same⟩
  · rintro i H' hi ⟨ns, e1, e2, e3, e4, e5, e6⟩
    refine ⟨hw _, ?_⟩
    refine i_yes (i_itT ?_)
    refine he i H' e3 e4 _ fun y H'' py h1 h2 h3 => ⟨_, (h3 D sD.symm).trans e6, by rw [List.length_map]; exact small1000 (by omega), ns ++ [y], by rw [List.length_append, e1]; rfl, ?_, same_mut h1 nU, h2.mut sD, ?_, ?_⟩
    · intro z hz
      rcases List.mem_append.mp hz with h | h
      · exact e2 z h
      · rw [List.mem_singleton.mp h]
        exact py
    · intro b z1 z2
      rw [upd_ne z2, h3 b z1]
      exact e5 b z1 z2
    · rw [upd_same, List.map_append]
      rfl
  · rintro H' ⟨ns, e1, e2, e3, e4, e5, e6⟩
    exact hd ns H' e1 e2 e3 e4 nU e5 e6
end
/-! ### lists of tuples that stand in H, their tuples in the view -/
abbrev Tups (U : Hp) (as : List Addr) (rows : List (List V)) : Prop := Paired (fun a r => U a = some (.tup r)) as rows
theorem Tups.mono {U U' : Hp} {as : List Addr} {rows : List (List V)} (e : Same U U') (h : Tups U as rows) : Tups U' as rows := Paired.imp (fun _ _ x => e _ _ x) h
theorem Paired.setAt {α β : Type} {F : α → β → Prop} {a : α} {b : β} (h : F a b) : ∀ {xs : List α} {ys : List β} (i : Nat), Paired F xs ys → Paired F (xs.set i a) (ys.set i b)
  | _, _, _, .nil => .nil
  | _, _, 0, .cons _ t => .cons h t
  | _, _, i + 1, .cons x t => .cons x (Paired.setAt h i t)
theorem Paired.erase {α β : Type} {F : α → β → Prop} : ∀ {xs : List α} {ys : List β} (i : Nat), Paired F xs ys → Paired F (xs.eraseIdx i) (ys.eraseIdx i)
  | _, _, _, .nil => .nil
  | _, _, 0, .cons _ t => t
  | _, _, i + 1, .cons x t => .cons x (Paired.erase i t)
theorem Tups.setAt {U : Hp} {as : List Addr} {rows : List (List V)} {a : Addr} {r : List V} (h : U a = some (.tup r)) (i : Nat) (hT : Tups U as rows) : Tups U (as.set i a) (rows.set i r) := Paired.setAt (F := fun a r => U a = some (.tup r)) h i hT
theorem Tups.erase {U : Hp} {as : List Addr} {rows : List (List V)} (i : Nat) (hT : Tups U as rows) : Tups U (as.eraseIdx i) (rows.eraseIdx i) := Paired.erase i hT
theorem Tups.snoc {U : Hp} {as : List Addr} {rows : List (List V)} {a : Addr} {r : List V} (h : U a = some (.tup r)) (hT : Tups U as rows) : Tups U (as ++ [a]) (rows ++ [r]) := Paired.snoc hT h
theorem map_erase {α β : Type} (f : α → β) : ∀ (xs : List α) (i : Nat), (xs.map f).eraseIdx i = (xs.eraseIdx i).map f
  | [], _ => rfl
  | _ :: _, 0 => rfl
  | x :: r, i + 1 => congrArg (f x :: ·) (map_erase f r i)
theorem ixN_of {n j : Nat} {k : Int} (e : k = (j : Int)) (h : j < n) : ixN n k = some j := by
  unfold ixN
  rw [e, if_pos (by omega), if_pos (by omega), Int.toNat_natCast]
theorem Tups.get {U : Hp} {as : List Addr} {rows : List (List V)} (h : Tups U as rows) {i : Nat} {r : List V} (e : rows[i]? = some r) : ∃ a, as[i]? = some a ∧ (as.map V.ref)[i]? = some (.ref a) ∧ U a = some (.tup r) := by
  obtain ⟨a, e1, e2⟩ := Paired.at h i r e
  exact ⟨a, e1, by rw [List.getElem?_map, e1]; rfl, e2⟩
section
variable {σ : L2.St} {H U : Hp} {K : PySem.W.Frag} {n bk ct : L2.St → Hp → Prop} {rt : VK} {tb : TS} {g : TG} {te : TE} {tt : TT} {vs : List Nat} {Q : VK} {p D : Addr} {rows : List (List V)} {as : List Addr}
theorem l_rows (h : Tups U as rows) (Pv : Nat → L2.St → Hp → Prop) (h0 : Pv 0 σ H) (hv : ∀ i σ H, Pv i σ H → Same U H ∧ SqL K H p (as.map V.ref))
    (hs : ∀ i r a σ H, rows[i]? = some r → H a = some (.tup r) → Pv i σ H → g (.ref a) σ H fun σ2 H2 => tb ⟨Pv (i + 1), rt, n, Pv (i + 1)⟩ σ2 H2) (hd : ∀ σ H, Pv rows.length σ H → n σ H) : LOOP (Itl K p) g tb ⟨n, rt, bk, ct⟩ σ H := by
  refine l_lst (xs := as.map V.ref) Pv h0 (fun i σ H _ q => (hv i σ H q).2) (fun i x σ H e q => ?_) (fun σ H q => hd σ H ?_)
  · rw [List.getElem?_map] at e
    cases ea : as[i]? with
    | none =>
      rw [ea] at e
      cases e
    | some a =>
      rw [ea] at e
      have e' := Option.some.inj e
      subst e'
      obtain ⟨r, er, hr⟩ := Paired.at' h i a ea
      exact hs i r a σ H er ((hv i σ H q).1 _ _ hr) q
  · rw [List.length_map, Paired.len h] at q
    exact q
theorem filter_snoc {α β : Type} {xs : List α} {p : α → Bool} {f : α → β} {i : Nat} {x : α} (h : xs[i]? = some x) : ((xs.take (i + 1)).filter p).map f = ((xs.take i).filter p).map f ++ (if p x = true then [f x] else []) := by
  rw [List.take_add_one, h, List.filter_append, List.map_append]
  by_cases hp : p x = true
  · simp [hp]
  · simp [hp]
/-- [e for .. in rows if t]: nothing but the new list changes -/
theorem c_rows (pr : List V → Bool) (f : List V → V) (h : Tups U as rows) (hU : Same U H) (hl : SqL K H p (as.map V.ref)) (hD : H D = none) (hn : rows.length ≤ 1000)
    (he : ∀ a r, r ∈ rows → U a = some (.tup r) → ∀ H', Same U H' → (∀ b, b ≠ D → H' b = H b) → ∀ (Rt : VK) (Rf : Hp → Prop), (pr r = true → Rt (f r) H') → (pr r = false → Rf H') → g (.ref a) (wipe σ vs) H' fun σ2 H2 => wipe σ2 vs = wipe σ vs ∧ tt σ2 H2 fun b H3 => if b = true then te σ2 H3 Rt else Rf H3)
    (q : Q (.ref D) (upd H D (.lst ((rows.filter pr).map f)))) : COMP (Itl K p) g tt te vs σ H D Q := by
  have nU := hU.free hD
  refine c_lst (xs := as.map V.ref) (fun i H' => (∀ b, b ≠ D → H' b = H b) ∧ H' D = some (.lst (((rows.take i).filter pr).map f))) ⟨fun b z => upd_ne z, upd_same⟩ (fun i H' _ h => sq_off hl hD h.1) ?_ ?_
  · rintro i x H' ex ⟨e, hd⟩
    rw [List.getElem?_map] at ex
    cases ea : as[i]? with
    | none =>
      rw [ea] at ex
      cases ex
    | some a =>
      rw [ea] at ex
      have e' := Option.some.inj ex
      subst e'
      obtain ⟨r, er, hr⟩ := Paired.at' h i a ea
      have mr := List.mem_of_getElem? er
      have sU : Same U H' := fun b o hb => by
        rw [e b (ne_of_none hb nU)]
        exact hU b o hb
      refine he a r mr hr H' sU e _ _ (fun hp => ⟨_, hd, ?_, fun b z => by rw [upd_ne z]; exact e b z, ?_⟩) fun hp => ⟨e, ?_⟩
      · rw [List.length_map]
        exact small1000 (Nat.le_trans (List.length_filter_le _ _) (by rw [List.length_take]; omega))
      · rw [upd_same, filter_snoc er, if_pos hp]
      · rw [hd, filter_snoc er, if_neg (by rw [hp]; exact Bool.false_ne_true), List.append_nil]
  · rintro H' ⟨e, hd⟩
    rw [List.length_map, Paired.len h, List.take_length] at hd
    rw [upd_id hd e]
    exact q
end
theorem Tups.dp {K : PySem.W.Frag} {U H : Hp} {p : Addr} {as : List Addr} {rows : List (List V)} (h2 : Tups U as rows) (e : Same U H) (h1 : SqL K H p (as.map V.ref)) (f : ∀ r ∈ rows, ∀ v ∈ r, Dp K H v (dV v)) : Dp K H (.ref p) (.list (rows.map fun r => .tuple (r.map dV))) := by
  refine .lst h1 ?_
  clear h1
  induction h2 with
  | nil => exact .nil
  | @cons a r as rows h t ih =>
    refine .cons (.tup (SqT.of (e _ _ h)) ?_) (ih fun x hx => f x (List.mem_cons_of_mem _ hx))
    have fr := f r List.mem_cons_self
    clear h ih t f
    induction r with
    | nil => exact .nil
    | cons v r ih => exact .cons (fr v List.mem_cons_self) (ih fun x hx => fr x (List.mem_cons_of_mem _ hx))
/-- triples of ints -/
def row3 (r : Int × Int × Int) : List V := [.int r.1, .int r.2.1, .int r.2.2]
theorem dp_row3 {K : PySem.W.Frag} {H : Hp} (rows : List (Int × Int × Int)) : ∀ r ∈ rows.map row3, ∀ v ∈ r, Dp K H v (dV v) := by
  intro r hr v hv
  obtain ⟨x, _, rfl⟩ := List.mem_map.mp hr
  unfold row3 at hv
  simp only [List.mem_cons, List.not_mem_nil, or_false] at hv
  rcases hv with rfl | rfl | rfl <;> exact .int _
theorem lay_row3 (rows : List (Int × Int × Int)) : Lay 8 (.list ((rows.map row3).map fun r => .tuple (r.map dV))) := by
  refine (lay_list (n := 1) fun x hx => ?_).up (by decide)
  obtain ⟨r, hr, rfl⟩ := List.mem_map.mp hx
  obtain ⟨y, _, rfl⟩ := List.mem_map.mp hr
  refine lay_tuple (n := 0) fun z hz => ?_
  obtain ⟨v, hv, rfl⟩ := List.mem_map.mp hz
  unfold row3 at hv
  simp only [List.mem_cons, List.not_mem_nil, or_false] at hv
  rcases hv with rfl | rfl | rfl <;> exact lay_int
theorem row3_at {rows : List (Int × Int × Int)} {i : Nat} {r : List V} (h : (rows.map row3)[i]? = some r) : ∃ x, rows[i]? = some x ∧ r = row3 x := by
  rw [List.getElem?_map] at h
  cases e : rows[i]? with
  | none =>
    rw [e] at h
    cases h
  | some x =>
    rw [e] at h
    exact ⟨x, rfl, (Option.some.inj h).symm⟩
theorem c_mapR {σ : L2.St} {H : Hp} {Q : VK} {te : TE} {vs : List Nat} {D : Addr} {j n : Nat} {lo : Int} (f : Nat → V) (hD : H D = none) (hn : n ≤ 1000) (hw : ∀ v, wipe ((wipe σ vs).set j (some v)) vs = wipe σ vs)
    (he : ∀ i, i < n → ∀ H', (∀ b, b ≠ D → H' b = H b) → ∀ R : VK, R (f i) H' → te ((wipe σ vs).set j (some (.int (lo + (i : Nat))))) H' R)
    (q : Q (.ref D) (upd H D (.lst ((List.range n).map f)))) : COMP (Itr lo n) (gName j) tYes te vs σ H D Q := by
  refine c_rng (fun i H' => (∀ b, b ≠ D → H' b = H b) ∧ H' D = some (.lst ((List.range i).map f))) ⟨fun b z => upd_ne z, upd_same⟩ ?_ ?_
  · rintro i H' hi ⟨e, h⟩
    refine ⟨hw _, i_yes (i_itT ?_)⟩
    refine he i hi H' e _ ⟨_, h, by rw [List.length_map, List.length_range]; exact small1000 (by omega), fun b z => by rw [upd_ne z]; exact e b z, ?_⟩
    rw [upd_same, List.range_succ, List.map_append]
    rfl
  · rintro H' ⟨e, h⟩
    rw [upd_id h e]
    exact q
theorem cut_mid (xs : List V) (h : 2 ≤ xs.length) : cutV xs (some 1) (some (-1)) = (xs.drop 1).take (xs.length - 2) := by
  unfold cutV
  rw [show HT.sIx xs.length 0 (some 1) = min 1 xs.length from HT.sIx_nat xs.length 0 1]
  have e : HT.sIx xs.length xs.length (some (-1)) = xs.length - 1 := by
    show (if (-1 : Int) < 0 then ((-1 : Int) + (xs.length : Int)).toNat else min (-1 : Int).toNat xs.length) = xs.length - 1
    rw [if_pos (by decide)]
    omega
  rw [e, Nat.min_eq_left (by omega)]
  rfl
theorem at_last {xs : List V} {v : V} (h : xs[xs.length - 1]? = some v) (h0 : 0 < xs.length) : atI xs (-1) = some v := by
  unfold atI ixN
  rw [if_neg (by decide), if_pos (by omega)]
  have e : (-1 + (xs.length : Int)).toNat = xs.length - 1 := by omega
  rw [e]
  exact h
/-- two rising lists of the same numbers are one -/
theorem rising_eq {a b : List Int} (hp : a.Perm b) (ha : a.Pairwise (· ≤ ·)) (hb : b.Pairwise (· ≤ ·)) : a = b := hp.eq_of_pairwise (fun x y _ _ h1 h2 => Int.le_antisymm h1 h2) ha hb
/-- the middle of what was heard -/
def spMid : Sp := fun vs H Q _ => ∃ (a : Addr) (ns : List Int), vs = [.ref a] ∧ H a = some (.lst (ns.map V.int)) ∧ 3 ≤ ns.length ∧ ns.length < 60 ∧
  ∀ (s : List Int) (x y : Int) (H' : Hp), s.Perm ns → s.Pairwise (· ≤ ·) → s[1]? = some x → s[ns.length - 2]? = some y → Same H H' → Q (.int ((x + y) / 2)) H'
/-! ### comprehensions whose element makes new things -/
section
variable {σ : L2.St} {H : Hp} {K : PySem.W.Frag} {Q : VK} {te : TE} {vs : List Nat} {a D : Addr} {j : Nat}
theorem c_growT {xs : List V} (f : V → V) (hl : SqT K H a xs) (hD : H D = none) (hn : xs.length ≤ 1000) (hw : ∀ v, wipe ((wipe σ vs).set j (some v)) vs = wipe σ vs)
    (he : ∀ x ∈ xs, ∀ H', Same H H' → ∀ R : VK, (∀ H'', Same H' H'' → R (f x) H'') → te ((wipe σ vs).set j (some x)) H' R)
    (q : ∀ H', Same H H' → H' D = some (.lst (xs.map f)) → Q (.ref D) H') : COMP (Itt K a) (gName j) tYes te vs σ H D Q := by
  refine c_tup (xs := xs) (fun i H' => Same H H' ∧ H' D = some (.lst ((xs.take i).map f))) ⟨same_new hD, upd_same⟩ (fun i H' _ h => ?_) ?_ ?_
  · rcases hl with (h1 | ⟨o, h1⟩) | h1
    · exact .inl (.inl (h.1 _ _ h1))
    · exact .inl (.inr ⟨o, h.1 _ _ h1⟩)
    · exact .inr h1
  · rintro i x H' ex ⟨e, h⟩
    refine ⟨hw x, i_yes (i_itT ?_)⟩
    refine he x (List.mem_of_getElem? ex) H' e _ fun H'' s => ⟨_, s _ _ h, ?_, same_mut (e.trans s) hD, ?_⟩
    · rw [List.length_map, List.length_take]
      exact small1000 (by omega)
    · rw [upd_same, List.take_add_one, ex, List.map_append]
      rfl
  · rintro H' ⟨e, h⟩
    rw [List.take_length] at h
    exact q H' e h
theorem c_growL {xs : List V} (f : V → V) (hl : SqL K H a xs) (hD : H D = none) (hn : xs.length ≤ 1000) (hw : ∀ v, wipe ((wipe σ vs).set j (some v)) vs = wipe σ vs)
    (he : ∀ x ∈ xs, ∀ H', Same H H' → ∀ R : VK, (∀ H'', Same H' H'' → R (f x) H'') → te ((wipe σ vs).set j (some x)) H' R)
    (q : ∀ H', Same H H' → H' D = some (.lst (xs.map f)) → Q (.ref D) H') : COMP (Itl K a) (gName j) tYes te vs σ H D Q := by
  refine c_lst (xs := xs) (fun i H' => Same H H' ∧ H' D = some (.lst ((xs.take i).map f))) ⟨same_new hD, upd_same⟩ (fun i H' _ h => h.1.seq hl) ?_ ?_
  · rintro i x H' ex ⟨e, h⟩
    refine ⟨hw x, i_yes (i_itT ?_)⟩
    refine he x (List.mem_of_getElem? ex) H' e _ fun H'' s => ⟨_, s _ _ h, ?_, same_mut (e.trans s) hD, ?_⟩
    · rw [List.length_map, List.length_take]
      exact small1000 (by omega)
    · rw [upd_same, List.take_add_one, ex, List.map_append]
      rfl
  · rintro H' ⟨e, h⟩
    rw [List.take_length] at h
    exact q H' e h
end
end SW

namespace SW
open PySem PySem.Spec PyProof.Rows L2
/-! ### raise X() of an own class without __init__ -/
theorem pmk_own0 {X : Cx} {C : Addr} {bmB : List Value} {B newId initId : String} {x : Str} {p pos : Pos} (F : ExcBaseFacts B newId initId bmB) (q : PySem.W.excIn X.K C bmB newId = true) (gC : X.mg x = some (.ref C))
    (kC : PySem.W.keepIn X.K (.ref C) = true) (r : Raises X (.ref C)) (hg : Gl X x) (hdb : (x == ("__debug__" : Str)) = false := by decide) :
    PMk X (.Call (.Name x p) [] [] pos) (fun _ H Q => Q (.ref C) none H) := by
  intro pins s σ H Q I h
  refine wpAny_Call_Name_kw (ld_glob I hg gC ?_ hdb)
  refine PySem.W.callWith_K0 I.kIn kC ?_
  show wpAny _ _ (call (.ref C) []) _ _ _
  obtain ⟨bm, N, nm, qn, bs, hdct, sn, sub, ab, col, dd, k0, k1, k2, k3, k5, mN, hC, hN, hni, T⟩ := exc_obj I.kIn q
  exact wpAny_call_exc_subT F T hC hN hni (fun h' e hm => mk_of I hm r h (I.hok.gone hm.new)) (Nat.zero_le _)
/-! ### what is known of the error classes -/
def errMro (C N : Addr) : List Value := [.ref C, .ref N, .type "ValueError", .type "Exception", .type "BaseException", .type "object"]
def errB (K : PySem.W.Frag) (C N : Addr) : Bool :=
  ((PySem.W.clsIn K C).any fun cd => cd.mro == errMro C N) && (PySem.W.typeIn K (.ref C) == some (.type "type")) && PySem.W.keepIn K (.ref C) && (PySem.W.findIn K (.ref C) "__getattribute__" == some (some (.builtin "BaseException.__getattribute__"))) &&
    (PySem.W.findIn K (.ref C) "__getattr__" == some none) && (PySem.W.findIn K (.ref C) "__class__" == some (some (.builtin "object.__class__"))) && PySem.W.hasDictIn K C
structure ErrC (K : PySem.W.Frag) (C N : Addr) : Prop where
  mro : ∃ cd, PySem.W.clsIn K C = some cd ∧ cd.mro = errMro C N
  ty : PySem.W.typeIn K (.ref C) = some (.type "type")
  kp : PySem.W.keepIn K (.ref C) = true
  ga : PySem.W.findIn K (.ref C) "__getattribute__" = some (some (.builtin "BaseException.__getattribute__"))
  gt : PySem.W.findIn K (.ref C) "__getattr__" = some none
  cl : PySem.W.findIn K (.ref C) "__class__" = some (some (.builtin "object.__class__"))
  hd : PySem.W.hasDictIn K C = true
theorem errC_of {K : PySem.W.Frag} {C N : Addr} (h : errB K C N = true) : ErrC K C N := by
  unfold errB at h
  simp only [Bool.and_eq_true, beq_iff_eq] at h
  obtain ⟨⟨⟨⟨⟨⟨h1, h2⟩, h3⟩, h4⟩, h5⟩, h6⟩, h7⟩ := h
  refine ⟨?_, h2, h3, h4, h5, h6, h7⟩
  cases e : PySem.W.clsIn K C with
  | none =>
    rw [e] at h1
    cases h1
  | some cd =>
    rw [e] at h1
    exact ⟨cd, rfl, beq_iff_eq.mp h1⟩
theorem ErrC.sub {K : PySem.W.Frag} {C N : Addr} (h : ErrC K C N) (b : Value) : PySem.W.subIn K (.ref C) b = some ((errMro C N).contains b) := by
  obtain ⟨cd, e, m⟩ := h.mro
  show PySem.W.mroIn K C b = _
  unfold PySem.W.mroIn
  rw [e, Option.bind_some, m]
  rfl
theorem ErrC.base {K : PySem.W.Frag} {C N : Addr} (h : ErrC K C N) : PySem.W.subIn K (.ref C) (.type "BaseException") = some true := by
  rw [h.sub]
  rfl
theorem ErrC.raises {X : Cx} {C N : Addr} (h : ErrC X.K C N) : Raises X (.ref C) := raises_own h.base h.ty
theorem mem_mro {C N D : Addr} : (errMro C N).contains (.ref D) = decide (D = C ∨ D = N) := by
  unfold errMro
  by_cases h1 : D = C
  · subst h1
    simp
  · by_cases h2 : D = N
    · subst h2
      simp
    · simp [h1, h2]
/-- isinstance(e, D) for e of the class C -/
theorem ErrC.kit {K : PySem.W.Frag} {C D N : Addr} (h : ErrC K C N) (g : ErrC K D N) (hN : C ≠ N) (hD : D ≠ N) : PySem.W.kitOne K (.ref C) (.ref D) = some (decide (D = C)) := by
  unfold PySem.W.kitOne
  by_cases e : C = D
  · subst e
    simp
  · have e1 : (Value.ref C == Value.ref D) = false := by simp [e]
    rw [e1, if_neg Bool.false_ne_true]
    obtain ⟨cd, c1, _⟩ := g.mro
    show (if ((PySem.W.clsIn K D).isSome && PySem.W.typeIn K (.ref D) == some (.type "type")) = true then PySem.W.subIn K (.ref C) (.ref D) else none) = _
    rw [c1, g.ty]
    show PySem.W.subIn K (.ref C) (.ref D) = _
    rw [h.sub, mem_mro]
    congr 1
    exact decide_eq_decide.mpr ⟨fun z => z.resolve_right hD, .inl⟩
theorem ErrC.kitVE {K : PySem.W.Frag} {C N : Addr} (h : ErrC K C N) : PySem.W.kitOne K (.ref C) (.type "ValueError") = some true := by
  unfold PySem.W.kitOne
  rw [show (Value.ref C == Value.type "ValueError") = false from rfl, if_neg Bool.false_ne_true]
  show (if PySem.W.kitMeta "ValueError" = true then PySem.W.subIn K (.ref C) (.type "ValueError") else none) = _
  rw [show PySem.W.kitMeta "ValueError" = true by decide +kernel, if_pos rfl, h.sub]
  rfl
/-- an except clause that names the common class -/
theorem ErrC.exm {K : PySem.W.Frag} {C N : Addr} (h : ErrC K C N) (hb : PySem.W.subIn K (.ref N) (.type "BaseException") = some true) (hd : PySem.W.hasDictIn K N = true) (ht : PySem.W.typeIn K (.ref N) = some (.type "type")) : PySem.W.exmOne K (.ref C) (.ref N) = some true :=
  PySem.W.exm_ref hb hd ht (by rw [h.sub, mem_mro]; simp)
/-! ### isinstance of the error that is handled -/
def rIsW (K : PySem.W.Frag) (a : Addr) (cls : Value) (d : Option Addr) : List V → Hp → VK → Prop := fun xs H Q => ∃ (c : V) (cv : Value) (b : Bool), xs = [.ref a, c] ∧ ClsV c cv ∧ PySem.W.kitOne K cls cv = some b ∧ (∀ dd, d = some dd → ∃ fs, H dd = some (.xd fs)) ∧ Q (.bl b) H
theorem call_isW {X : Cx} {K : PySem.W.Frag} {p : Addr × Obj} {C N : Addr} {d : Option Addr} (hK : X.K = K) (hp : p ∈ X.pn) (T : ErrC K C N) (hn : PySem.W.specialIn K (.builtin "object.__class__") "__get__" = some (some (.builtin "getset_descriptor.__get__")))
    (ht : PySem.W.takesIn K (.builtin "object.__class__") = some true) (hz : Zc (.ref C) d p.2) (hf : ∃ vs, p.2.data = .fields vs) : CallR X (.builtin "isinstance") (rIsW K p.1 (.ref C) d) := by
  subst hK
  intro pins s σ H xs us Q I r h
  obtain ⟨c, cv, b, rfl, k, e, hdd, q⟩ := h
  obtain ⟨u1, u2, rfl, r1, r2⟩ := vals2 r
  obtain rfl : u1 = Value.ref p.1 := r1
  have e2 := k.eq r2
  subst e2
  have hget := (I.pin p (List.mem_append_left _ hp)).1
  obtain ⟨vs, hv⟩ := hf
  have hm : PySem.W.mroIn X.K C (.type "object") = some true := by
    have z := T.sub (.type "object")
    exact z
  have hcl : (PySem.W.clsIn X.K C).isSome = true := by
    obtain ⟨cd, c1, _⟩ := T.mro
    rw [c1]
    rfl
  have nc : PySem.W.notCls p.2 = true := by
    unfold PySem.W.notCls
    rw [hv]
  have J : ∃ od, PySem.W.InstAt s.heap p.1 p.2 C od := by
    cases d with
    | none => exact ⟨none, hget, hz.1, nc, by rw [hz.2]; trivial⟩
    | some dd =>
      obtain ⟨fs, hdx⟩ := hdd dd rfl
      obtain ⟨mA, hns, _⟩ := (show ObjOk X.prog X.w H s.heap dd (.xd fs) from I.hok dd _ hdx)
      obtain ⟨od, ho, _⟩ := lookIn_ns hns
      exact ⟨some od, hget, hz.1, nc, by rw [hz.2]; exact ho⟩
  obtain ⟨od, J⟩ := J
  exact PySem.W.kia_one (PySem.W.kitx_exc hcl T.ga T.gt T.base T.cl hn ht hm) I.kIn J e (fun z => nomatch z) fun tk => ⟨.bl b, H, I.tok tk, rfl, q⟩
/-! ### a def that is called while an error is handled, the error at hand: sp knows its address, class and dict -/
abbrev SpW := Addr → Value → Option Addr → Sp
structure FnW (P : Program) (w : World) (K : PySem.W.Frag) (mg : Str → Option Value) (base : Heap) (k : Nat) (f : Addr) (fd : FuncData) (ps : List Str) (sp : SpW) : Prop where
  len : ∀ a cls d vs H Q E, sp a cls d vs H Q E → vs.length = ps.length
  run : ∀ (A : Around) (outer : List Env) (s : Shared) (H : Hp) (args : Args) (us : List Value) (vs : List V) (Q : VK) (E : XK) (p : Addr × Obj) (cls : Value) (d : Option Addr), L2H.RoomH k A → Zc cls d p.2 → (∃ fs, p.2.data = .fields fs) → L2H.PinOk outer H s p →
    Env0 P w K mg base A outer s H → BindsTo s fd args (ps.zip us) → Vals vs us → sp p.1 cls d vs H Q E → codeAny (model P w) A (.call (.ref f) args) (CR CX0 outer P w H s Q E) s
theorem fun_okW {P : Program} {w : World} {K : PySem.W.Frag} {mg : Str → Option Value} {base : Heap} {x qual : Str} {st : Stmt} {f : Addr} {fd : FuncData} {N ps : List Str} {k : Nat} {sp : SpW} (F : Fun K x qual st f fd) (S : FnScope N ps (defScope st))
    (len : ∀ a cls d vs H Q E, sp a cls d vs H Q E → vs.length = ps.length)
    (body : ∀ (cdv : Value) (A : Around) (outer : List Env) (s : Shared) (H : Hp) (vs : List V) (Q : VK) (E : XK) (p : Addr × Obj) (cls : Value) (d : Option Addr), L2H.RoomH k (A.deeper (envOfC qual (defScope st) s.heap.objs.size f cdv)) → Zc cls d p.2 → (∃ fs, p.2.data = .fields fs) → sp p.1 cls d vs H Q E →
      ∃ t, PSs (L2H.cxH CX0 P w K mg base N qual (defScope st) f cdv A outer s H E p) (defBody st) t ∧ t { nx := fun _ H' => Q .non H', rt := Q } (start N vs) H) : FnW P w K mg base (k + 1) f fd ps sp := by
  obtain ⟨oc, od, kV, doc, pm, an, cdv, ct, osl, rfl, lk, hcd⟩ := F.ex
  refine ⟨len, ?_⟩
  intro A outer s H args us vs Q E p cls d room hz hf pin env0 bind vals prom
  have inK : K.In s.heap := env0.mod.kin.keeps fun b o z => (env0.bs b o z).1
  have kinds : ∀ y ∈ ps.zip us, (defScope st).names.lookup y.1 = some .local ∨ ((defScope st).names.lookup y.1 = some .cell ∧ ((cellsFrom (s.heap.objs.size + 1) (defScope st).names []).lookup y.1).isSome = true) := by
    rintro ⟨n, v⟩ hy
    exact (S.par n (List.of_mem_zip hy).1).imp id fun z => ⟨z, PySem.W.cellsFrom_some _ _ _ (.inl z)⟩
  have nolim : s.heap.NoLimit := env0.mod.nolimit.keeps fun b o z => (env0.bs b o z).1
  apply codeAny_call_function room.depth (inK _ _ lk) rfl S.co S.gen rfl (PySem.W.codeRec_of inK hcd) (bind _ _ _ _ ?_)
  apply wpAny_newFunctionEnv_cells S.kind kinds
  intro env ee s1 inc
  subst ee
  refine ⟨nolim.keeps inc.toInCall.keep, codeAny_func ?_⟩
  obtain ⟨t, dt, rt⟩ := body cdv A outer s H vs Q E p cls d (room.deeper _) hz hf prom
  have I := L2H.inv_startH (CX := CX0) (E := E) S pin env0 (len _ _ _ _ _ _ _ prom) vals inc
  refine wpAny_mono (dt.run [] s1 _ H _ I rt) (fun fl s' z => ?_) fun _ _ z => z
  cases fl with
  | next =>
    obtain ⟨σ', H', J, z⟩ := z
    exact ⟨V.non, H', J.os, J.bare, J.base, J.hok, rfl, z⟩
  | ret u =>
    obtain ⟨v, σ', H', J, rv, z⟩ := z
    exact ⟨v, H', J.os, J.bare, J.base, J.hok, rv, z⟩
  | brk =>
    obtain ⟨_, _, _, z⟩ := z
    exact z.elim
  | cont =>
    obtain ⟨_, _, _, z⟩ := z
    exact z.elim
def tCallW (sp : SpW) (a : Addr) (cls : Value) (d : Option Addr) (t : TA) : TE := fun σ H Q => t σ H fun vs H1 => sp a cls d vs H1 Q E0
theorem pe_callW {X : Cx} {k : Nat} {f : Addr} {fd : FuncData} {ps : List Str} {sp : SpW} {x : Str} {n pos : Pos} {e : Expr} {es : List Expr} {t : TA} {p : Addr × Obj} {cls : Value} {d : Option Addr} (F : FnW X.prog X.w X.K X.mg X.base k f fd ps sp) (room : L2H.RoomH k X.A)
    (hp : p ∈ X.pn) (hz : Zc cls d p.2) (hf : ∃ fs, p.2.data = .fields fs) (hg : Gl X x) (hm : X.mg x = some (.ref f)) (hk : PySem.W.keepIn X.K (.ref f) = true) (hb : Binds X.K fd ps []) (ha : PA X (e :: es) t)
    (hdb : (x == ("__debug__" : Str)) = false := by decide) (he : starEach (e :: es) X.env = (false, eval e X.env) :: starEach es X.env := by rfl) (hpl : (backTo pos (starEach es X.env)).any (·.1) = false := by rfl) :
    PE X (.Call (.Name x n) (e :: es) [] pos) (tCallW sp p.1 cls d t) := by
  constructor
  intro pins s σ H Q I h
  refine wpAny_Call_Name_kw (ld_glob I hg hm (PySem.W.callWith_K (h₀ := X.base) I.ok.mod.kin hk (thn (ha.run pos pins s σ H _ I h) ?_) he hpl) hdb)
  rintro us s1 ⟨vs, H1, I1, r, z⟩
  refine ⟨I1.kIn, ?_⟩
  have b := hb s1 us I1.kIn (by rw [List.append_nil, ← r.length]; exact F.len _ _ _ _ _ _ _ z)
  rw [List.append_nil] at b
  obtain ⟨g1, g2, g3, g4, g5⟩ := I1.pin p (List.mem_append_left _ hp)
  have pin : L2H.PinOk X.stack H1 s1 p := ⟨g1, g2, fun hm => (List.mem_cons.mp (I1.stkSub p.1 hm)).elim g3 g4, g5⟩
  refine wpAny_call (codeAny_mono (F.run X.A X.stack s1 H1 ⟨us, []⟩ us vs Q E0 p cls d room hz hf pin I1.env0 b r z) ?_)
  intro res s' z
  cases res with
  | error e => exact z.elim
  | ok fl =>
    cases fl with
    | ret u => exact I1.after z
    | next => exact z.elim
    | brk => exact z.elim
    | cont => exact z.elim
theorem pe_callA {X : Cx} {k : Nat} {f : Addr} {fd : FuncData} {ps : List Str} {sp : SpW} {x : Str} {n pos : Pos} {e : Expr} {es : List Expr} {t : TA} (a : Addr) (oe : Obj) (cls : Value) (d : Option Addr) (F : FnW X.prog X.w X.K X.mg X.base k f fd ps sp) (room : L2H.RoomH k X.A)
    (hp : (a, oe) ∈ X.pn) (hz : Zc cls d oe) (hf : ∃ fs, oe.data = .fields fs) (hg : Gl X x) (hm : X.mg x = some (.ref f)) (hk : PySem.W.keepIn X.K (.ref f) = true) (hb : Binds X.K fd ps []) (ha : PA X (e :: es) t)
    (hdb : (x == ("__debug__" : Str)) = false := by decide) (he : starEach (e :: es) X.env = (false, eval e X.env) :: starEach es X.env := by rfl) (hpl : (backTo pos (starEach es X.env)).any (·.1) = false := by rfl) :
    PE X (.Call (.Name x n) (e :: es) [] pos) (tCallW sp a cls d t) := pe_callW (p := (a, oe)) F room hp hz hf hg hm hk hb ha hdb he hpl
theorem i_callW {σ : L2.St} {H : Hp} {Q : VK} {sp : SpW} {a : Addr} {cls : Value} {d : Option Addr} {t : TA} (q : t σ H fun vs H1 => sp a cls d vs H1 Q E0) : tCallW sp a cls d t σ H Q := q
theorem i_callS {σ : L2.St} {H : Hp} {Q : VK} {sp : Sp} {E : L2.St → XK} {t : TA} (q : t σ H fun vs H1 => sp vs H1 Q (E σ)) : tCallS sp E t σ H Q := q
theorem roomW {k : Nat} {A : Around} {v : Option Value} (r : Room k A) : L2H.RoomH k (A.mark v) := ⟨r.dp, r.un⟩
end SW

namespace SW
open PySem PySem.Spec PyProof.Rows L2
/-! ### calls that may raise, wished for at the caller's slots: methods, makings, keywords -/
theorem coldAt {X : Cx} (σ : L2.St) : PassesAt (L2.CX X.prog X.w) X σ ((fun _ => E0 : L2.St → XK) σ) := fun pins H s e s' I c => passL pins σ H s e s' I c
section
variable {X : Cx} {CX : CXT} {k n : Nat} {f C : Addr} {fd : FuncData} {ps ks : List Str} {sp : Sp} {dvs : List V} {ds : List Value} {E : L2.St → XK} {x m : Str} {p pos apos : Pos} {e o : Expr} {es : List Expr} {kws : List Keyword} {ta : TE} {t tk : TA} {g : List Value → List Value → List Value} {gV : List V → List V → List V}
def tMeS (C : Addr) (m : Str) (sp : Sp) (dvs : List V) (E : L2.St → XK) (ta : TE) (t : TA) : TE := fun σ H Q => ta σ H fun x H1 => ∃ a dx fs, x = .ref a ∧ H1 a = some (.ins C dx fs) ∧ fs.lookup m = none ∧
  t σ H1 fun vs H2 => sp (x :: (vs ++ dvs)) H2 Q (E σ)
theorem pe_meS {pl : Sem Bool} (he : PE X o ta) (c : Cls X.K C) (hm : Meth X.K C m f) (F : FnOk X.prog X.w X.K X.mg X.base CX k f fd ps sp) (hr : Room k X.A) (hb : Binds X.K fd ps ds) (hd : Vals dvs ds) (hx : ∀ σ, PassesAt CX X σ (E σ)) (ha : PA X (e :: es) t)
    (hst : starEach (e :: es) X.env = (false, eval e X.env) :: starEach es X.env := by rfl) (hpl : (backTo pos (starEach es X.env)).any (·.1) = false := by rfl)
    (ht : eval (.Call (.Attribute o m apos) (e :: es) [] pos) X.env = (do
      let ov ← eval o X.env
      standAt apos.atName
      let (f, first) ← holding [ov] (getMethod ov m pl)
      callWith pos f first (backTo pos (starEach (e :: es) X.env)) (backToKw pos (keywordEach [] X.env))) := by rfl) :
    PE X (.Call (.Attribute o m apos) (e :: es) [] pos) (tMeS C m sp dvs E ta t) := by
  refine ⟨fun pins s σ H Q I h => ?_⟩
  refine PySem.W.methodCall_KW (pl := pl) (thn (he.run pins s σ H _ I h) fun u s1 ⟨x, H1, I1, rx, a, dx, fs, ex, ea, l, q⟩ => ?_) ht
  subst ex
  obtain rfl : u = Value.ref a := rx
  refine getmeth_ok I1 ea c hm l ?_
  refine PySem.W.callWith_K (first := [.ref a]) (h₀ := X.base) I.ok.mod.kin hm.kp (thn (ha.run pos pins s1 σ H1 _ I1 q) fun us s2 ⟨vs, H2, I2, r, q2⟩ => ⟨I2.kIn, ?_⟩) hst hpl
  exact run_fnSD (us := .ref a :: us) (vs := .ref a :: vs) F hr hb hd (hx σ) I2 (.cons rfl r) q2
theorem pe_meS0 {pl : Sem Bool} (he : PE X o ta) (c : Cls X.K C) (hm : Meth X.K C m f) (F : FnOk X.prog X.w X.K X.mg X.base CX k f fd ps sp) (hr : Room k X.A) (hb : Binds X.K fd ps ds) (hd : Vals dvs ds) (hx : ∀ σ, PassesAt CX X σ (E σ))
    (ht : eval (.Call (.Attribute o m apos) [] [] pos) X.env = (do
      let ov ← eval o X.env
      standAt apos.atName
      let (f, first) ← holding [ov] (getMethod ov m pl)
      callWith pos f first (backTo pos (starEach [] X.env)) (backToKw pos (keywordEach [] X.env))) := by rfl) :
    PE X (.Call (.Attribute o m apos) [] [] pos) (tMeS C m sp dvs E ta tNil) := by
  refine ⟨fun pins s σ H Q I h => ?_⟩
  refine PySem.W.methodCall_KW (pl := pl) (thn (he.run pins s σ H _ I h) fun u s1 ⟨x, H1, I1, rx, a, dx, fs, ex, ea, l, q⟩ => ?_) ht
  subst ex
  obtain rfl : u = Value.ref a := rx
  refine getmeth_ok I1 ea c hm l ?_
  exact PySem.W.callWith_K0 (first := [.ref a]) I1.kIn hm.kp (run_fnSD (us := [.ref a]) (vs := [.ref a]) F hr hb hd (hx σ) I1 (.cons rfl .nil) q)
/-! a new instance -/
theorem run_mkS {pins : List (Addr × Obj)} {σ : L2.St} {H : Hp} {s : Shared} {Q : VK} {us : List Value} {vs : List V} (M : Mk X.K C f) (F : FnOk X.prog X.w X.K X.mg X.base CX k f fd ps sp) (hr : Room (k + 1) X.A) (hb : Binds X.K fd ps ds) (hd : Vals dvs ds)
    (hx : PassesAt CX X σ (E σ)) (I : Inv X pins σ H s) (r : Vals vs us)
    (h : ∀ x dx, H x = none → H dx = none → dx ≠ x → sp (.ref x :: (vs ++ dvs)) (upd (upd H dx (.own x)) x (.ins C dx [])) (fun v H2 => v = .non ∧ Q (.ref x) H2) (E σ)) :
    wpAny (model X.prog X.w) X.A (call (.ref C) us) (EP X pins σ Q) X.xe s := by
  have hq := h (s.heap.objs.size + 1) s.heap.objs.size (I.hok.fresh (Nat.le_succ _)) (I.hok.fresh (Nat.le_refl _)) (Nat.ne_of_lt (Nat.lt_succ_self _))
  have I2 := Inv.made (C := C) I
  have r2 : Vals (V.ref (s.heap.objs.size + 1) :: (vs ++ dvs)) (Value.ref (s.heap.objs.size + 1) :: (us ++ ds)) := .cons rfl (r.append hd)
  have hl : (Value.ref (s.heap.objs.size + 1) :: us ++ ds).length = ps.length := by
    have e := r2.length
    rw [F.len _ _ _ _ hq] at e
    exact e.symm
  refine wpAny_call (make_map (f := f) I.kIn M.makes M.init (beq_iff_eq.mp M.fn) (codeAny_mono (F.run _ X.stack _ _ ⟨Value.ref (s.heap.objs.size + 1) :: us, []⟩ (Value.ref (s.heap.objs.size + 1) :: (us ++ ds)) _ _ (E σ) (hr.make C us [])
    (I2.env0.make C us []) (hb _ (Value.ref (s.heap.objs.size + 1) :: us) I2.kIn hl) r2 hq) fun r s' hq' => ?_))
  cases r with
  | error e => exact hx pins _ _ e s' I2 hq'
  | ok fl =>
    cases fl with
    | ret u =>
      obtain ⟨v, H', I3, rv, ev, q3⟩ := I2.after hq'
      subst ev
      exact ⟨rv, ⟨V.ref (s.heap.objs.size + 1), H', I3, rfl, q3⟩⟩
    | next => exact False.elim hq'
    | brk => exact False.elim hq'
    | cont => exact False.elim hq'
def tMkS (C : Addr) (sp : Sp) (dvs : List V) (E : L2.St → XK) (t : TA) : TE := fun σ H Q => t σ H fun vs H1 => ∀ x dx, H1 x = none → H1 dx = none → dx ≠ x →
  sp (.ref x :: (vs ++ dvs)) (upd (upd H1 dx (.own x)) x (.ins C dx [])) (fun v H2 => v = .non ∧ Q (.ref x) H2) (E σ)
theorem pe_mkS (M : Mk X.K C f) (F : FnOk X.prog X.w X.K X.mg X.base CX k f fd ps sp) (hr : Room (k + 1) X.A) (hg : Gl X x) (hm : X.mg x = some (.ref C)) (hb : Binds X.K fd ps ds) (hd : Vals dvs ds) (hx : ∀ σ, PassesAt CX X σ (E σ))
    (ha : PA X (e :: es) t) (hdb : (x == ("__debug__" : Str)) = false := by decide) (he : starEach (e :: es) X.env = (false, eval e X.env) :: starEach es X.env := by rfl) (hpl : (backTo pos (starEach es X.env)).any (·.1) = false := by rfl) :
    PE X (.Call (.Name x p) (e :: es) [] pos) (tMkS C sp dvs E t) := by
  refine ⟨fun pins s σ H Q I h => ?_⟩
  refine wpAny_Call_Name_kw (ld_glob I hg hm ?_ hdb)
  refine PySem.W.callWith_K (h₀ := X.base) I.ok.mod.kin M.kp (thn (ha.run pos pins s σ H _ I h) fun us s1 ⟨vs, H1, I1, r, q⟩ => ⟨I1.kIn, ?_⟩) he hpl
  exact run_mkS M F hr hb hd (hx σ) I1 r q
theorem pe_mkS0 (M : Mk X.K C f) (F : FnOk X.prog X.w X.K X.mg X.base CX k f fd ps sp) (hr : Room (k + 1) X.A) (hg : Gl X x) (hm : X.mg x = some (.ref C)) (hb : Binds X.K fd ps ds) (hd : Vals dvs ds) (hx : ∀ σ, PassesAt CX X σ (E σ))
    (hdb : (x == ("__debug__" : Str)) = false := by decide) : PE X (.Call (.Name x p) [] [] pos) (tMkS C sp dvs E tNil) := by
  refine ⟨fun pins s σ H Q I h => ?_⟩
  refine wpAny_Call_Name_kw (ld_glob I hg hm ?_ hdb)
  exact PySem.W.callWith_K0 I.kIn M.kp (run_mkS (us := []) M F hr hb hd (hx σ) I .nil h)
def tMkNS (C : Addr) (n m : Nat) (sp : Sp) (gV : List V → List V → List V) (E : L2.St → XK) (t tk : TA) : TE := fun σ H Q => t σ H fun vs H1 => tk σ H1 fun zs H2 => vs.length = n ∧ zs.length = m ∧
  ∀ x dx, H2 x = none → H2 dx = none → dx ≠ x → sp (gV (.ref x :: vs) zs) (upd (upd H2 dx (.own x)) x (.ins C dx [])) (fun v H3 => v = .non ∧ Q (.ref x) H3) (E σ)
theorem run_mkNS {pins : List (Addr × Obj)} {σ : L2.St} {H : Hp} {s : Shared} {Q : VK} {us ws : List Value} {vs zs : List V} (M : Mk X.K C f) (F : FnOk X.prog X.w X.K X.mg X.base CX k f fd ps sp) (hr : Room (k + 1) X.A) (hb : KBn X.K fd ps (n + 1) ks g gV)
    (hx : PassesAt CX X σ (E σ)) (I : Inv X pins σ H s) (r : Vals vs us) (rz : Vals zs ws) (l1 : vs.length = n) (l2 : zs.length = ks.length)
    (h : ∀ x dx, H x = none → H dx = none → dx ≠ x → sp (gV (.ref x :: vs) zs) (upd (upd H dx (.own x)) x (.ins C dx [])) (fun v H2 => v = .non ∧ Q (.ref x) H2) (E σ)) :
    wpAny (model X.prog X.w) X.A (call (.ref C) us (ks.zip ws)) (EP X pins σ Q) X.xe s := by
  have hq := h (s.heap.objs.size + 1) s.heap.objs.size (I.hok.fresh (Nat.le_succ _)) (I.hok.fresh (Nat.le_refl _)) (Nat.ne_of_lt (Nat.lt_succ_self _))
  have I2 := Inv.made (C := C) I
  have r1 : Vals (V.ref (s.heap.objs.size + 1) :: vs) (Value.ref (s.heap.objs.size + 1) :: us) := .cons rfl r
  have r2 := hb.rel r1 rz
  have e1 : (Value.ref (s.heap.objs.size + 1) :: us).length = n + 1 := r1.length.symm.trans (congrArg Nat.succ l1)
  have e2 : ws.length = ks.length := rz.length.symm.trans l2
  refine wpAny_call (make_map (f := f) I.kIn M.makes M.init (beq_iff_eq.mp M.fn) (codeAny_mono (F.run _ X.stack _ _ ⟨Value.ref (s.heap.objs.size + 1) :: us, ks.zip ws⟩ (g (Value.ref (s.heap.objs.size + 1) :: us) ws) _ _ (E σ) (hr.make C us (ks.zip ws))
    (I2.env0.make C us (ks.zip ws)) (hb.to _ (Value.ref (s.heap.objs.size + 1) :: us) ws I2.kIn e1 e2) r2 hq) fun r s' hq' => ?_))
  cases r with
  | error e => exact hx pins _ _ e s' I2 hq'
  | ok fl =>
    cases fl with
    | ret u =>
      obtain ⟨v, H', I3, rv, ev, q3⟩ := I2.after hq'
      subst ev
      exact ⟨rv, ⟨V.ref (s.heap.objs.size + 1), H', I3, rfl, q3⟩⟩
    | next => exact False.elim hq'
    | brk => exact False.elim hq'
    | cont => exact False.elim hq'
theorem pe_mkNS (M : Mk X.K C f) (F : FnOk X.prog X.w X.K X.mg X.base CX k f fd ps sp) (hr : Room (k + 1) X.A) (hg : Gl X x) (hm : X.mg x = some (.ref C)) (hb : KBn X.K fd ps (n + 1) ks g gV) (hx : ∀ σ, PassesAt CX X σ (E σ))
    (ha : PA X (e :: es) t) (hkw : PK X kws tk) (hall : (backToKw pos (keywordEach kws X.env)).all (·.1.isSome) = true := by rfl) (hks : (backToKw pos (keywordEach kws X.env)).filterMap (·.1) = ks := by rfl)
    (hdb : (x == ("__debug__" : Str)) = false := by decide) (he : starEach (e :: es) X.env = (false, eval e X.env) :: starEach es X.env := by rfl)
    (hpl : ((backTo pos (starEach (e :: es) X.env)).any (·.1) || (backToKw pos (keywordEach kws X.env)).any (·.1.isNone)) = false := by rfl) :
    PE X (.Call (.Name x p) (e :: es) kws pos) (tMkNS C n ks.length sp gV E t tk) := by
  refine ⟨fun pins s σ H Q I h => ?_⟩
  refine wpAny_Call_Name_kw (ld_glob I hg hm ?_ hdb)
  refine PySem.W.callWith_KW (h₀ := X.base) I.ok.mod.kin M.kp hall (thn (ha.run pos pins s σ H _ I h) fun us s1 ⟨vs, H1, I1, r, q⟩ => ?_) hpl he
  refine thn (hkw.run pos pins s1 σ H1 _ I1 q) fun ws s2 ⟨zs, H2, I2, rz, l1, l2, q2⟩ => ⟨I2.kIn, ?_⟩
  rw [hks]
  exact run_mkNS M F hr hb (hx σ) I2 r rz l1 l2 q2
/-! f(.., k = v) that may raise -/
def tCallNS (n m : Nat) (sp : Sp) (gV : List V → List V → List V) (E : L2.St → XK) (t tk : TA) : TE := fun σ H Q => t σ H fun vs H1 => tk σ H1 fun zs H2 => vs.length = n ∧ zs.length = m ∧ sp (gV vs zs) H2 Q (E σ)
theorem pe_callNS (F : FnOk X.prog X.w X.K X.mg X.base CX k f fd ps sp) (hr : Room k X.A) (hg : Gl X x) (hm : X.mg x = some (.ref f)) (hk : PySem.W.keepIn X.K (.ref f) = true) (hb : KBn X.K fd ps n ks g gV) (hx : ∀ σ, PassesAt CX X σ (E σ))
    (ha : PA X (e :: es) t) (hkw : PK X kws tk) (hall : (backToKw pos (keywordEach kws X.env)).all (·.1.isSome) = true := by rfl) (hks : (backToKw pos (keywordEach kws X.env)).filterMap (·.1) = ks := by rfl)
    (hdb : (x == ("__debug__" : Str)) = false := by decide) (he : starEach (e :: es) X.env = (false, eval e X.env) :: starEach es X.env := by rfl)
    (hpl : ((backTo pos (starEach (e :: es) X.env)).any (·.1) || (backToKw pos (keywordEach kws X.env)).any (·.1.isNone)) = false := by rfl) :
    PE X (.Call (.Name x p) (e :: es) kws pos) (tCallNS n ks.length sp gV E t tk) := by
  refine ⟨fun pins s σ H Q I h => ?_⟩
  refine wpAny_Call_Name_kw (ld_glob I hg hm ?_ hdb)
  refine PySem.W.callWith_KW (h₀ := X.base) I.ok.mod.kin hk hall (thn (ha.run pos pins s σ H _ I h) fun us s1 ⟨vs, H1, I1, r, q⟩ => ?_) hpl he
  refine thn (hkw.run pos pins s1 σ H1 _ I1 q) fun ws s2 ⟨zs, H2, I2, rz, l1, l2, q2⟩ => ⟨I2.kIn, ?_⟩
  rw [hks]
  have e1 : us.length = n := r.length.symm.trans l1
  have e2 : ws.length = ks.length := rz.length.symm.trans l2
  refine wpAny_call (codeAny_mono (F.run X.A X.stack s2 H2 ⟨us, ks.zip ws⟩ (g us ws) (gV vs zs) Q (E σ) hr I2.env0 (hb.to s2 us ws I2.kIn e1 e2) (hb.rel r rz) q2) fun r s' hq => ?_)
  cases r with
  | error e => exact hx σ pins H2 s2 e s' I2 hq
  | ok fl =>
    cases fl with
    | ret u => exact I2.after hq
    | next => exact False.elim hq
    | brk => exact False.elim hq
    | cont => exact False.elim hq
end
/-! ### readings -/
section
variable {K : PySem.W.Frag} {σ : L2.St} {H : Hp} {Q : VK} {n bk ct : L2.St → Hp → Prop} {rt : VK} {C a dx : Addr} {fs : List (Str × V)} {f m : Str} {v x y : V} {ta tv : TE} {t tk : TA} {sp : Sp} {E : L2.St → XK} {dvs : List V}
theorem ps_fldK {X : Cx} {o value : Expr} {pos pos' : Pos} (hK : X.K = K) (ha : PE X o ta) (hv : PE X value tv) (hs : swapsWith value (some (.Attribute o f pos')) pos.line X.env = pure false) : PS X (.Assign [.Attribute o f pos'] value pos) (sFld K ta tv f) := by
  subst hK
  exact ps_fld ha hv hs
def rFld (K : PySem.W.Frag) (f : Str) : V → Hp → VK → Prop := fun x H Q => ∃ a C dx fs v, x = .ref a ∧ H a = some (.ins C dx fs) ∧ Cls K C ∧ NoAttr K C f ∧ fs.lookup f = some v ∧ Q v H
theorem i_fld (q : ta σ H fun x H1 => rFld K f x H1 Q) : tFld K ta f σ H Q := q
theorem i_fldI (h : H a = some (.ins C dx fs)) (c : Cls K C) (n : NoAttr K C f) (l : fs.lookup f = some v) (q : Q v H) : rFld K f (.ref a) H Q := ⟨a, C, dx, fs, v, rfl, h, c, n, l, q⟩
theorem i_sfld (q : tv σ H fun y H1 => ta σ H1 fun x H2 => ∃ a C dx fs, x = .ref a ∧ H2 a = some (.ins C dx fs) ∧ Cls K C ∧ NoAttr K C f ∧ fs.length < 1000 ∧ n σ (upd H2 a (.ins C dx (putF f y fs)))) : sFld K ta tv f ⟨n, rt, bk, ct⟩ σ H := q
theorem i_sfldI {fs' : List (Str × V)} {R : Hp → Prop} (h : H a = some (.ins C dx fs)) (c : Cls K C) (n : NoAttr K C f) (e : putF f y fs = fs') (l : fs.length < 1000) (q : R (upd H a (.ins C dx fs'))) :
    ∃ a' C dx fs, V.ref a = .ref a' ∧ H a' = some (.ins C dx fs) ∧ Cls K C ∧ NoAttr K C f ∧ fs.length < 1000 ∧ R (upd H a' (.ins C dx (putF f y fs))) := ⟨a, C, dx, fs, rfl, h, c, n, l, by rw [e]; exact q⟩
theorem i_meS (q : ta σ H fun x H1 => ∃ a dx fs, x = .ref a ∧ H1 a = some (.ins C dx fs) ∧ fs.lookup m = none ∧ t σ H1 fun vs H2 => sp (x :: (vs ++ dvs)) H2 Q (E σ)) : tMeS C m sp dvs E ta t σ H Q := q
theorem i_recv {R : Prop} (h : H a = some (.ins C dx fs)) (l : fs.lookup m = none) (q : R) : ∃ a' dx fs, V.ref a = .ref a' ∧ H a' = some (.ins C dx fs) ∧ fs.lookup m = none ∧ R := ⟨a, dx, fs, rfl, h, l, q⟩
theorem i_mkS (q : t σ H fun vs H1 => ∀ x dx, H1 x = none → H1 dx = none → dx ≠ x → sp (.ref x :: (vs ++ dvs)) (upd (upd H1 dx (.own x)) x (.ins C dx [])) (fun v H2 => v = .non ∧ Q (.ref x) H2) (E σ)) : tMkS C sp dvs E t σ H Q := q
theorem i_mkNS {k m : Nat} {gV : List V → List V → List V} (q : t σ H fun vs H1 => tk σ H1 fun zs H2 => vs.length = k ∧ zs.length = m ∧ ∀ x dx, H2 x = none → H2 dx = none → dx ≠ x → sp (gV (.ref x :: vs) zs) (upd (upd H2 dx (.own x)) x (.ins C dx [])) (fun v H3 => v = .non ∧ Q (.ref x) H3) (E σ)) :
    tMkNS C k m sp gV E t tk σ H Q := q
theorem i_callNS {k m : Nat} {gV : List V → List V → List V} (q : t σ H fun vs H1 => tk σ H1 fun zs H2 => vs.length = k ∧ zs.length = m ∧ sp (gV vs zs) H2 Q (E σ)) : tCallNS k m sp gV E t tk σ H Q := q
theorem i_callSD (q : t σ H fun vs H1 => sp (vs ++ dvs) H1 Q (E σ)) : tCallSD sp dvs E t σ H Q := q
theorem i_meth {E' : XK} (q : ta σ H fun x H1 => ∃ a dx fs, x = .ref a ∧ H1 a = some (.ins C dx fs) ∧ fs.lookup m = none ∧ t σ H1 fun vs H2 => sp (x :: (vs ++ dvs)) H2 Q E') : tMeth C m sp dvs E' ta t σ H Q := q
end
/-! ### enumerate, zip: pairs -/
theorem pi_enumK {X : Cx} {K : PySem.W.Frag} {e : Expr} {ta : TA} {p pos tpos : Pos} {elts : List Expr} {kk : Nat} (hK : X.K = K) (hg : Gl X "enumerate") (hm : X.mg "enumerate" = none) (ha : PA X [e] ta) (hs : starEach [e] X.env = [(false, eval e X.env)] := by rfl) :
    PI X (.Tuple elts kk tpos) (.Call (.Name "enumerate" p) [e] [] pos) (iEnum K ta) := by
  subst hK
  exact pi_enum hg hm ha hs
theorem pi_zipK {X : Cx} {K : PySem.W.Frag} {e e2 : Expr} {ta : TA} {p pos tpos : Pos} {elts : List Expr} {kk : Nat} (hK : X.K = K) (hg : Gl X "zip") (hm : X.mg "zip" = none) (ha : PA X [e, e2] ta)
    (hs : starEach [e, e2] X.env = (false, eval e X.env) :: starEach [e2] X.env := by rfl) (hpl : (backTo pos (starEach [e2] X.env)).any (·.1) = false := by rfl) :
    PI X (.Tuple elts kk tpos) (.Call (.Name "zip" p) [e, e2] [] pos) (iZip K ta) := by
  subst hK
  exact pi_zip hg hm ha hs hpl
section
variable {σ : L2.St} {H : Hp} {K : PySem.W.Frag} {Q : VK} {n bk ct : L2.St → Hp → Prop} {rt : VK} {tb : TS} {g : TG} {tt : TT} {te : TE} {ta : TA} {vs : List Nat} {a b D : Addr}
theorem i_forE (q : ta σ H fun vs H1 => ∃ a xs, vs = [.ref a] ∧ SqL K H1 a xs ∧ LOOP (Ite K a) g tb ⟨n, rt, bk, ct⟩ σ H1) : tFor (iEnum K ta) g tb ⟨n, rt, bk, ct⟩ σ H := q
theorem i_forZ (q : ta σ H fun vs H1 => ∃ a b xs ys, vs = [.ref a, .ref b] ∧ SqL K H1 a xs ∧ SqL K H1 b ys ∧ LOOP (Itz K a b) g tb ⟨n, rt, bk, ct⟩ σ H1) : tFor (iZip K ta) g tb ⟨n, rt, bk, ct⟩ σ H := q
theorem i_lcE (q : ta σ H fun us H1 => ∃ a xs, us = [.ref a] ∧ SqL K H1 a xs ∧ ∀ D, H1 D = none → COMP (Ite K a) g tt te vs σ H1 D Q) : tLc (iEnum K ta) g tt te vs σ H Q := q
theorem i_lcZ (q : ta σ H fun us H1 => ∃ a b xs ys, us = [.ref a, .ref b] ∧ SqL K H1 a xs ∧ SqL K H1 b ys ∧ ∀ D, H1 D = none → COMP (Itz K a b) g tt te vs σ H1 D Q) : tLc (iZip K ta) g tt te vs σ H Q := q
/-- pairs of a list of pairs -/
def YL (L : List (V × V)) : Nat → Hp → V → Hp → Prop := fun i H v H' => ∃ T x y, v = .ref T ∧ H T = none ∧ H' = upd H T (.tup [x, y]) ∧ L[i]? = some (x, y)
theorem walk_zipL {xs ys : List V} : Walk (Itz K a b) (xs.zip ys).length (fun H => SqL K H a xs ∧ SqL K H b ys) (YL (xs.zip ys)) :=
  (walk_zip (n := (xs.zip ys).length) (by rw [List.length_zip])).mono (fun _ h => h) fun i H x H' hi _ y => by
    obtain ⟨T, x, y, h1, h2, h3, h4, h5⟩ := y
    exact ⟨T, x, y, h1, h2, h3, by rw [List.getElem?_zip_eq_some]; exact ⟨h4, h5⟩⟩
def enumL (xs : List V) : List (V × V) := ((List.range xs.length).map fun i : Nat => V.int (i : Int)).zip xs
theorem enumL_len {xs : List V} : (enumL xs).length = xs.length := by
  unfold enumL
  rw [List.length_zip, List.length_map, List.length_range, Nat.min_self]
theorem walk_enumL {xs : List V} : Walk (Ite K a) (enumL xs).length (fun H => SqL K H a xs) (YL (enumL xs)) := by
  rw [enumL_len]
  refine walk_enum.mono (fun _ h => h) fun i H x H' hi _ y => ?_
  obtain ⟨T, x, y, h1, h2, h3, h4, h5⟩ := y
  refine ⟨T, x, y, h1, h2, h3, ?_⟩
  unfold enumL
  rw [List.getElem?_zip_eq_some]
  refine ⟨?_, h5⟩
  rw [List.getElem?_map, List.getElem?_range hi]
  exact h4
theorem enumL_at {xs : List V} {i : Nat} {x y : V} (h : (enumL xs)[i]? = some (x, y)) : x = .int (i : Int) ∧ xs[i]? = some y := by
  unfold enumL at h
  rw [List.getElem?_zip_eq_some] at h
  obtain ⟨h1, h2⟩ := h
  refine ⟨?_, h2⟩
  rw [List.getElem?_map] at h1
  cases e : (List.range xs.length)[i]? with
  | none =>
    rw [e] at h1
    cases h1
  | some k =>
    rw [e] at h1
    obtain ⟨hk, e2⟩ := List.getElem?_eq_some_iff.mp e
    rw [List.getElem_range] at e2
    subst e2
    exact (Option.some.inj h1).symm
theorem l_it {J : It} {m : Nat} {G : Hp → Prop} {Y : Nat → Hp → V → Hp → Prop} (w : Walk J m G Y) (Pv : Nat → L2.St → Hp → Prop) (h0 : Pv 0 σ H) (hG : ∀ i σ H, i ≤ m → Pv i σ H → G H)
    (hs : ∀ i x σ H H', i < m → Pv i σ H → Y i H x H' → g x σ H' fun σ2 H2 => tb ⟨Pv (i + 1), rt, n, Pv (i + 1)⟩ σ2 H2) (hd : ∀ σ H, Pv m σ H → n σ H) : LOOP J g tb ⟨n, rt, bk, ct⟩ σ H := for_it w Pv h0 hG hs hd
/-- for i, j in pairs -/
theorem l_pair {J : It} {G : Hp → Prop} {L : List (V × V)} {i j : Nat} (w : Walk J L.length G (YL L)) (Pv : Nat → L2.St → Hp → Prop) (h0 : Pv 0 σ H) (hG : ∀ k σ H, k ≤ L.length → Pv k σ H → G H)
    (hs : ∀ (k : Nat) x y σ H T, L[k]? = some (x, y) → Pv k σ H → H T = none → tb ⟨Pv (k + 1), rt, n, Pv (k + 1)⟩ ((σ.set i (some x)).set j (some y)) (upd H T (.tup [x, y]))) (hd : ∀ σ H, Pv L.length σ H → n σ H) :
    LOOP J (gTup K 2 (gCons (gName i) (gCons (gName j) gNil))) tb ⟨n, rt, bk, ct⟩ σ H := by
  refine l_it w Pv h0 hG (fun k v σ' H1 H2 hk hp hy => ?_) hd
  obtain ⟨T, x, y, rfl, nT, rfl, e⟩ := hy
  exact i_gtup upd_same rfl (i_gcons (i_gname (i_gcons (i_gname (i_gnil (hs k x y σ' H1 T e hp nT))))))
def coll (pr : V → V → Bool) (f : V → V → V) (L : List (V × V)) : List V := (L.filter fun p => pr p.1 p.2).map fun p => f p.1 p.2
theorem coll_snoc (pr : V → V → Bool) (f : V → V → V) (L : List (V × V)) (x y : V) : coll pr f (L ++ [(x, y)]) = coll pr f L ++ (if pr x y = true then [f x y] else []) := by
  unfold coll
  rw [List.filter_append, List.map_append]
  by_cases h : pr x y = true
  · rw [if_pos h]
    simp [h]
  · rw [if_neg h]
    simp [h]
/-- [f x y for x, y in pairs if pr x y] -/
theorem c_pair {J : It} {G : Hp → Prop} {L : List (V × V)} {i j : Nat} (pr : V → V → Bool) (f : V → V → V) (w : Walk J L.length G (YL L)) (hn : L.length ≤ 1000) (hD : H D = none) (hG : ∀ H', Same H H' → G H')
    (hw : ∀ v u, wipe (((wipe σ vs).set i (some v)).set j (some u)) vs = wipe σ vs)
    (ht : ∀ (k : Nat) x y, L[k]? = some (x, y) → ∀ H', Same H H' → ∀ R : Bool → Hp → Prop, R (pr x y) H' → tt (((wipe σ vs).set i (some x)).set j (some y)) H' R)
    (he : ∀ (k : Nat) x y, L[k]? = some (x, y) → pr x y = true → ∀ H', Same H H' → ∀ R : VK, (∀ H'', Same H' H'' → R (f x y) H'') → te (((wipe σ vs).set i (some x)).set j (some y)) H' R)
    (q : ∀ H', Same H H' → H' D = some (.lst (coll pr f L)) → Q (.ref D) H') : COMP J (gTup K 2 (gCons (gName i) (gCons (gName j) gNil))) tt te vs σ H D Q := by
  refine lc_it w (fun k H' => Same H H' ∧ H' D = some (.lst (coll pr f (L.take k)))) ⟨same_mut (Same.refl H) hD, by rw [upd_same, List.take_zero]; rfl⟩ (fun k H' _ h => hG H' h.1) ?_ ?_
  · rintro k v H1 H2 hk ⟨h1, h2⟩ ⟨T, x, y, rfl, nT, rfl, e⟩
    have s2 : Same H1 (upd H1 T (.tup [x, y])) := same_new nT
    have et : coll pr f (L.take (k + 1)) = coll pr f (L.take k) ++ (if pr x y = true then [f x y] else []) := by
      rw [List.take_add_one, e]
      exact coll_snoc pr f _ x y
    refine i_gtup upd_same rfl (i_gcons (i_gname (i_gcons (i_gname (i_gnil ⟨hw _ _, ?_⟩)))))
    refine ht k x y e _ (h1.trans s2) _ ?_
    by_cases h : pr x y = true
    · rw [if_pos h]
      refine he k x y e h _ (h1.trans s2) _ fun H3 h3 => ?_
      have h4 := h3 _ _ (s2 _ _ h2)
      refine ⟨_, h4, ?_, ?_, ?_⟩
      · refine small1000 ?_
        unfold coll
        rw [List.length_map]
        refine Nat.le_trans (List.length_filter_le _ _) ?_
        rw [List.length_take]
        omega
      · exact same_mut ((h1.trans s2).trans h3) hD
      · rw [upd_same, et, if_pos h]
    · rw [if_neg h]
      refine ⟨h1.trans s2, ?_⟩
      rw [s2 _ _ h2, et, if_neg h, List.append_nil]
  · rintro H1 ⟨h1, h2⟩
    rw [List.take_length] at h2
    exact q H1 h1 h2
end
theorem rep_one (v : V) : ∀ k : Nat, (List.replicate k [v]).flatten = List.replicate k v
  | 0 => rfl
  | k + 1 => by
    rw [List.replicate_succ, List.flatten_cons, rep_one v k, List.replicate_succ]
    rfl
/-- [v] * k -/
theorem i_rep {H : Hp} {Q : VK} {l : Addr} {v : V} {k : Nat} (h : H l = some (.lst [v])) (hk : k ≤ 1000) (q : ∀ p, H p = none → Q (.ref p) (upd H p (.lst (List.replicate k v)))) : rRep (.ref l) (.int (k : Int)) H Q := by
  refine ⟨l, k, [v], rfl, rfl, h, by omega, by omega, ?_, fun p np => ?_⟩
  · rw [Int.toNat_natCast]
    show 1 * k ≤ _
    rw [Nat.one_mul]
    exact Nat.le_of_lt (small1000 hk)
  · rw [Int.toNat_natCast, rep_one]
    exact q p np
end SW

namespace SW
open PySem PySem.Spec PyProof.Rows L2
/-! ### data without addresses; what stands for it in a view -/
inductive D where
  | int (i : Int) | bl (b : Bool) | str (x : Str) | non | ty (n : String)
  | tup (ds : List D) | lst (ds : List D)
  | dK (ks : List Key) (ds : List D) | dT (ks : List (List Key)) (ds : List D)
  | obj (C : Addr) (ns : List Str) (ds : List D)
mutual
def R (K : PySem.W.Frag) (U : Hp) : D → V → Prop
  | .int i, v => v = .int i
  | .bl b, v => v = .bl b
  | .str x, v => v = .str x
  | .non, v => v = .non
  | .ty n, v => v = .ty n
  | .tup ds, v => ∃ a xs, v = .ref a ∧ SqT K U a xs ∧ Rs K U ds xs
  | .lst ds, v => ∃ a xs, v = .ref a ∧ U a = some (.lst xs) ∧ Rs K U ds xs
  | .dK ks ds, v => ∃ a xs, v = .ref a ∧ U a = some (.dK (ks.zip xs)) ∧ ks.length = xs.length ∧ Rs K U ds xs
  | .dT ks ds, v => ∃ a xs, v = .ref a ∧ U a = some (.dT (ks.zip xs)) ∧ ks.length = xs.length ∧ Rs K U ds xs
  | .obj C ns ds, v => ∃ a dx xs, v = .ref a ∧ U a = some (.ins C dx (ns.zip xs)) ∧ ns.length = xs.length ∧ Rs K U ds xs
def Rs (K : PySem.W.Frag) (U : Hp) : List D → List V → Prop
  | [], vs => vs = []
  | d :: ds, vs => ∃ v r, vs = v :: r ∧ R K U d v ∧ Rs K U ds r
end
section
variable {K : PySem.W.Frag} {U U' H H' : Hp}
theorem Same.tup {a : Addr} {xs : List V} (e : Same U U') (h : SqT K U a xs) : SqT K U' a xs := by
  rcases h with (h | ⟨o, h⟩) | h
  · exact .inl (.inl (e _ _ h))
  · exact .inl (.inr ⟨o, e _ _ h⟩)
  · exact .inr h
mutual
theorem R.mono (e : Same U U') : ∀ (d : D) (v : V), R K U d v → R K U' d v
  | .int _, _, h => h
  | .bl _, _, h => h
  | .str _, _, h => h
  | .non, _, h => h
  | .ty _, _, h => h
  | .tup ds, _, ⟨a, xs, h1, h2, h3⟩ => ⟨a, xs, h1, Same.tup e h2, Rs.mono e ds xs h3⟩
  | .lst ds, _, ⟨a, xs, h1, h2, h3⟩ => ⟨a, xs, h1, e _ _ h2, Rs.mono e ds xs h3⟩
  | .dK _ ds, _, ⟨a, xs, h1, h2, h3, h4⟩ => ⟨a, xs, h1, e _ _ h2, h3, Rs.mono e ds xs h4⟩
  | .dT _ ds, _, ⟨a, xs, h1, h2, h3, h4⟩ => ⟨a, xs, h1, e _ _ h2, h3, Rs.mono e ds xs h4⟩
  | .obj _ _ ds, _, ⟨a, dx, xs, h1, h2, h3, h4⟩ => ⟨a, dx, xs, h1, e _ _ h2, h3, Rs.mono e ds xs h4⟩
theorem Rs.mono (e : Same U U') : ∀ (ds : List D) (vs : List V), Rs K U ds vs → Rs K U' ds vs
  | [], _, h => h
  | d :: ds, _, ⟨v, r, h1, h2, h3⟩ => ⟨v, r, h1, R.mono e d v h2, Rs.mono e ds r h3⟩
end
theorem Rs.len : ∀ {ds : List D} {vs : List V}, Rs K U ds vs → ds.length = vs.length
  | [], _, h => by rw [show _ = [] from h]; rfl
  | d :: ds, _, ⟨v, r, h1, h2, h3⟩ => by rw [h1, List.length_cons, List.length_cons, Rs.len h3]
theorem Rs.snoc : ∀ {ds : List D} {vs : List V} {d : D} {v : V}, Rs K U ds vs → R K U d v → Rs K U (ds ++ [d]) (vs ++ [v])
  | [], _, d, v, h, k => by
    rw [show _ = [] from h]
    exact ⟨v, [], rfl, k, rfl⟩
  | e :: ds, _, d, v, ⟨w, r, h1, h2, h3⟩, k => by
    subst h1
    exact ⟨w, r ++ [v], rfl, h2, Rs.snoc h3 k⟩
theorem Rs.app : ∀ {ds es : List D} {vs ws : List V}, Rs K U ds vs → Rs K U es ws → Rs K U (ds ++ es) (vs ++ ws)
  | [], es, _, ws, h, k => by
    rw [show _ = [] from h]
    exact k
  | d :: ds, es, _, ws, ⟨v, r, h1, h2, h3⟩, k => by
    subst h1
    exact ⟨v, r ++ ws, rfl, h2, Rs.app h3 k⟩
theorem Rs.at : ∀ {ds : List D} {vs : List V}, Rs K U ds vs → ∀ (i : Nat) (d : D), ds[i]? = some d → ∃ v, vs[i]? = some v ∧ R K U d v
  | [], _, h, i, d, e => by simp at e
  | c :: ds, _, ⟨v, r, h1, h2, h3⟩, 0, d, e => by
    subst h1
    have e' := Option.some.inj e
    subst e'
    exact ⟨v, rfl, h2⟩
  | c :: ds, _, ⟨v, r, h1, h2, h3⟩, i + 1, d, e => by
    subst h1
    exact Rs.at h3 i d e
theorem Rs.at' : ∀ {ds : List D} {vs : List V}, Rs K U ds vs → ∀ (i : Nat) (v : V), vs[i]? = some v → ∃ d, ds[i]? = some d ∧ R K U d v
  | [], _, h, i, d, e => by rw [show _ = [] from h] at e; simp at e
  | c :: ds, _, ⟨v, r, h1, h2, h3⟩, 0, d, e => by
    subst h1
    have e' := Option.some.inj e
    subst e'
    exact ⟨c, rfl, h2⟩
  | c :: ds, _, ⟨v, r, h1, h2, h3⟩, i + 1, d, e => by
    subst h1
    exact Rs.at' h3 i d e
theorem Rs.take : ∀ {ds : List D} {vs : List V} (n : Nat), Rs K U ds vs → Rs K U (ds.take n) (vs.take n)
  | _, _, 0, _ => rfl
  | [], _, n + 1, h => by rw [show _ = [] from h]; rfl
  | c :: ds, _, n + 1, ⟨v, r, h1, h2, h3⟩ => by
    subst h1
    exact ⟨v, r.take n, rfl, h2, Rs.take n h3⟩
theorem Rs.drop : ∀ {ds : List D} {vs : List V} (n : Nat), Rs K U ds vs → Rs K U (ds.drop n) (vs.drop n)
  | _, _, 0, h => h
  | [], _, n + 1, h => by rw [show _ = [] from h]; rfl
  | c :: ds, _, n + 1, ⟨v, r, h1, h2, h3⟩ => by
    subst h1
    exact Rs.drop n h3
theorem Rs.set : ∀ {ds : List D} {vs : List V} {d : D} {v : V} (n : Nat), Rs K U ds vs → R K U d v → Rs K U (ds.set n d) (vs.set n v)
  | [], _, d, v, n, h, k => by rw [show _ = [] from h]; rfl
  | c :: ds, _, d, v, 0, ⟨w, r, h1, h2, h3⟩, k => by
    subst h1
    exact ⟨v, r, rfl, k, h3⟩
  | c :: ds, _, d, v, n + 1, ⟨w, r, h1, h2, h3⟩, k => by
    subst h1
    exact ⟨w, r.set n v, rfl, h2, Rs.set n h3 k⟩
theorem Rs.ints : ∀ {ns : List Int} {vs : List V}, Rs K U (ns.map D.int) vs → vs = ns.map V.int
  | [], _, h => h
  | n :: ns, _, ⟨v, r, h1, h2, h3⟩ => by
    rw [h1, Rs.ints h3, show v = V.int n from h2]
    rfl
theorem Rs.strs : ∀ {ns : List Str} {vs : List V}, Rs K U (ns.map D.str) vs → vs = ns.map V.str
  | [], _, h => h
  | n :: ns, _, ⟨v, r, h1, h2, h3⟩ => by
    rw [h1, Rs.strs h3, show v = V.str n from h2]
    rfl
theorem Rs.bls : ∀ {ns : List Bool} {vs : List V}, Rs K U (ns.map D.bl) vs → vs = ns.map V.bl
  | [], _, h => h
  | n :: ns, _, ⟨v, r, h1, h2, h3⟩ => by
    rw [h1, Rs.bls h3, show v = V.bl n from h2]
    rfl
end
/-! ### slots: what never changes, what is one's own, the law's draws -/
inductive AV where
  | fz (d : D) | ol (ds : List D) | ok (ks : List Key) (ds : List D) | ot (ks : List (List Key)) (ds : List D) | dr
abbrev Env := List (Option AV)
def AV.frz : AV → Option D
  | .fz d => some d
  | .ol ds => some (.lst ds)
  | .ok ks ds => some (.dK ks ds)
  | .ot ks ds => some (.dT ks ds)
  | .dr => none
def RepA (K : PySem.W.Frag) (U H : Hp) : AV → V → Prop
  | .fz d, v => R K U d v
  | .ol ds, v => ∃ p xs, v = .ref p ∧ H p = some (.lst xs) ∧ Rs K U ds xs
  | .ok ks ds, v => ∃ p xs, v = .ref p ∧ H p = some (.dK (ks.zip xs)) ∧ ks.length = xs.length ∧ Rs K U ds xs
  | .ot ks ds, v => ∃ p xs, v = .ref p ∧ H p = some (.dT (ks.zip xs)) ∧ ks.length = xs.length ∧ Rs K U ds xs
  | .dr, v => ∃ s, v = .ref s ∧ Dr U H s
def own : AV → V → List Addr
  | .fz _, _ => []
  | _, .ref p => [p]
  | _, _ => []
def RepS (K : PySem.W.Frag) (U H : Hp) : Option AV → Option V → Prop
  | none, _ => True
  | some av, some v => RepA K U H av v
  | some _, none => False
def ownS : Option AV → Option V → List Addr
  | some av, some v => own av v
  | _, _ => []
def owns : Env → L2.St → List Addr
  | a :: ρ, v :: σ => ownS a v ++ owns ρ σ
  | _, _ => []
structure Exn where
  C : Addr
  ns : List Str
  ds : List D
def XRep (K : PySem.W.Frag) (U H : Hp) (x : Exn) (cls : Value) (o : Option Addr) : Prop :=
  cls = .ref x.C ∧ ((x.ns = [] ∧ x.ds = [] ∧ o = none) ∨ ∃ d xs, o = some d ∧ H d = some (.xd (x.ns.zip xs)) ∧ x.ns.length = xs.length ∧ Rs K U x.ds xs ∧ x.ns ≠ [])
structure DC where
  K : PySem.W.Frag
  /-- the parameters that hold the law's draws, and their places -/
  pi : List Nat
  M : List Addr
  U0 : Hp
  H0 : Hp
  X : Exn → Prop
  E : XK
def DC.Ok (c : DC) : Prop := ∀ U H x cls o, Gr c.M c.U0 c.H0 U H → (∀ p ∈ c.M, Dr U H p) → XRep c.K U H x cls o → c.X x → c.E cls o H
def noPar (c : DC) (i : Nat) : Bool := !(c.pi.contains i)
theorem noPar_of {c : DC} {i : Nat} (h : noPar c i = true) : ∀ x ∈ c.pi, x ≠ i := fun x hx z => by
  unfold noPar at h
  rw [Bool.not_eq_true', z.symm] at h
  exact absurd (List.contains_iff_mem.mpr hx) (by rw [h]; exact Bool.false_ne_true)
abbrev ParOk (ρ : Env) (σ : L2.St) (i : Nat) (p : Addr) : Prop := ρ[i]? = some (some .dr) ∧ σ[i]? = some (some (.ref p))
theorem par_set {ρ ρ' : Env} {σ σ' : L2.St} : ∀ {is : List Nat} {ps : List Addr}, (∀ x ∈ is, ρ'[x]? = ρ[x]? ∧ σ'[x]? = σ[x]?) → Paired (ParOk ρ σ) is ps → Paired (ParOk ρ' σ') is ps
  | _, _, _, .nil => .nil
  | i :: is, p :: ps, h, .cons k t => .cons (by rw [ParOk, (h i List.mem_cons_self).1, (h i List.mem_cons_self).2]; exact k) (par_set (fun x hx => h x (List.mem_cons_of_mem _ hx)) t)
structure DI (c : DC) (U H : Hp) (σ : L2.St) (ρ : Env) : Prop where
  gr : Gr c.M c.U0 c.H0 U H
  rep : Paired (RepS c.K U H) ρ σ
  nd : (owns ρ σ).Nodup
  out : ∀ p ∈ owns ρ σ, U p = none ∧ (p ∈ c.M ∨ c.H0 p = none)
  par : Paired (ParOk ρ σ) c.pi c.M
  ko : c.Ok
  nw : ∀ (i : Nat) (av : AV) (v : V), noPar c i = true → ρ[i]? = some (some av) → σ[i]? = some (some v) → ∀ p ∈ own av v, c.H0 p = none
section
variable {K : PySem.W.Frag} {c : DC} {U H U' H' : Hp} {σ : L2.St} {ρ : Env}
theorem Gr.same {M : List Addr} {U0 H0 U1 H1 : Hp} (g : Gr M U0 H0 U1 H1) : Same U1 H1 := g.vh
theorem DI.vh (h : DI c U H σ ρ) : Same U H := h.gr.vh
theorem own_some {av : AV} {v : V} (h : RepA K U H av v) : ∀ p ∈ own av v, H p ≠ none := by
  intro p hp
  cases av with
  | fz d => cases hp
  | ol ds =>
    obtain ⟨q, xs, rfl, e, _⟩ := h
    rw [List.mem_singleton.mp hp, e]
    intro z
    cases z
  | ok ks ds =>
    obtain ⟨q, xs, rfl, e, _⟩ := h
    rw [List.mem_singleton.mp hp, e]
    intro z
    cases z
  | ot ks ds =>
    obtain ⟨q, xs, rfl, e, _⟩ := h
    rw [List.mem_singleton.mp hp, e]
    intro z
    cases z
  | dr =>
    obtain ⟨s, rfl, e⟩ := h
    rw [List.mem_singleton.mp hp]
    exact e.some
theorem owns_some : ∀ {ρ : Env} {σ : L2.St}, Paired (RepS K U H) ρ σ → ∀ p ∈ owns ρ σ, H p ≠ none
  | _, _, .nil, p, hp => by cases hp
  | _, _, .cons (a := a) (b := b) h t, p, hp => by
    rcases List.mem_append.mp hp with hp | hp
    · cases a with
      | none => cases hp
      | some av =>
        cases b with
        | none => cases hp
        | some v => exact own_some h p hp
    · exact owns_some t p hp
theorem DI.ex (h : DI c U H σ ρ) : ∀ p ∈ owns ρ σ, H p ≠ none := owns_some h.rep
theorem DI.ne (h : DI c U H σ ρ) {q : Addr} (n : H q = none) : ∀ p ∈ owns ρ σ, p ≠ q := fun p hp z => by
  subst z
  exact h.ex p hp n
/-- what never changes and what is one's own stands on, where nothing that stood was changed -/
theorem RepA.gr {av : AV} {v : V} (g : Gr [] U H U' H') (h : RepA K U H av v) : RepA K U' H' av v := by
  cases av with
  | fz d => exact R.mono g.vv d v h
  | ol ds =>
    obtain ⟨q, xs, rfl, e, e2⟩ := h
    exact ⟨q, xs, rfl, g.hh _ _ (by simp) e, Rs.mono g.vv _ _ e2⟩
  | ok ks ds =>
    obtain ⟨q, xs, rfl, e, e2, e3⟩ := h
    exact ⟨q, xs, rfl, g.hh _ _ (by simp) e, e2, Rs.mono g.vv _ _ e3⟩
  | ot ks ds =>
    obtain ⟨q, xs, rfl, e, e2, e3⟩ := h
    exact ⟨q, xs, rfl, g.hh _ _ (by simp) e, e2, Rs.mono g.vv _ _ e3⟩
  | dr =>
    obtain ⟨s, rfl, e⟩ := h
    exact ⟨s, rfl, e.gr g (by simp)⟩
theorem RepS.gr {a : Option AV} {v : Option V} (g : Gr [] U H U' H') (h : RepS K U H a v) : RepS K U' H' a v := by
  cases a with
  | none => trivial
  | some av =>
    cases v with
    | none => exact h
    | some v => exact RepA.gr g h
theorem DI.grow (h : DI c U H σ ρ) (g : Gr [] U H U' H') : DI c U' H' σ ρ :=
  ⟨h.gr.trans g.any, Paired.imp (fun _ _ z => RepS.gr g z) h.rep, h.nd, fun p hp => ⟨g.fr p (h.out p hp).1 (h.ex p hp), (h.out p hp).2⟩, h.par, h.ko, h.nw⟩
/-! places of the slots -/
theorem rep_at : ∀ {ρ : Env} {σ : L2.St}, Paired (RepS K U H) ρ σ → ∀ (i : Nat) (av : AV), ρ[i]? = some (some av) → ∃ v, σ[i]? = some (some v) ∧ RepA K U H av v ∧ ∀ p ∈ own av v, p ∈ owns ρ σ
  | _, _, .nil, i, av, e => by simp at e
  | _, _, .cons (a := a) (b := b) h t, 0, av, e => by
    have e' := Option.some.inj e
    subst e'
    cases b with
    | none => exact h.elim
    | some v => exact ⟨v, rfl, h, fun p hp => List.mem_append_left _ hp⟩
  | _, _, .cons (a := a) (b := b) h t, i + 1, av, e => by
    obtain ⟨v, h1, h2, h3⟩ := rep_at t i av e
    exact ⟨v, h1, h2, fun p hp => List.mem_append_right _ (h3 p hp)⟩
theorem owns_set_sub : ∀ (ρ : Env) (σ : L2.St) (i : Nat) (a : Option AV) (v : Option V), ownS a v = [] → (owns (ρ.set i a) (σ.set i v)).Sublist (owns ρ σ)
  | [], _, _, _, _, _ => by simp [owns]
  | _ :: _, [], i, a, v, _ => by cases i <;> simp [owns]
  | b :: ρ, w :: σ, 0, a, v, h => by
    show (ownS a v ++ owns ρ σ).Sublist (ownS b w ++ owns ρ σ)
    rw [h]
    exact List.sublist_append_right _ _
  | b :: ρ, w :: σ, i + 1, a, v, h => by
    show (ownS b w ++ owns (ρ.set i a) (σ.set i v)).Sublist (ownS b w ++ owns ρ σ)
    exact List.Sublist.append_left (owns_set_sub ρ σ i a v h) _
theorem owns_set_mem : ∀ (ρ : Env) (σ : L2.St) (i : Nat) (a : Option AV) (v : Option V), ∀ p ∈ owns (ρ.set i a) (σ.set i v), p ∈ owns ρ σ ∨ p ∈ ownS a v
  | [], _, _, _, _, p, hp => by simp [owns] at hp
  | _ :: _, [], i, a, v, p, hp => by cases i <;> simp [owns] at hp
  | b :: ρ, w :: σ, 0, a, v, p, hp => by
    rcases List.mem_append.mp hp with h | h
    · exact .inr h
    · exact .inl (List.mem_append_right _ h)
  | b :: ρ, w :: σ, i + 1, a, v, p, hp => by
    rcases List.mem_append.mp hp with h | h
    · exact .inl (List.mem_append_left _ h)
    · exact (owns_set_mem ρ σ i a v p h).imp (List.mem_append_right _) id
theorem owns_set_nd : ∀ (ρ : Env) (σ : L2.St) (i : Nat) (a : Option AV) (v : Option V), (owns ρ σ).Nodup → (ownS a v).Nodup → (∀ p ∈ ownS a v, p ∉ owns ρ σ) → (owns (ρ.set i a) (σ.set i v)).Nodup
  | [], _, _, _, _, _, _, _ => by simp [owns]
  | _ :: _, [], i, a, v, _, _, _ => by cases i <;> simp [owns]
  | b :: ρ, w :: σ, 0, a, v, h, k, n => by
    show (ownS a v ++ owns ρ σ).Nodup
    refine List.nodup_append.mpr ⟨k, (List.nodup_append.mp h).2.1, fun x hx y hy z => ?_⟩
    subst z
    exact n x hx (List.mem_append_right _ hy)
  | b :: ρ, w :: σ, i + 1, a, v, h, k, n => by
    show (ownS b w ++ owns (ρ.set i a) (σ.set i v)).Nodup
    obtain ⟨h1, h2, h3⟩ := List.nodup_append.mp h
    refine List.nodup_append.mpr ⟨h1, owns_set_nd ρ σ i a v h2 k fun p hp q => n p hp (List.mem_append_right _ q), fun x hx y hy z => ?_⟩
    subst z
    rcases owns_set_mem ρ σ i a v x hy with q | q
    · exact h3 x hx x q rfl
    · exact n x q (List.mem_append_left _ hx)
theorem DI.drM (h : DI c U H σ ρ) : ∀ p ∈ c.M, Dr U H p := by
  have go : ∀ {is : List Nat} {ps : List Addr}, Paired (ParOk ρ σ) is ps → ∀ p ∈ ps, Dr U H p := by
    intro is ps k
    induction k with
    | nil => intro p hp; cases hp
    | @cons i q is ps k t ih =>
      intro p hp
      rcases List.mem_cons.mp hp with rfl | hp
      · obtain ⟨w, e1, ⟨s, e2, e3⟩, _⟩ := rep_at h.rep i _ k.1
        rw [k.2] at e1
        have e' := Option.some.inj (Option.some.inj e1)
        rw [← e'] at e2
        rw [V.ref.inj e2]
        exact e3
      · exact ih p hp
  exact go h.par
/-- a slot is written: with what never changes -/
theorem DI.setF (h : DI c U H σ ρ) {i : Nat} {d : D} {v : V} (r : R c.K U d v) (hi : ∀ x ∈ c.pi, x ≠ i) : DI c U H (σ.set i (some v)) (ρ.set i (some (.fz d))) := by
  refine ⟨h.gr, Paired.setAt (F := RepS c.K U H) (show RepS c.K U H (some (.fz d)) (some v) from r) i h.rep, (owns_set_sub ρ σ i _ _ rfl).nodup h.nd, fun p hp => h.out p ((owns_set_sub ρ σ i _ _ rfl).mem hp), par_set (fun x hx => ?_) h.par, h.ko, fun k av w hk e1 e2 p hp => ?_⟩
  · exact ⟨List.getElem?_set_ne (hi x hx).symm, List.getElem?_set_ne (hi x hx).symm⟩
  · by_cases z : i = k
    · subst z
      rw [List.getElem?_set] at e1
      simp at e1
      rw [← e1.2] at hp
      cases hp
    · rw [List.getElem?_set_ne z] at e1 e2
      exact h.nw k av w hk e1 e2 p hp
/-- with a new thing of one's own -/
theorem DI.setO (h : DI c U H σ ρ) {i : Nat} {av : AV} {v : V} (r : RepA c.K U H av v) (n : ∀ p ∈ own av v, U p = none ∧ c.H0 p = none ∧ p ∉ owns ρ σ) (hi : ∀ x ∈ c.pi, x ≠ i) : DI c U H (σ.set i (some v)) (ρ.set i (some av)) := by
  have ndo : (own av v).Nodup := by
    unfold own
    split <;> simp
  refine ⟨h.gr, Paired.setAt (F := RepS c.K U H) (show RepS c.K U H (some av) (some v) from r) i h.rep, owns_set_nd ρ σ i (some av) (some v) h.nd ndo fun p hp => (n p hp).2.2, fun p hp => ?_, par_set (fun x hx => ?_) h.par, h.ko, fun k av' w hk e1 e2 p hp => ?_⟩
  · rcases owns_set_mem ρ σ i (some av) (some v) p hp with q | q
    · exact h.out p q
    · exact ⟨(n p q).1, .inr (n p q).2.1⟩
  · exact ⟨List.getElem?_set_ne (hi x hx).symm, List.getElem?_set_ne (hi x hx).symm⟩
  · by_cases z : i = k
    · subst z
      rw [List.getElem?_set] at e1 e2
      simp at e1 e2
      rw [← e1.2, ← e2.2] at hp
      exact (n p hp).2.1
    · rw [List.getElem?_set_ne z] at e1 e2
      exact h.nw k av' w hk e1 e2 p hp
end
/-! ### readings without addresses -/
abbrev AE := Env → (D → Prop) → (Exn → Prop) → Prop
abbrev AO := Env → (AV → Prop) → (Exn → Prop) → Prop
abbrev AT := Env → (Bool → Prop) → (Exn → Prop) → Prop
abbrev AL := Env → (List D → Prop) → (Exn → Prop) → Prop
inductive Arg where
  | val (d : D) | slot (i : Nat)
abbrev AA := Env → (List Arg → Prop) → (Exn → Prop) → Prop
structure AEnds where
  nx : Env → Prop
  rt : AV → Env → Prop
  bk : Env → Prop
  ct : Env → Prop
  ex : Exn → Prop
abbrev AS := AEnds → Env → Prop
def drS : Option AV → Option V → List Addr
  | some .dr, some (.ref p) => [p]
  | _, _ => []
def drs : Env → L2.St → List Addr
  | a :: ρ, v :: σ => drS a v ++ drs ρ σ
  | _, _ => []
theorem drs_sub : ∀ {ρ : Env} {σ : L2.St}, ∀ p ∈ drs ρ σ, p ∈ owns ρ σ
  | [], _, p, hp => by simp [drs] at hp
  | _ :: _, [], p, hp => by simp [drs] at hp
  | a :: ρ, v :: σ, p, hp => by
    rcases List.mem_append.mp hp with h | h
    · refine List.mem_append_left _ ?_
      unfold drS at h
      split at h
      · exact h
      · cases h
    · exact List.mem_append_right _ (drs_sub p h)
/-- a slot's thing that stands now, or what never changes -/
def Wk (K : PySem.W.Frag) (U : Hp) (σ : L2.St) (ρ : Env) (d : D) (v : V) : Prop := R K U d v ∨ ∃ (i : Nat) (av : AV), ρ[i]? = some (some av) ∧ σ[i]? = some (some v) ∧ av.frz = some d
def CR (K : PySem.W.Frag) (U H : Hp) (d : D) (v : V) : Prop := ∃ av : AV, RepA K U H av v ∧ av.frz = some d
section
variable {K : PySem.W.Frag} {c : DC} {U H U' H' : Hp} {σ : L2.St} {ρ : Env} {d : D} {v : V}
theorem CR.of (h : R K U d v) : CR K U H d v := ⟨.fz d, h, rfl⟩
theorem Wk.cr (h : Wk c.K U σ ρ d v) (i : DI c U H σ ρ) : CR c.K U H d v := by
  rcases h with h | ⟨k, av, h1, h2, h3⟩
  · exact .of h
  · obtain ⟨w, e1, e2, _⟩ := rep_at i.rep k av h1
    rw [h2] at e1
    have e := Option.some.inj (Option.some.inj e1)
    subst e
    exact ⟨av, e2, h3⟩
theorem Wk.mono (e : Same U U') (h : Wk K U σ ρ d v) : Wk K U' σ ρ d v := h.imp (R.mono e d v) id
theorem CR.int {i : Int} (h : CR K U H (.int i) v) : v = .int i := by
  obtain ⟨av, h1, h2⟩ := h
  cases av <;> first | (cases h2; exact h1) | cases h2
theorem CR.bl {b : Bool} (h : CR K U H (.bl b) v) : v = .bl b := by
  obtain ⟨av, h1, h2⟩ := h
  cases av <;> first | (cases h2; exact h1) | cases h2
theorem CR.str {x : Str} (h : CR K U H (.str x) v) : v = .str x := by
  obtain ⟨av, h1, h2⟩ := h
  cases av <;> first | (cases h2; exact h1) | cases h2
theorem CR.non (h : CR K U H .non v) : v = .non := by
  obtain ⟨av, h1, h2⟩ := h
  cases av <;> first | (cases h2; exact h1) | cases h2
theorem CR.ty {n : String} (h : CR K U H (.ty n) v) : v = .ty n := by
  obtain ⟨av, h1, h2⟩ := h
  cases av <;> first | (cases h2; exact h1) | cases h2
theorem CR.tup {ds : List D} (h : CR K U H (.tup ds) v) (s : Same U H) : ∃ a xs, v = .ref a ∧ SqT K H a xs ∧ Rs K U ds xs := by
  obtain ⟨av, h1, h2⟩ := h
  cases av <;> cases h2
  obtain ⟨a, xs, e1, e2, e3⟩ := h1
  exact ⟨a, xs, e1, Same.tup s e2, e3⟩
theorem CR.lst {ds : List D} (h : CR K U H (.lst ds) v) (s : Same U H) : ∃ a xs, v = .ref a ∧ H a = some (.lst xs) ∧ Rs K U ds xs := by
  obtain ⟨av, h1, h2⟩ := h
  cases av <;> cases h2
  · obtain ⟨a, xs, e1, e2, e3⟩ := h1
    exact ⟨a, xs, e1, s _ _ e2, e3⟩
  · obtain ⟨a, xs, e1, e2, e3⟩ := h1
    exact ⟨a, xs, e1, e2, e3⟩
theorem CR.dK {ks : List Key} {ds : List D} (h : CR K U H (.dK ks ds) v) (s : Same U H) : ∃ a xs, v = .ref a ∧ H a = some (.dK (ks.zip xs)) ∧ ks.length = xs.length ∧ Rs K U ds xs := by
  obtain ⟨av, h1, h2⟩ := h
  cases av <;> cases h2
  · obtain ⟨a, xs, e1, e2, e3⟩ := h1
    exact ⟨a, xs, e1, s _ _ e2, e3⟩
  · obtain ⟨a, xs, e1, e2, e3⟩ := h1
    exact ⟨a, xs, e1, e2, e3⟩
theorem CR.dT {ks : List (List Key)} {ds : List D} (h : CR K U H (.dT ks ds) v) (s : Same U H) : ∃ a xs, v = .ref a ∧ H a = some (.dT (ks.zip xs)) ∧ ks.length = xs.length ∧ Rs K U ds xs := by
  obtain ⟨av, h1, h2⟩ := h
  cases av <;> cases h2
  · obtain ⟨a, xs, e1, e2, e3⟩ := h1
    exact ⟨a, xs, e1, s _ _ e2, e3⟩
  · obtain ⟨a, xs, e1, e2, e3⟩ := h1
    exact ⟨a, xs, e1, e2, e3⟩
theorem CR.obj {C : Addr} {ns : List Str} {ds : List D} (h : CR K U H (.obj C ns ds) v) (s : Same U H) : ∃ a dx xs, v = .ref a ∧ H a = some (.ins C dx (ns.zip xs)) ∧ ns.length = xs.length ∧ Rs K U ds xs := by
  obtain ⟨av, h1, h2⟩ := h
  cases av <;> cases h2
  obtain ⟨a, dx, xs, e1, e2, e3⟩ := h1
  exact ⟨a, dx, xs, e1, s _ _ e2, e3⟩
end
/-! ### judgements -/
def SimE (c : DC) (t : TE) (e : AE) : Prop := ∀ (U H : Hp) (σ : L2.St) (ρ : Env) (Q : D → Prop) (q : VK), DI c U H σ ρ → e ρ Q c.X →
  (∀ U' H' d v, Gr (drs ρ σ) U H U' H' → DI c U' H' σ ρ → R c.K U' d v → Q d → q v H') → t σ H q
def SimW (c : DC) (t : TE) (e : AE) : Prop := ∀ (U H : Hp) (σ : L2.St) (ρ : Env) (Q : D → Prop) (q : VK), DI c U H σ ρ → e ρ Q c.X →
  (∀ U' H' d v, Gr (drs ρ σ) U H U' H' → DI c U' H' σ ρ → Wk c.K U' σ ρ d v → Q d → q v H') → t σ H q
def SimO (c : DC) (t : TE) (e : AO) : Prop := ∀ (U H : Hp) (σ : L2.St) (ρ : Env) (Q : AV → Prop) (q : VK), DI c U H σ ρ → e ρ Q c.X →
  (∀ U' H' av v, Gr (drs ρ σ) U H U' H' → DI c U' H' σ ρ → RepA c.K U' H' av v → (∀ p ∈ own av v, U' p = none ∧ H p = none) → Q av → q v H') → t σ H q
def SimT (c : DC) (t : TT) (e : AT) : Prop := ∀ (U H : Hp) (σ : L2.St) (ρ : Env) (Q : Bool → Prop) (q : Bool → Hp → Prop), DI c U H σ ρ → e ρ Q c.X →
  (∀ U' H' b, Gr (drs ρ σ) U H U' H' → DI c U' H' σ ρ → Q b → q b H') → t σ H q
def SimL (c : DC) (t : TA) (e : AL) : Prop := ∀ (U H : Hp) (σ : L2.St) (ρ : Env) (Q : List D → Prop) (q : List V → Hp → Prop), DI c U H σ ρ → e ρ Q c.X →
  (∀ U' H' ds vs, Gr (drs ρ σ) U H U' H' → DI c U' H' σ ρ → Rs c.K U' ds vs → Q ds → q vs H') → t σ H q
/-- arguments that are read alone -/
def SimLW (c : DC) (t : TA) (e : AL) : Prop := ∀ (U H : Hp) (σ : L2.St) (ρ : Env) (Q : List D → Prop) (q : List V → Hp → Prop), DI c U H σ ρ → e ρ Q c.X →
  (∀ U' H' ds vs, Gr (drs ρ σ) U H U' H' → DI c U' H' σ ρ → Paired (Wk c.K U' σ ρ) ds vs → Q ds → q vs H') → t σ H q
def ArgR (K : PySem.W.Frag) (U : Hp) (σ : L2.St) : Arg → V → Prop
  | .val d, v => R K U d v
  | .slot i, v => σ[i]? = some (some v)
def SimA (c : DC) (t : TA) (e : AA) : Prop := ∀ (U H : Hp) (σ : L2.St) (ρ : Env) (Q : List Arg → Prop) (q : List V → Hp → Prop), DI c U H σ ρ → e ρ Q c.X →
  (∀ U' H' as vs, Gr (drs ρ σ) U H U' H' → DI c U' H' σ ρ → Paired (ArgR c.K U' σ) as vs → Q as → q vs H') → t σ H q
structure Post (c : DC) (V : Hp) (N : AEnds) (n : L2.Ends) : Prop where
  nx : ∀ U H σ ρ, Same V U → DI c U H σ ρ → N.nx ρ → n.nx σ H
  rt : ∀ U H σ ρ av v, DI c U H σ ρ → RepA c.K U H av v → (∀ p ∈ own av v, U p = none ∧ c.H0 p = none ∧ p ∉ owns ρ σ) → N.rt av ρ → n.rt v H
  bk : ∀ U H σ ρ, Same V U → DI c U H σ ρ → N.bk ρ → n.bk σ H
  ct : ∀ U H σ ρ, Same V U → DI c U H σ ρ → N.ct ρ → n.ct σ H
theorem Post.mono {c : DC} {V V' : Hp} {N : AEnds} {n : L2.Ends} (s : Same V V') (P : Post c V N n) : Post c V' N n :=
  ⟨fun U H σ ρ e => P.nx U H σ ρ (s.trans e), P.rt, fun U H σ ρ e => P.bk U H σ ρ (s.trans e), fun U H σ ρ e => P.ct U H σ ρ (s.trans e)⟩
def SimS (c : DC) (t : TS) (a : AS) : Prop := ∀ (U H : Hp) (σ : L2.St) (ρ : Env) (N : AEnds) (n : L2.Ends), N.ex = c.X → DI c U H σ ρ → a N ρ → Post c U N n → t n σ H
/-- a target: slots are written, the heap stays -/
abbrev AG := D → Env → (Env → Prop) → Prop
structure Put (js : List Nat) (σ σ' : L2.St) (ρ ρ' : Env) : Prop where
  len : σ'.length = σ.length
  at' : ∀ k, k ∉ js → σ'[k]? = σ[k]?
  dr : ∀ p ∈ drs ρ' σ', p ∈ drs ρ σ
def SimG (c : DC) (js : List Nat) (g : TG) (a : AG) : Prop := ∀ (U H : Hp) (σ : L2.St) (ρ : Env) (d : D) (v : V) (Q : Env → Prop) (q : L2.St → Hp → Prop), DI c U H σ ρ → R c.K U d v → a d ρ Q →
  (∀ σ' ρ', DI c U H σ' ρ' → Put js σ σ' ρ ρ' → Q ρ' → q σ' H) → g v σ H q
/-- what is walked: the items -/
def Walks (K : PySem.W.Frag) (U : Hp) (J : It) (ds : List D) (G : Hp → Prop) : Prop := ∃ Y, Walk J ds.length G Y ∧ ∀ (i : Nat) (H : Hp) (x : V) (H' : Hp) (d : D) (U2 : Hp), Same U U2 → Same U2 H → Y i H x H' → ds[i]? = some d → ∃ U3, Gr [] U2 H U3 H' ∧ R K U3 d x
def SimI (c : DC) (wi : TI) (a : AL) : Prop := ∀ (U H : Hp) (σ : L2.St) (ρ : Env) (Q : List D → Prop) (q : It → Hp → Prop), DI c U H σ ρ → a ρ Q c.X →
  (∀ U' H' J ds, Gr (drs ρ σ) U H U' H' → DI c U' H' σ ρ → Walks c.K U' J ds (fun H'' => Same U' H'') → Q ds → q J H') → wi σ H q
def SimIW (c : DC) (wi : TI) (a : AL) : Prop := ∀ (U H : Hp) (σ : L2.St) (ρ : Env) (Q : List D → Prop) (q : It → Hp → Prop), DI c U H σ ρ → a ρ Q c.X →
  (∀ U' H' J ds, Gr (drs ρ σ) U H U' H' → DI c U' H' σ ρ → Walks c.K U' J ds (fun H'' => ∃ U'', Gr (drs ρ σ) U' H' U'' H'') → Q ds → q J H') → wi σ H q
end SW

namespace SW
open PySem PySem.Spec PyProof.Rows L2
section
variable {c : DC} {U H U' H' : Hp} {σ : L2.St} {ρ : Env} {t u ta tb tc : TE} {e a b : AE} {i j : Nat} {d : D} {v : V}
/-! ### values -/
theorem SimE.w (h : SimE c t e) : SimW c t e := fun U H σ ρ Q q I he k => h U H σ ρ Q q I he fun U' H' d v g I' r z => k U' H' d v g I' (.inl r) z
def aVar (i : Nat) : AE := fun ρ Q _ => match ρ[i]? with
  | some (some (.fz d)) => Q d
  | _ => False
theorem sim_var : SimE c (tVar i) (aVar i) := fun U H σ ρ Q q I h k => by
  unfold aVar at h
  split at h
  · rename_i d e
    obtain ⟨v, e1, r, _⟩ := rep_at I.rep i _ e
    exact ⟨v, e1, k U H d v (Gr.refl I.vh) I r h⟩
  · exact h.elim
def aVarW (i : Nat) : AE := fun ρ Q _ => match ρ[i]? with
  | some (some (.fz d)) => Q d
  | some (some (.ol ds)) => Q (.lst ds)
  | some (some (.ok ks ds)) => Q (.dK ks ds)
  | some (some (.ot ks ds)) => Q (.dT ks ds)
  | _ => False
theorem sim_varW : SimW c (tVar i) (aVarW i) := fun U H σ ρ Q q I h k => by
  have go : ∀ (av : AV) (d : D), ρ[i]? = some (some av) → av.frz = some d → Q d → tVar i σ H q := fun av d e f z => by
    obtain ⟨v, e1, r, _⟩ := rep_at I.rep i _ e
    exact ⟨v, e1, k U H d v (Gr.refl I.vh) I (.inr ⟨i, av, e, e1, f⟩) z⟩
  unfold aVarW at h
  split at h
  · exact go _ _ (by assumption) rfl h
  · exact go _ _ (by assumption) rfl h
  · exact go _ _ (by assumption) rfl h
  · exact go _ _ (by assumption) rfl h
  · exact h.elim
def aC (d : D) : AE := fun _ Q _ => Q d
theorem sim_c (h : ∀ U, R c.K U d v) : SimE c (tC v) (aC d) := fun U H σ ρ Q q I z k => k U H d v (Gr.refl I.vh) I (h U) z
theorem sim_int {n : Int} : SimE c (tC (.int n)) (aC (.int n)) := sim_c fun _ => rfl
theorem sim_bl {n : Bool} : SimE c (tC (.bl n)) (aC (.bl n)) := sim_c fun _ => rfl
theorem sim_str {n : Str} : SimE c (tC (.str n)) (aC (.str n)) := sim_c fun _ => rfl
theorem sim_non : SimE c (tC .non) (aC .non) := sim_c fun _ => rfl
theorem sim_ty {n : String} : SimE c (tC (.ty n)) (aC (.ty n)) := sim_c fun _ => rfl
/-- an operator on what is read -/
def OpD (K : PySem.W.Frag) (r : R2) (f : D → D → (D → Prop) → Prop) : Prop := ∀ (U H : Hp) (v w : V) (d e : D) (Q : D → Prop) (q : VK), Same U H → CR K U H d v → CR K U H e w → f d e Q →
  (∀ U' H' z u, Gr [] U H U' H' → R K U' z u → Q z → q u H') → r v w H q
def UnD (K : PySem.W.Frag) (r : V → Hp → VK → Prop) (f : D → (D → Prop) → Prop) : Prop := ∀ (U H : Hp) (v : V) (d : D) (Q : D → Prop) (q : VK), Same U H → CR K U H d v → f d Q →
  (∀ U' H' z u, Gr [] U H U' H' → R K U' z u → Q z → q u H') → r v H q
def BuD (K : PySem.W.Frag) (r : List V → Hp → VK → Prop) (f : List D → (D → Prop) → Prop) : Prop := ∀ (U H : Hp) (vs : List V) (ds : List D) (Q : D → Prop) (q : VK), Same U H → Paired (CR K U H) ds vs → f ds Q →
  (∀ U' H' z u, Gr [] U H U' H' → R K U' z u → Q z → q u H') → r vs H q
/-- the same with a new thing of one's own -/
def OpO (K : PySem.W.Frag) (r : R2) (f : D → D → (AV → Prop) → Prop) : Prop := ∀ (U H : Hp) (v w : V) (d e : D) (Q : AV → Prop) (q : VK), Same U H → CR K U H d v → CR K U H e w → f d e Q →
  (∀ U' H' av u, Gr [] U H U' H' → RepA K U' H' av u → (∀ p ∈ own av u, U' p = none ∧ H p = none) → Q av → q u H') → r v w H q
def BuO (K : PySem.W.Frag) (r : List V → Hp → VK → Prop) (f : List D → (AV → Prop) → Prop) : Prop := ∀ (U H : Hp) (vs : List V) (ds : List D) (Q : AV → Prop) (q : VK), Same U H → Paired (CR K U H) ds vs → f ds Q →
  (∀ U' H' av u, Gr [] U H U' H' → RepA K U' H' av u → (∀ p ∈ own av u, U' p = none ∧ H p = none) → Q av → q u H') → r vs H q
def aOp (f : D → D → (D → Prop) → Prop) (a b : AE) : AE := fun ρ Q X => a ρ (fun d => b ρ (fun e => f d e Q) X) X
def aOpO (f : D → D → (AV → Prop) → Prop) (a b : AE) : AO := fun ρ Q X => a ρ (fun d => b ρ (fun e => f d e Q) X) X
def aUn (f : D → (D → Prop) → Prop) (a : AE) : AE := fun ρ Q X => a ρ (fun d => f d Q) X
theorem Gr.nil_dr {U0 H0 : Hp} (h : Gr [] U H U' H') : Gr (drs ρ σ) U H U' H' := h.any
theorem sim_op {r : R2} {f : D → D → (D → Prop) → Prop} (h : OpD c.K r f) (ha : SimW c ta a) (hb : SimW c tb b) : SimE c (tOp r ta tb) (aOp f a b) := fun U H σ ρ Q q I z k =>
  ha U H σ ρ _ _ I z fun U1 H1 d v g1 I1 w1 z1 => hb U1 H1 σ ρ _ _ I1 z1 fun U2 H2 e w g2 I2 w2 z2 =>
    h U2 H2 v w d e Q q I2.vh ((w1.mono g2.vv).cr I2) (w2.cr I2) z2 fun U3 H3 y u' g3 r3 z3 => k U3 H3 y u' ((g1.trans g2).trans g3.any) (I2.grow g3) r3 z3
theorem sim_opO {r : R2} {f : D → D → (AV → Prop) → Prop} (h : OpO c.K r f) (ha : SimW c ta a) (hb : SimW c tb b) : SimO c (tOp r ta tb) (aOpO f a b) := fun U H σ ρ Q q I z k =>
  ha U H σ ρ _ _ I z fun U1 H1 d v g1 I1 w1 z1 => hb U1 H1 σ ρ _ _ I1 z1 fun U2 H2 e w g2 I2 w2 z2 =>
    h U2 H2 v w d e Q q I2.vh ((w1.mono g2.vv).cr I2) (w2.cr I2) z2 fun U3 H3 y u' g3 r3 n3 z3 => k U3 H3 y u' ((g1.trans g2).trans g3.any) (I2.grow g3) r3 (fun p hp => ⟨(n3 p hp).1, (g1.trans g2).fresh (n3 p hp).2⟩) z3
theorem sim_un {r : V → Hp → VK → Prop} {f : D → (D → Prop) → Prop} (h : UnD c.K r f) (ha : SimW c ta a) : SimE c (tUn r ta) (aUn f a) := fun U H σ ρ Q q I z k =>
  ha U H σ ρ _ _ I z fun U1 H1 d v g1 I1 w1 z1 => h U1 H1 v d Q q I1.vh (w1.cr I1) z1 fun U3 H3 y u' g3 r3 z3 => k U3 H3 y u' (g1.trans g3.any) (I1.grow g3) r3 z3
/-! ### rows of values -/
def aNil : AL := fun _ Q _ => Q []
def aCons (a : AE) (r : AL) : AL := fun ρ Q X => a ρ (fun d => r ρ (fun ds => Q (d :: ds)) X) X
theorem sim_nil : SimL c tNil aNil := fun U H σ ρ Q q I z k => k U H [] [] (Gr.refl I.vh) I rfl z
theorem sim_cons {tr : TA} {r : AL} (ha : SimE c ta a) (hr : SimL c tr r) : SimL c (tCons ta tr) (aCons a r) := fun U H σ ρ Q q I z k =>
  ha U H σ ρ _ _ I z fun U1 H1 d v g1 I1 r1 z1 => hr U1 H1 σ ρ _ _ I1 z1 fun U2 H2 ds vs g2 I2 r2 z2 => k U2 H2 (d :: ds) (v :: vs) (g1.trans g2) I2 ⟨v, vs, rfl, R.mono g2.vv d v r1, r2⟩ z2
theorem sim_nilW : SimLW c tNil aNil := fun U H σ ρ Q q I z k => k U H [] [] (Gr.refl I.vh) I .nil z
theorem sim_consW {tr : TA} {r : AL} (ha : SimW c ta a) (hr : SimLW c tr r) : SimLW c (tCons ta tr) (aCons a r) := fun U H σ ρ Q q I z k =>
  ha U H σ ρ _ _ I z fun U1 H1 d v g1 I1 r1 z1 => hr U1 H1 σ ρ _ _ I1 z1 fun U2 H2 ds vs g2 I2 r2 z2 => k U2 H2 (d :: ds) (v :: vs) (g1.trans g2) I2 (.cons (r1.mono g2.vv) r2) z2
def aArg (a : AE) (r : AA) : AA := fun ρ Q X => a ρ (fun d => r ρ (fun ds => Q (.val d :: ds)) X) X
def aSlot (i : Nat) (r : AA) : AA := fun ρ Q X => match ρ[i]? with
  | some (some .dr) => r ρ (fun ds => Q (.slot i :: ds)) X
  | _ => False
def aArgs : AA := fun _ Q _ => Q []
theorem sim_args : SimA c tNil aArgs := fun U H σ ρ Q q I z k => k U H [] [] (Gr.refl I.vh) I .nil z
theorem sim_arg {tr : TA} {r : AA} (ha : SimE c ta a) (hr : SimA c tr r) : SimA c (tCons ta tr) (aArg a r) := fun U H σ ρ Q q I z k =>
  ha U H σ ρ _ _ I z fun U1 H1 d v g1 I1 r1 z1 => hr U1 H1 σ ρ _ _ I1 z1 fun U2 H2 ds vs g2 I2 r2 z2 => k U2 H2 (.val d :: ds) (v :: vs) (g1.trans g2) I2 (.cons (R.mono g2.vv d v r1) r2) z2
theorem sim_slot {tr : TA} {r : AA} (hr : SimA c tr r) : SimA c (tCons (tVar i) tr) (aSlot i r) := fun U H σ ρ Q q I z k => by
  unfold aSlot at z
  split at z
  · rename_i e0
    obtain ⟨v, e, _⟩ := rep_at I.rep i _ e0
    exact ⟨v, e, hr U H σ ρ _ _ I z fun U2 H2 ds vs g2 I2 r2 z2 => k U2 H2 (.slot i :: ds) (v :: vs) g2 I2 (.cons e r2) z2⟩
  · exact z.elim
/-! ### what is made: tuples, lists -/
theorem R.tup {K : PySem.W.Frag} {p : Addr} {xs : List V} {ds : List D} (h : U p = some (.tup xs)) (r : Rs K U ds xs) : R K U (.tup ds) (.ref p) := ⟨p, xs, rfl, SqT.of h, r⟩
theorem R.lst {K : PySem.W.Frag} {p : Addr} {xs : List V} {ds : List D} (h : U p = some (.lst xs)) (r : Rs K U ds xs) : R K U (.lst ds) (.ref p) := ⟨p, xs, rfl, h, r⟩
theorem le_size {n : Nat} (h : n ≤ 1000000) : n ≤ sizeLine := Nat.le_trans h (by decide)
theorem lt_size {n : Nat} (h : n < 1000000) : n < sizeLine := Nat.lt_of_lt_of_le h (by decide)
def aTup (r : AL) : AE := fun ρ Q X => r ρ (fun ds => ds.length ≤ 1000000 ∧ Q (.tup ds)) X
theorem sim_tup {tr : TA} {r : AL} (hr : SimL c tr r) : SimE c (tTup tr) (aTup r) := fun U H σ ρ Q q I z k =>
  hr U H σ ρ _ _ I z fun U1 H1 ds vs g1 I1 r1 z1 => ⟨le_size (by rw [← r1.len]; exact z1.1), fun p np => by
    have g2 : Gr [] U1 H1 (upd U1 p (.tup vs)) (upd H1 p (.tup vs)) := (Gr.refl I1.vh).new np
    exact k _ _ (.tup ds) (.ref p) (g1.trans g2.any) (I1.grow g2) (R.tup upd_same (Rs.mono g2.vv _ _ r1)) z1.2⟩
def aLst (r : AL) : AO := fun ρ Q X => r ρ (fun ds => ds.length ≤ 1000000 ∧ Q (.ol ds)) X
theorem sim_lst {tr : TA} {r : AL} (hr : SimL c tr r) : SimO c (tLst tr) (aLst r) := fun U H σ ρ Q q I z k =>
  hr U H σ ρ _ _ I z fun U1 H1 ds vs g1 I1 r1 z1 => ⟨le_size (by rw [← r1.len]; exact z1.1), fun p np => by
    have g2 : Gr [] U1 H1 U1 (upd H1 p (.lst vs)) := (Gr.refl I1.vh).newM np
    refine k _ _ (.ol ds) (.ref p) (g1.trans g2.any) (I1.grow g2) ⟨p, vs, rfl, upd_same, r1⟩ (fun p' hp => ?_) z1.2
    rw [List.mem_singleton.mp hp]
    exact ⟨I1.vh.free np, g1.fresh np⟩⟩
/-! what is one's own becomes what never changes -/
theorem RepA.view {K : PySem.W.Frag} {av : AV} (s : Same U U') (n : ∀ p ∈ own av v, U' p = none) (h : RepA K U H av v) : RepA K U' H av v := by
  cases av with
  | fz d => exact R.mono s d v h
  | ol ds =>
    obtain ⟨q, xs, rfl, e, e2⟩ := h
    exact ⟨q, xs, rfl, e, Rs.mono s _ _ e2⟩
  | ok ks ds =>
    obtain ⟨q, xs, rfl, e, e2, e3⟩ := h
    exact ⟨q, xs, rfl, e, e2, Rs.mono s _ _ e3⟩
  | ot ks ds =>
    obtain ⟨q, xs, rfl, e, e2, e3⟩ := h
    exact ⟨q, xs, rfl, e, e2, Rs.mono s _ _ e3⟩
  | dr =>
    obtain ⟨q, rfl, e⟩ := h
    exact ⟨q, rfl, e.mono s rfl (n q (List.mem_singleton.mpr rfl))⟩
theorem reps_view {K : PySem.W.Frag} (s : Same U U') : ∀ {ρ : Env} {σ : L2.St}, (∀ p ∈ owns ρ σ, U' p = none) → Paired (RepS K U H) ρ σ → Paired (RepS K U' H) ρ σ
  | _, _, _, .nil => .nil
  | x :: _, y :: _, n, .cons h t => by
    refine .cons ?_ (reps_view s (fun p hp => n p (List.mem_append_right _ hp)) t)
    cases x with
    | none => trivial
    | some av =>
      cases y with
      | none => exact h.elim
      | some v => exact RepA.view s (fun p hp => n p (List.mem_append_left _ hp)) h
theorem DI.seal {o : HO} {p : Addr} (I : DI c U H σ ρ) (h : H p = some o) (nu : U p = none) (n0 : c.H0 p = none) (np : p ∉ owns ρ σ) : DI c (upd U p o) H σ ρ := by
  have out : ∀ q ∈ owns ρ σ, upd U p o q = none := fun q hq => by
    have ne : q ≠ p := fun z => np (by rw [← z]; exact hq)
    rw [upd_ne ne]
    exact (I.out q hq).1
  exact ⟨I.gr.seal h nu n0, reps_view (same_new nu) out I.rep, I.nd, fun q hq => ⟨out q hq, (I.out q hq).2⟩, I.par, I.ko, I.nw⟩
theorem freeze {M : List Addr} {av : AV} {d : D} {V H0' : Hp} (I0 : DI c V H0' σ ρ) (g : Gr M V H0' U H) (I : DI c U H σ ρ) (r : RepA c.K U H av v) (n : ∀ p ∈ own av v, U p = none ∧ H0' p = none) (f : av.frz = some d) :
    ∃ U', Gr M V H0' U' H ∧ DI c U' H σ ρ ∧ R c.K U' d v ∧ Same U U' := by
  have key : ∀ (p : Addr) (o : HO), own av v = [p] → H p = some o → Gr M V H0' (upd U p o) H ∧ DI c (upd U p o) H σ ρ ∧ Same U (upd U p o) := fun p o e h => by
    obtain ⟨n1, n2⟩ := n p (by rw [e]; exact List.mem_singleton.mpr rfl)
    exact ⟨g.seal h n1 n2, I.seal h n1 (I0.gr.fresh n2) (fun z => I0.ex p z n2), same_new n1⟩
  cases av with
  | fz d' =>
    cases f
    exact ⟨U, g, I, r, Same.refl U⟩
  | ol ds =>
    cases f
    obtain ⟨p, xs, rfl, e, e2⟩ := r
    obtain ⟨k1, k2, k3⟩ := key p _ rfl e
    exact ⟨_, k1, k2, R.lst upd_same (Rs.mono k3 _ _ e2), k3⟩
  | ok ks ds =>
    cases f
    obtain ⟨p, xs, rfl, e, e2, e3⟩ := r
    obtain ⟨k1, k2, k3⟩ := key p _ rfl e
    exact ⟨_, k1, k2, ⟨p, xs, rfl, upd_same, e2, Rs.mono k3 _ _ e3⟩, k3⟩
  | ot ks ds =>
    cases f
    obtain ⟨p, xs, rfl, e, e2, e3⟩ := r
    obtain ⟨k1, k2, k3⟩ := key p _ rfl e
    exact ⟨_, k1, k2, ⟨p, xs, rfl, upd_same, e2, Rs.mono k3 _ _ e3⟩, k3⟩
  | dr => cases f
def frzQ (Q : D → Prop) : AV → Prop
  | .fz d => Q d
  | .ol ds => Q (.lst ds)
  | .ok ks ds => Q (.dK ks ds)
  | .ot ks ds => Q (.dT ks ds)
  | .dr => False
theorem frzQ_some {Q : D → Prop} {av : AV} (h : frzQ Q av) : ∃ d, av.frz = some d ∧ Q d := by
  cases av <;> first | exact ⟨_, rfl, h⟩ | exact h.elim
def aFz (e : AO) : AE := fun ρ Q X => e ρ (frzQ Q) X
theorem sim_fz {e : AO} (h : SimO c t e) : SimE c t (aFz e) := fun U H σ ρ Q q I z k =>
  h U H σ ρ _ _ I z fun U1 H1 av v g1 I1 r1 n1 z1 => by
    obtain ⟨d, f, z2⟩ := frzQ_some z1
    obtain ⟨U2, g2, I2, r2, _⟩ := freeze I g1 I1 r1 n1 f
    exact k U2 H1 d v g2 I2 r2 z2
def aUp (e : AE) : AO := fun ρ Q X => e ρ (fun d => Q (.fz d)) X
theorem sim_up (h : SimE c t e) : SimO c t (aUp e) := fun U H σ ρ Q q I z k =>
  h U H σ ρ _ _ I z fun U1 H1 d v g1 I1 r1 z1 => k U1 H1 (.fz d) v g1 I1 r1 (fun p hp => by cases hp) z1
/-! ### tests -/
def blQ (Q : Bool → Prop) : D → Prop
  | .bl b => Q b
  | _ => False
theorem blQ_of {Q : Bool → Prop} {d : D} (h : blQ Q d) : ∃ b, d = .bl b ∧ Q b := by
  cases d <;> first | exact ⟨_, rfl, h⟩ | exact h.elim
def aTest (e : AE) : AT := fun ρ Q X => e ρ (blQ Q) X
theorem sim_test (h : SimW c t e) : SimT c (tTest t) (aTest e) := fun U H σ ρ Q q I z k =>
  h U H σ ρ _ _ I z fun U1 H1 d v g1 I1 r1 z1 => by
    obtain ⟨b, rfl, z2⟩ := blQ_of z1
    exact ⟨b, (r1.cr I1).bl, k U1 H1 b g1 I1 z2⟩
theorem sim_B (h : SimW c t e) : SimT c (tB t) (aTest e) := fun U H σ ρ Q q I z k =>
  h U H σ ρ _ _ I z fun U1 H1 d v g1 I1 r1 z1 => by
    obtain ⟨b, rfl, z2⟩ := blQ_of z1
    exact ⟨b, (r1.cr I1).bl, k U1 H1 b g1 I1 z2⟩
def aNot (e : AT) : AT := fun ρ Q X => e ρ (fun b => Q (!b)) X
def aAnd (a b : AT) : AT := fun ρ Q X => a ρ (fun x => cond x (b ρ Q X) (Q false)) X
def aOr (a b : AT) : AT := fun ρ Q X => a ρ (fun x => cond x (Q true) (b ρ Q X)) X
theorem sim_not {t : TT} {e : AT} (h : SimT c t e) : SimT c (tNot t) (aNot e) := fun U H σ ρ Q q I z k => h U H σ ρ _ _ I z fun U1 H1 b g1 I1 z1 => k U1 H1 _ g1 I1 z1
theorem sim_and {t u : TT} {e f : AT} (h : SimT c t e) (h2 : SimT c u f) : SimT c (tAnd t u) (aAnd e f) := fun U H σ ρ Q q I z k =>
  h U H σ ρ _ _ I z fun U1 H1 b g1 I1 z1 => by
    cases b with
    | true => exact i_itT (h2 U1 H1 σ ρ _ _ I1 z1 fun U2 H2 b' g2 I2 z2 => k U2 H2 b' (g1.trans g2) I2 z2)
    | false => exact i_itF (k U1 H1 false g1 I1 z1)
theorem sim_or {t u : TT} {e f : AT} (h : SimT c t e) (h2 : SimT c u f) : SimT c (tOr t u) (aOr e f) := fun U H σ ρ Q q I z k =>
  h U H σ ρ _ _ I z fun U1 H1 b g1 I1 z1 => by
    cases b with
    | false => exact i_itF (h2 U1 H1 σ ρ _ _ I1 z1 fun U2 H2 b' g2 I2 z2 => k U2 H2 b' (g1.trans g2) I2 z2)
    | true => exact i_itT (k U1 H1 true g1 I1 z1)
/-! truth values as values -/
def aAndV (a b : AE) : AE := fun ρ Q X => a ρ (blQ fun x => cond x (b ρ Q X) (Q (.bl false))) X
def aOrV (a b : AE) : AE := fun ρ Q X => a ρ (blQ fun x => cond x (Q (.bl true)) (b ρ Q X)) X
def aNotV (a : AE) : AE := fun ρ Q X => a ρ (blQ fun x => Q (.bl (!x))) X
def aIfE (t : AT) (a b : AE) : AE := fun ρ Q X => t ρ (fun x => cond x (a ρ Q X) (b ρ Q X)) X
theorem sim_andV (ha : SimW c ta a) (hb : SimE c tb b) : SimE c (tAndV ta tb) (aAndV a b) := fun U H σ ρ Q q I z k =>
  ha U H σ ρ _ _ I z fun U1 H1 d v g1 I1 r1 z1 => by
    obtain ⟨x, rfl, z2⟩ := blQ_of z1
    refine ⟨x, (r1.cr I1).bl, ?_⟩
    cases x with
    | true => exact i_itT (hb U1 H1 σ ρ _ _ I1 z2 fun U2 H2 d' v' g2 I2 r2 z3 => k U2 H2 d' v' (g1.trans g2) I2 r2 z3)
    | false => exact i_itF (k U1 H1 (.bl false) _ g1 I1 rfl z2)
theorem sim_orV (ha : SimW c ta a) (hb : SimE c tb b) : SimE c (tOrV ta tb) (aOrV a b) := fun U H σ ρ Q q I z k =>
  ha U H σ ρ _ _ I z fun U1 H1 d v g1 I1 r1 z1 => by
    obtain ⟨x, rfl, z2⟩ := blQ_of z1
    refine ⟨x, (r1.cr I1).bl, ?_⟩
    cases x with
    | false => exact i_itF (hb U1 H1 σ ρ _ _ I1 z2 fun U2 H2 d' v' g2 I2 r2 z3 => k U2 H2 d' v' (g1.trans g2) I2 r2 z3)
    | true => exact i_itT (k U1 H1 (.bl true) _ g1 I1 rfl z2)
theorem sim_notV (ha : SimW c ta a) : SimE c (tNotV ta) (aNotV a) := fun U H σ ρ Q q I z k =>
  ha U H σ ρ _ _ I z fun U1 H1 d v g1 I1 r1 z1 => by
    obtain ⟨x, rfl, z2⟩ := blQ_of z1
    exact ⟨x, (r1.cr I1).bl, k U1 H1 (.bl (!x)) _ g1 I1 rfl z2⟩
theorem sim_ifE {t : TT} {e : AT} (h : SimT c t e) (ha : SimE c ta a) (hb : SimE c tb b) : SimE c (tIf t ta tb) (aIfE e a b) := fun U H σ ρ Q q I z k =>
  h U H σ ρ _ _ I z fun U1 H1 x g1 I1 z1 => by
    cases x with
    | true => exact i_itT (ha U1 H1 σ ρ _ _ I1 z1 fun U2 H2 d' v' g2 I2 r2 z3 => k U2 H2 d' v' (g1.trans g2) I2 r2 z3)
    | false => exact i_itF (hb U1 H1 σ ρ _ _ I1 z1 fun U2 H2 d' v' g2 I2 r2 z3 => k U2 H2 d' v' (g1.trans g2) I2 r2 z3)
def aChain (f g : D → D → (D → Prop) → Prop) (a b e : AE) : AE := fun ρ Q X => a ρ (fun x => b ρ (fun y => f x y (blQ fun k => cond k (e ρ (fun z => g y z Q) X) (Q (.bl false)))) X) X
theorem sim_chain {r r' : R2} {f g : D → D → (D → Prop) → Prop} {ae : AE} (hf : OpD c.K r f) (hg : OpD c.K r' g) (ha : SimW c ta a) (hb : SimW c tb b) (hc : SimW c tc ae) : SimE c (tChain r r' ta tb tc) (aChain f g a b ae) := fun U H σ ρ Q q I z k =>
  ha U H σ ρ _ _ I z fun U1 H1 d v g1 I1 w1 z1 => hb U1 H1 σ ρ _ _ I1 z1 fun U2 H2 e w g2 I2 w2 z2 =>
    hf U2 H2 v w d e _ _ I2.vh ((w1.mono g2.vv).cr I2) (w2.cr I2) z2 fun U3 H3 y u' g3 r3 z3 => by
      obtain ⟨x, rfl, z4⟩ := blQ_of z3
      have I3 := I2.grow g3
      refine ⟨x, r3, ?_⟩
      cases x with
      | true => exact i_itT (hc U3 H3 σ ρ _ _ I3 z4 fun U4 H4 m n g4 I4 w4 z5 => hg U4 H4 w n e m Q q I4.vh ((w2.mono (g3.vv.trans g4.vv)).cr I4) (w4.cr I4) z5 fun U5 H5 y2 u2 g5 r5 z6 => k U5 H5 y2 u2 ((((g1.trans g2).trans g3.any).trans g4).trans g5.any) (I4.grow g5) r5 z6)
      | false => exact i_itF (k U3 H3 (.bl false) _ ((g1.trans g2).trans g3.any) I3 rfl z4)
/-! ### built-ins by what they read -/
def aCB (f : List D → (D → Prop) → Prop) (r : AL) : AE := fun ρ Q X => r ρ (fun ds => f ds Q) X
def aCBO (f : List D → (AV → Prop) → Prop) (r : AL) : AO := fun ρ Q X => r ρ (fun ds => f ds Q) X
theorem wks_cr {ds : List D} {vs : List V} (I : DI c U H σ ρ) (h : Paired (Wk c.K U σ ρ) ds vs) : Paired (CR c.K U H) ds vs := Paired.imp (fun _ _ w => Wk.cr w I) h
theorem sim_cb {r : List V → Hp → VK → Prop} {f : List D → (D → Prop) → Prop} {tr : TA} {al : AL} (h : BuD c.K r f) (hr : SimLW c tr al) : SimE c (tCB r tr) (aCB f al) := fun U H σ ρ Q q I z k =>
  hr U H σ ρ _ _ I z fun U1 H1 ds vs g1 I1 w1 z1 => h U1 H1 vs ds Q q I1.vh (wks_cr I1 w1) z1 fun U3 H3 y u' g3 r3 z3 => k U3 H3 y u' (g1.trans g3.any) (I1.grow g3) r3 z3
theorem sim_cbO {r : List V → Hp → VK → Prop} {f : List D → (AV → Prop) → Prop} {tr : TA} {al : AL} (h : BuO c.K r f) (hr : SimLW c tr al) : SimO c (tCB r tr) (aCBO f al) := fun U H σ ρ Q q I z k =>
  hr U H σ ρ _ _ I z fun U1 H1 ds vs g1 I1 w1 z1 => h U1 H1 vs ds Q q I1.vh (wks_cr I1 w1) z1 fun U3 H3 y u' g3 r3 n3 z3 => k U3 H3 y u' (g1.trans g3.any) (I1.grow g3) r3 (fun p hp => ⟨(n3 p hp).1, g1.fresh (n3 p hp).2⟩) z3
/-! ### fields -/
def lookD (f : Str) : List Str → List D → Option D
  | n :: ns, d :: ds => if f == n then some d else lookD f ns ds
  | _, _ => none
theorem look_of {K : PySem.W.Frag} {f : Str} : ∀ {ns : List Str} {ds : List D} {xs : List V} {d : D}, Rs K U ds xs → ns.length = xs.length → lookD f ns ds = some d → ∃ v, (ns.zip xs).lookup f = some v ∧ R K U d v
  | [], ds, xs, d, h, l, e => by simp [lookD] at e
  | n :: ns, [], xs, d, h, l, e => by simp [lookD] at e
  | n :: ns, y :: ds, _, d, ⟨v, r, h1, h2, h3⟩, l, e => by
    subst h1
    unfold lookD at e
    rw [List.zip_cons_cons, List.lookup_cons]
    cases hb : f == n with
    | true =>
      rw [hb, if_pos rfl] at e
      cases e
      exact ⟨v, rfl, h2⟩
    | false =>
      rw [hb, if_neg Bool.false_ne_true] at e
      exact look_of h3 (Nat.succ.inj l) e
def fldQ (C : Addr) (f : Str) (Q : D → Prop) : D → Prop
  | .obj C' ns ds => C' = C ∧ (match lookD f ns ds with | some d => Q d | none => False)
  | _ => False
theorem fldQ_of {C : Addr} {f : Str} {Q : D → Prop} {d : D} (h : fldQ C f Q d) : ∃ ns ds z, d = .obj C ns ds ∧ lookD f ns ds = some z ∧ Q z := by
  cases d with
  | obj C' ns ds =>
    obtain ⟨rfl, h⟩ := h
    cases e : lookD f ns ds with
    | none => rw [e] at h; exact h.elim
    | some z => rw [e] at h; exact ⟨ns, ds, z, rfl, e, h⟩
  | _ => exact h.elim
def aFld (C : Addr) (f : Str) (a : AE) : AE := fun ρ Q X => a ρ (fldQ C f Q) X
theorem sim_fld {C : Addr} {f : Str} (hc : Cls c.K C) (hn : NoAttr c.K C f) (ha : SimW c ta a) : SimE c (tFld c.K ta f) (aFld C f a) := fun U H σ ρ Q q I z k =>
  ha U H σ ρ _ _ I z fun U1 H1 d v g1 I1 w1 z1 => by
    obtain ⟨ns, ds, y, rfl, e, z2⟩ := fldQ_of z1
    obtain ⟨p, dx, xs, rfl, hp, hl, hrs⟩ := (w1.cr I1).obj I1.vh
    obtain ⟨w, e1, r1⟩ := look_of hrs hl e
    exact ⟨p, C, dx, _, w, rfl, hp, hc, hn, e1, k U1 H1 y w g1 I1 r1 z2⟩
end
end SW

namespace SW
open PySem PySem.Spec PyProof.Rows L2
/-! ### draws: a step that changes the law's draws alone -/
theorem reps_step {K : PySem.W.Frag} {M : List Addr} {U H U' H' : Hp} (g : Gr M U H U' H') : ∀ {ρ : Env} {σ : L2.St}, Paired (RepS K U H) ρ σ → (owns ρ σ).Nodup → (∀ p ∈ M, p ∈ owns ρ σ → p ∈ drs ρ σ ∧ Dr U' H' p) → Paired (RepS K U' H') ρ σ
  | _, _, .nil, _, _ => .nil
  | x :: ρ, y :: σ, .cons h t, nd, hM => by
    have nd' : (ownS x y ++ owns ρ σ).Nodup := nd
    obtain ⟨n1, n2, n3⟩ := List.nodup_append.mp nd'
    refine .cons ?_ (reps_step g t n2 fun p hp ho => ?_)
    · cases x with
      | none => trivial
      | some av =>
        cases y with
        | none => exact h.elim
        | some v =>
          have hm : ∀ p ∈ own av v, drS (some av) (some v) = [] → p ∉ M := fun p hp hd hpM => by
            have k := (hM p hpM (List.mem_append_left _ hp)).1
            have k' : p ∈ drS (some av) (some v) ++ drs ρ σ := k
            rw [hd, List.nil_append] at k'
            exact n3 p hp p (drs_sub p k') rfl
          cases av with
          | fz d => exact R.mono g.vv d v h
          | ol ds =>
            obtain ⟨q, xs, rfl, e, e2⟩ := h
            exact ⟨q, xs, rfl, g.hh _ _ (hm q (List.mem_singleton.mpr rfl) rfl) e, Rs.mono g.vv _ _ e2⟩
          | ok ks ds =>
            obtain ⟨q, xs, rfl, e, e2, e3⟩ := h
            exact ⟨q, xs, rfl, g.hh _ _ (hm q (List.mem_singleton.mpr rfl) rfl) e, e2, Rs.mono g.vv _ _ e3⟩
          | ot ks ds =>
            obtain ⟨q, xs, rfl, e, e2, e3⟩ := h
            exact ⟨q, xs, rfl, g.hh _ _ (hm q (List.mem_singleton.mpr rfl) rfl) e, e2, Rs.mono g.vv _ _ e3⟩
          | dr =>
            obtain ⟨s, rfl, e⟩ := h
            by_cases hs : s ∈ M
            · exact ⟨s, rfl, (hM s hs (List.mem_append_left _ (List.mem_singleton.mpr rfl))).2⟩
            · exact ⟨s, rfl, e.gr g hs⟩
    · obtain ⟨k, k2⟩ := hM p hp (List.mem_append_right _ ho)
      have k' : p ∈ drS x y ++ drs ρ σ := k
      rcases List.mem_append.mp k' with z | z
      · refine absurd rfl (n3 p ?_ p ho)
        unfold drS at z
        split at z
        · exact z
        · cases z
      · exact ⟨z, k2⟩
section
variable {c : DC} {U H U' H' : Hp} {σ : L2.St} {ρ : Env} {t u ta tb tc : TE} {e a b : AE} {i j : Nat} {d : D} {v : V}
theorem DI.step {M : List Addr} (I : DI c U H σ ρ) (g : Gr M U H U' H') (hM : ∀ p ∈ M, p ∈ drs ρ σ ∧ Dr U' H' p) : DI c U' H' σ ρ := by
  refine ⟨⟨I.gr.vv.trans g.vv, g.vh, fun x o m h => ?_, fun x h => g.dom x (I.gr.dom x h), fun x h k => g.fr x (I.gr.fr x h k) (I.gr.dom x k)⟩, reps_step g I.rep I.nd fun p hp _ => hM p hp, I.nd, fun p hp => ⟨g.fr p (I.out p hp).1 (I.ex p hp), (I.out p hp).2⟩, I.par, I.ko, I.nw⟩
  refine g.hh x o (fun z => ?_) (I.gr.hh x o m h)
  rcases (I.out x (drs_sub x (hM x z).1)).2 with k | k
  · exact m k
  · rw [k] at h
    cases h
/-! ### calls -/
abbrev AF := List AV → (AV → Prop) → (Exn → Prop) → Prop
def ownA : List AV → List V → List Addr
  | a :: as, v :: vs => own a v ++ ownA as vs
  | _, _ => []
/-- the promise of a def that changes nothing but the law's draws -/
def spD (K : PySem.W.Frag) (A : AF) : Sp := fun vs H Q E => ∃ (U : Hp) (avs : List AV) (q : AV → Prop) (x : Exn → Prop), Same U H ∧ Paired (RepA K U H) avs vs ∧ (∀ a ∈ avs, a = .dr ∨ ∃ d, a = .fz d) ∧ (ownA avs vs).length ≤ 1 ∧ A avs q x ∧
  (∀ U' H' av v, Gr (ownA avs vs) U H U' H' → RepA K U' H' av v → (∀ p ∈ own av v, U' p = none ∧ H p = none) → (∀ p ∈ ownA avs vs, Dr U' H' p) → q av → Q v H') ∧
  (∀ U' H' ex cls o, Gr (ownA avs vs) U H U' H' → XRep K U' H' ex cls o → (∀ p ∈ ownA avs vs, Dr U' H' p) → x ex → E cls o H')
def argAV (ρ : Env) : Arg → Option AV
  | .val d => some (.fz d)
  | .slot i => match ρ[i]? with
    | some (some .dr) => some .dr
    | _ => none
def argsAV (ρ : Env) : List Arg → Option (List AV)
  | [] => some []
  | a :: as => match argAV ρ a, argsAV ρ as with
    | some x, some xs => some (x :: xs)
    | _, _ => none
def slots : List Arg → Nat
  | [] => 0
  | .slot _ :: as => slots as + 1
  | _ :: as => slots as
theorem mem_drs : ∀ {ρ : Env} {σ : L2.St} {i : Nat} {p : Addr}, ρ[i]? = some (some .dr) → σ[i]? = some (some (.ref p)) → p ∈ drs ρ σ
  | [], _, i, p, h, k => by simp at h
  | _ :: _, [], i, p, h, k => by simp at k
  | x :: ρ, y :: σ, 0, p, h, k => by
    have h' := Option.some.inj h
    have k' := Option.some.inj k
    subst h' k'
    exact List.mem_append_left _ (List.mem_singleton.mpr rfl)
  | x :: ρ, y :: σ, i + 1, p, h, k => List.mem_append_right _ (mem_drs (ρ := ρ) (σ := σ) h k)
theorem args_rep (I : DI c U H σ ρ) : ∀ {as : List Arg} {vs : List V} {avs : List AV}, Paired (ArgR c.K U σ) as vs → argsAV ρ as = some avs → Paired (RepA c.K U H) avs vs ∧ (∀ p ∈ ownA avs vs, p ∈ drs ρ σ) ∧ (ownA avs vs).length = slots as
  | _, _, avs, .nil, e => by
    cases e
    exact ⟨.nil, fun p hp => by simp [ownA] at hp, rfl⟩
  | a :: as, v :: vs, avs, .cons h t, e => by
    unfold argsAV at e
    cases ea : argAV ρ a with
    | none => rw [ea] at e; cases e
    | some x =>
      rw [ea] at e
      cases es : argsAV ρ as with
      | none => rw [es] at e; cases e
      | some xs =>
        rw [es] at e
        cases e
        obtain ⟨k1, k2, k3⟩ := args_rep I t es
        cases a with
        | val d =>
          cases ea
          exact ⟨.cons h k1, k2, k3⟩
        | slot i =>
          unfold argAV at ea
          dsimp only at ea
          split at ea
          · rename_i hρ
            cases ea
            obtain ⟨w, e1, e2, _⟩ := rep_at I.rep i _ hρ
            have hσ : σ[i]? = some (some v) := h
            rw [hσ] at e1
            have e' := Option.some.inj (Option.some.inj e1)
            subst e'
            obtain ⟨s, rfl, hd⟩ := id e2
            refine ⟨.cons e2 k1, fun p hp => ?_, ?_⟩
            · rcases List.mem_append.mp hp with z | z
              · rw [List.mem_singleton.mp z]
                exact mem_drs hρ hσ
              · exact k2 p z
            · show (own .dr (.ref s) ++ ownA xs vs).length = slots as + 1
              rw [List.length_append, k3]
              show 1 + _ = _
              omega
          · cases ea
theorem dr_args {K : PySem.W.Frag} : ∀ {avs : List AV} {vs : List V}, Paired (RepA K U H) avs vs → (∀ a ∈ avs, a = .dr ∨ ∃ d, a = .fz d) → ∀ p ∈ ownA avs vs, Dr U H p
  | _, _, .nil, _, p, hp => by simp [ownA] at hp
  | a :: as, v :: vs, .cons h t, k, p, hp => by
    rcases List.mem_append.mp hp with z | z
    · rcases k a List.mem_cons_self with rfl | ⟨d, rfl⟩
      · obtain ⟨s, rfl, hd⟩ := h
        rw [List.mem_singleton.mp z]
        exact hd
      · cases z
    · exact dr_args t (fun x hx => k x (List.mem_cons_of_mem _ hx)) p z
theorem args_kind : ∀ {as : List Arg} {avs : List AV}, argsAV ρ as = some avs → ∀ a ∈ avs, a = .dr ∨ ∃ d, a = .fz d
  | [], avs, e, a, ha => by cases e; cases ha
  | y :: as, avs, e, a, ha => by
    unfold argsAV at e
    cases ea : argAV ρ y with
    | none => rw [ea] at e; cases e
    | some x =>
      rw [ea] at e
      cases es : argsAV ρ as with
      | none => rw [es] at e; cases e
      | some xs =>
        rw [es] at e
        cases e
        rcases List.mem_cons.mp ha with rfl | ha
        · cases y with
          | val d => cases ea; exact .inr ⟨d, rfl⟩
          | slot i =>
            unfold argAV at ea
            dsimp only at ea
            split at ea
            · cases ea; exact .inl rfl
            · cases ea
        · exact args_kind es a ha
def callQ (A : AF) (ρ : Env) (Q : AV → Prop) (X : Exn → Prop) (as : List Arg) : Prop := slots as ≤ 1 ∧ match argsAV ρ as with
  | some avs => A avs Q X
  | none => False
theorem callQ_of {A : AF} {Q : AV → Prop} {X : Exn → Prop} {as : List Arg} (h : callQ A ρ Q X as) : slots as ≤ 1 ∧ ∃ avs, argsAV ρ as = some avs ∧ A avs Q X := by
  obtain ⟨h1, h2⟩ := h
  refine ⟨h1, ?_⟩
  cases e : argsAV ρ as with
  | none => rw [e] at h2; exact h2.elim
  | some avs => rw [e] at h2; exact ⟨avs, rfl, h2⟩
/-- the promise of a def, called where DI stands -/
theorem run_spD {A : AF} {as : List Arg} {vs : List V} {Q : AV → Prop} {q : VK} {E : XK} {X : Exn → Prop} (I : DI c U H σ ρ) (r : Paired (ArgR c.K U σ) as vs) (h : callQ A ρ Q X as)
    (k : ∀ U' H' av v, Gr (drs ρ σ) U H U' H' → DI c U' H' σ ρ → RepA c.K U' H' av v → (∀ p ∈ own av v, U' p = none ∧ H p = none) → Q av → q v H')
    (kx : ∀ U' H' x cls o, DI c U' H' σ ρ → XRep c.K U' H' x cls o → X x → E cls o H') : spD c.K A vs H q E := by
  obtain ⟨h1, avs, h2, h3⟩ := callQ_of h
  obtain ⟨k1, k2, k3⟩ := args_rep I r h2
  have kd := args_kind h2
  refine ⟨U, avs, Q, X, I.vh, k1, kd, by omega, h3, fun U' H' av v g r' n hd z => ?_, fun U' H' x cls o g xr hd z => ?_⟩
  · exact k U' H' av v (g.weak k2) (I.step g fun p hp => ⟨k2 p hp, hd p hp⟩) r' n z
  · exact kx U' H' x cls o (I.step g fun p hp => ⟨k2 p hp, hd p hp⟩) xr z
def aCall (A : AF) (r : AA) : AO := fun ρ Q X => r ρ (callQ A ρ Q X) X
def aCall0 (A : AF) (r : AA) : AO := fun ρ Q X => r ρ (callQ A ρ Q fun _ => False) X
section
variable {A : AF} {tr tk : TA} {r rk : AA}
theorem sim_call {E : XK} (hr : SimA c tr r) : SimO c (tCall (spD c.K A) [] E tr) (aCall0 A r) := fun U H σ ρ Q q I z k =>
  hr U H σ ρ _ _ I z fun U1 H1 as vs g1 I1 r1 z1 => by
    rw [List.append_nil]
    exact run_spD I1 r1 z1 (fun U2 H2 av v g2 I2 r2 n2 z2 => k U2 H2 av v (g1.trans g2) I2 r2 (fun p hp => ⟨(n2 p hp).1, g1.fresh (n2 p hp).2⟩) z2) (fun _ _ _ _ _ _ _ z => z.elim)
theorem sim_callS {E : L2.St → XK} (hE : ∀ σ, E σ = c.E) (hr : SimA c tr r) : SimO c (tCallS (spD c.K A) E tr) (aCall A r) := fun U H σ ρ Q q I z k =>
  hr U H σ ρ _ _ I z fun U1 H1 as vs g1 I1 r1 z1 =>
    run_spD I1 r1 z1 (fun U2 H2 av v g2 I2 r2 n2 z2 => k U2 H2 av v (g1.trans g2) I2 r2 (fun p hp => ⟨(n2 p hp).1, g1.fresh (n2 p hp).2⟩) z2) (fun U2 H2 x cls o I2 xr z => by rw [hE]; exact I2.ko U2 H2 x cls o I2.gr I2.drM xr z)
end
/-! ### statements -/
section
variable {st su : TS} {sa sb : AS} {tt : TT} {at' : AT} {o : AO}
def aNext : AS := fun N ρ => N.nx ρ
def aSeq (a b : AS) : AS := fun N ρ => a ⟨fun ρ' => b N ρ', N.rt, N.bk, N.ct, N.ex⟩ ρ
def aSet (i : Nat) (e : AE) : AS := fun N ρ => e ρ (fun d => N.nx (ρ.set i (some (.fz d)))) N.ex
def aSetO (i : Nat) (e : AO) : AS := fun N ρ => e ρ (fun av => N.nx (ρ.set i (some av))) N.ex
def aDrop (e : AE) : AS := fun N ρ => e ρ (fun _ => N.nx ρ) N.ex
def aRet (e : AE) : AS := fun N ρ => e ρ (fun d => N.rt (.fz d) ρ) N.ex
def aRetO (e : AO) : AS := fun N ρ => e ρ (fun av => N.rt av ρ) N.ex
def aRetN : AS := fun N ρ => N.rt (.fz .non) ρ
def aRetV (i : Nat) : AS := fun N ρ => match ρ[i]? with
  | some (some .dr) => False
  | some (some av) => N.rt av (ρ.set i none)
  | _ => False
def aIf (t : AT) (a b : AS) : AS := fun N ρ => t ρ (fun x => cond x (a N ρ) (b N ρ)) N.ex
def aBrk : AS := fun N ρ => N.bk ρ
def aCnt : AS := fun N ρ => N.ct ρ
def aRaise (C : Addr) : AS := fun N _ => N.ex ⟨C, [], []⟩
theorem sim_next : SimS c tNext aNext := fun U H σ ρ N n hx I h P => P.nx U H σ ρ (Same.refl U) I h
theorem sim_seq (ha : SimS c st sa) (hb : SimS c su sb) : SimS c (tSeq st su) (aSeq sa sb) := fun U H σ ρ N n hx I h P =>
  ha U H σ ρ ⟨fun ρ' => sb N ρ', N.rt, N.bk, N.ct, N.ex⟩ _ hx I h ⟨fun U' H' σ' ρ' s I' h' => hb U' H' σ' ρ' N n hx I' h' (P.mono s), P.rt, P.bk, P.ct⟩
theorem sim_set (hi : noPar c i = true) (h : SimE c t e) : SimS c (tAsg t (gName i)) (aSet i e) := fun U H σ ρ N n hx I z P => by
  unfold aSet at z
  rw [hx] at z
  exact h U H σ ρ _ _ I z fun U1 H1 d v g1 I1 r1 z1 => P.nx U1 H1 _ _ g1.vv (I1.setF r1 (noPar_of hi)) z1
theorem sim_setO (hi : noPar c i = true) (h : SimO c t o) : SimS c (tAsg t (gName i)) (aSetO i o) := fun U H σ ρ N n hx I z P => by
  unfold aSetO at z
  rw [hx] at z
  exact h U H σ ρ _ _ I z fun U1 H1 av v g1 I1 r1 n1 z1 => P.nx U1 H1 _ _ g1.vv (I1.setO r1 (fun p hp => ⟨(n1 p hp).1, I.gr.fresh (n1 p hp).2, fun z => I.ex p z (n1 p hp).2⟩) (noPar_of hi)) z1
theorem sim_drop (h : SimE c t e) : SimS c (tDrop t) (aDrop e) := fun U H σ ρ N n hx I z P => by
  unfold aDrop at z
  rw [hx] at z
  exact h U H σ ρ _ _ I z fun U1 H1 d v g1 I1 r1 z1 => P.nx U1 H1 _ _ g1.vv I1 z1
theorem sim_ret (h : SimE c t e) : SimS c (tRet t) (aRet e) := fun U H σ ρ N n hx I z P => by
  unfold aRet at z
  rw [hx] at z
  exact h U H σ ρ _ _ I z fun U1 H1 d v g1 I1 r1 z1 => P.rt U1 H1 σ ρ (.fz d) v I1 r1 (fun p hp => by cases hp) z1
theorem sim_retO (h : SimO c t o) : SimS c (tRet t) (aRetO o) := fun U H σ ρ N n hx I z P => by
  unfold aRetO at z
  rw [hx] at z
  exact h U H σ ρ _ _ I z fun U1 H1 av v g1 I1 r1 n1 z1 => P.rt U1 H1 σ ρ av v I1 r1 (fun p hp => ⟨(n1 p hp).1, I.gr.fresh (n1 p hp).2, fun z => I.ex p z (n1 p hp).2⟩) z1
theorem sim_retN : SimS c tRetN aRetN := fun U H σ ρ N n hx I z P => P.rt U H σ ρ (.fz .non) .non I rfl (fun p hp => by cases hp) z
theorem sim_brk : SimS c tBreak aBrk := fun U H σ ρ N n hx I h P => P.bk U H σ ρ (Same.refl U) I h
theorem sim_cnt : SimS c tCont aCnt := fun U H σ ρ N n hx I h P => P.ct U H σ ρ (Same.refl U) I h
theorem sim_if (ht : SimT c tt at') (ha : SimS c st sa) (hb : SimS c su sb) : SimS c (tIfS tt st su) (aIf at' sa sb) := fun U H σ ρ N n hx I z P => by
  unfold aIf at z
  rw [hx] at z
  refine ht U H σ ρ _ _ I z fun U1 H1 x g1 I1 z1 => ?_
  cases x with
  | true => exact i_itT (ha U1 H1 σ ρ N n hx I1 z1 (P.mono g1.vv))
  | false => exact i_itF (hb U1 H1 σ ρ N n hx I1 z1 (P.mono g1.vv))
def tRaise0 (C : Addr) (E : XK) : TS := fun _ _ H => E (.ref C) none H
theorem sim_raise {C : Addr} {E : XK} (hE : E = c.E) : SimS c (tRaise0 C E) (aRaise C) := fun U H σ ρ N n hx I z P => by
  subst hE
  exact I.ko U H ⟨C, [], []⟩ (.ref C) none I.gr I.drM ⟨rfl, .inl ⟨rfl, rfl, rfl⟩⟩ (by rw [← hx]; exact z)
/-- a slot is let go -/
theorem DI.unset (I : DI c U H σ ρ) (i : Nat) (hi : ∀ x ∈ c.pi, x ≠ i) : DI c U H σ (ρ.set i none) := by
  have e : ∀ (ρ : Env) (σ : L2.St) (i : Nat), Paired (RepS c.K U H) ρ σ → Paired (RepS c.K U H) (ρ.set i none) σ ∧ (owns (ρ.set i none) σ).Sublist (owns ρ σ) := by
    intro ρ
    induction ρ with
    | nil => intro σ i h; exact ⟨h, List.Sublist.refl _⟩
    | cons x ρ ih =>
      intro σ i h
      cases h with
      | @cons _ y _ σ h t =>
        cases i with
        | zero =>
          refine ⟨.cons trivial t, ?_⟩
          show (ownS none y ++ owns ρ σ).Sublist (ownS x y ++ owns ρ σ)
          exact List.sublist_append_right _ _
        | succ i =>
          obtain ⟨k1, k2⟩ := ih σ i t
          refine ⟨.cons h k1, ?_⟩
          show (ownS x y ++ owns (ρ.set i none) σ).Sublist (ownS x y ++ owns ρ σ)
          exact List.Sublist.append_left k2 _
  obtain ⟨k1, k2⟩ := e ρ σ i I.rep
  exact ⟨I.gr, k1, k2.nodup I.nd, fun p hp => I.out p (k2.mem hp), par_set (fun x hx => ⟨List.getElem?_set_ne (hi x hx).symm, rfl⟩) I.par, I.ko, fun k av w hk e1 e2 p hp => I.nw k av w hk (by
    rw [List.getElem?_set] at e1
    split at e1
    · split at e1 <;> simp at e1
    · exact e1) e2 p hp⟩
/-- it is in no other slot -/
theorem own_unset : ∀ {ρ : Env} {σ : L2.St} {i : Nat} {av : AV} {v : V}, (owns ρ σ).Nodup → ρ[i]? = some (some av) → σ[i]? = some (some v) → ∀ p ∈ own av v, p ∉ owns (ρ.set i none) σ
  | [], _, i, av, v, nd, h, k, p, hp => by simp at h
  | _ :: _, [], i, av, v, nd, h, k, p, hp => by simp at k
  | x :: ρ, y :: σ, 0, av, v, nd, h, k, p, hp => by
    have h' := Option.some.inj h
    have k' := Option.some.inj k
    subst h' k'
    intro z
    have z' : p ∈ ([] : List Addr) ++ owns ρ σ := z
    have nd' : (own av v ++ owns ρ σ).Nodup := nd
    exact (List.nodup_append.mp nd').2.2 p hp p z' rfl
  | x :: ρ, y :: σ, i + 1, av, v, nd, h, k, p, hp => by
    intro z
    have nd' : (ownS x y ++ owns ρ σ).Nodup := nd
    obtain ⟨n1, n2, n3⟩ := List.nodup_append.mp nd'
    have z' : p ∈ ownS x y ++ owns (ρ.set i none) σ := z
    rcases List.mem_append.mp z' with z' | z'
    · have mem : ∀ {ρ : Env} {σ : L2.St} {i : Nat}, ρ[i]? = some (some av) → σ[i]? = some (some v) → p ∈ owns ρ σ := by
        intro ρ
        induction ρ with
        | nil => intro σ i h; simp at h
        | cons a ρ ih =>
          intro σ i h k
          cases σ with
          | nil => simp at k
          | cons b σ =>
            cases i with
            | zero =>
              have h' := Option.some.inj h
              have k' := Option.some.inj k
              subst h' k'
              exact List.mem_append_left _ hp
            | succ i => exact List.mem_append_right _ (ih (σ := σ) (i := i) h k)
      exact n3 p z' p (mem (ρ := ρ) (σ := σ) (i := i) h k) rfl
    · exact own_unset n2 h k p hp z'
theorem sim_retV (hi : noPar c i = true) : SimS c (tRet (tVar i)) (aRetV i) := fun U H σ ρ N n hx I z P => by
  unfold aRetV at z
  split at z
  · exact z.elim
  · rename_i av _ e
    obtain ⟨v, e1, r, m⟩ := rep_at I.rep i av e
    exact ⟨v, e1, P.rt U H σ (ρ.set i none) av v (I.unset i (noPar_of hi)) r (fun p hp => ⟨(I.out p (m p hp)).1, I.nw i av v hi e e1 p hp, own_unset I.nd e e1 p hp⟩) z⟩
  · exact z.elim
/-! a list of one's own grows, changes -/
theorem reps_mut {K : PySem.W.Frag} {p : Addr} {o : HO} (nu : U p = none) : ∀ {ρ : Env} {σ : L2.St}, p ∉ owns ρ σ → Paired (RepS K U H) ρ σ → Paired (RepS K U (upd H p o)) ρ σ
  | _, _, _, .nil => .nil
  | x :: ρ, y :: σ, np, .cons h t => by
    refine .cons ?_ (reps_mut nu (fun z => np (List.mem_append_right _ z)) t)
    cases x with
    | none => trivial
    | some av =>
      cases y with
      | none => exact h.elim
      | some v =>
        have ne : ∀ q ∈ own av v, q ≠ p := fun q hq z => np (List.mem_append_left _ (z ▸ hq))
        cases av with
        | fz d => exact h
        | ol ds =>
          obtain ⟨q, xs, rfl, e, e2⟩ := h
          exact ⟨q, xs, rfl, by rw [upd_ne (ne q (List.mem_singleton.mpr rfl))]; exact e, e2⟩
        | ok ks ds =>
          obtain ⟨q, xs, rfl, e, e2⟩ := h
          exact ⟨q, xs, rfl, by rw [upd_ne (ne q (List.mem_singleton.mpr rfl))]; exact e, e2⟩
        | ot ks ds =>
          obtain ⟨q, xs, rfl, e, e2⟩ := h
          exact ⟨q, xs, rfl, by rw [upd_ne (ne q (List.mem_singleton.mpr rfl))]; exact e, e2⟩
        | dr =>
          obtain ⟨s, rfl, e⟩ := h
          exact ⟨s, rfl, e.mut (ne s (List.mem_singleton.mpr rfl))⟩
theorem set_same : ∀ {σ : L2.St} {i : Nat} {x : Option V}, σ[i]? = some x → σ.set i x = σ
  | [], _, _, h => by simp at h
  | y :: σ, 0, x, h => by rw [← Option.some.inj h]; rfl
  | y :: σ, i + 1, x, h => congrArg (y :: ·) (set_same (σ := σ) h)
/-- the thing in slot i becomes another of its kind, at its own place -/
theorem DI.mut {av av' : AV} {p : Addr} {o : HO} (I : DI c U H σ ρ) (h : ρ[i]? = some (some av)) (nd : av ≠ .dr) (hs : σ[i]? = some (some (.ref p))) (ho : own av (.ref p) = [p]) (ho' : own av' (.ref p) = [p]) (r : RepA c.K U (upd H p o) av' (.ref p)) :
    DI c U (upd H p o) σ (ρ.set i (some av')) := by
  have hp : p ∈ owns ρ σ := by
    obtain ⟨w, e1, _, m⟩ := rep_at I.rep i av h
    rw [hs] at e1
    have e' := Option.some.inj (Option.some.inj e1)
    subst e'
    exact m p (by rw [ho]; exact List.mem_singleton.mpr rfl)
  have hi : ∀ x ∈ c.pi, x ≠ i := by
    have go : ∀ {is : List Nat} {ps : List Addr}, Paired (ParOk ρ σ) is ps → ∀ x ∈ is, x ≠ i := by
      intro is ps k
      induction k with
      | nil => intro p hp; cases hp
      | @cons i' q is ps k t ih =>
        intro x hx
        rcases List.mem_cons.mp hx with rfl | hx
        · intro z
          subst z
          rw [k.1] at h
          have e' := Option.some.inj (Option.some.inj h)
          exact nd e'.symm
        · exact ih x hx
    exact go I.par
  have Iu := I.unset i hi
  have np := own_unset I.nd h hs p (by rw [ho]; exact List.mem_singleton.mpr rfl)
  have hu := (I.out p hp).1
  have hr : Paired (RepS c.K U (upd H p o)) (ρ.set i (some av')) σ := by
    have k := Paired.setAt (F := RepS c.K U (upd H p o)) (show RepS c.K U (upd H p o) (some av') (some (.ref p)) from r) i (reps_mut hu np Iu.rep)
    rwa [List.set_set, set_same hs] at k
  have hn : (owns (ρ.set i (some av')) σ).Nodup := by
    have k := owns_set_nd (ρ.set i none) σ i (some av') (some (.ref p)) Iu.nd (by show (own av' (.ref p)).Nodup; rw [ho']; simp) (fun q hq => by
      have hq' : q ∈ own av' (.ref p) := hq
      rw [ho'] at hq'
      rw [List.mem_singleton.mp hq']
      exact np)
    rwa [List.set_set, set_same hs] at k
  refine ⟨I.gr.mut hu (I.out p hp).2, hr, hn, fun q hq => ?_, par_set (fun x hx => ⟨List.getElem?_set_ne (hi x hx).symm, rfl⟩) I.par, I.ko, fun k av'' w hk e1 e2 q hq => ?_⟩
  · have k := owns_set_mem (ρ.set i none) σ i (some av') (some (.ref p)) q
    rw [List.set_set, set_same hs] at k
    rcases k hq with k | k
    · exact Iu.out q k
    · have k' : q ∈ own av' (.ref p) := k
      rw [ho'] at k'
      rw [List.mem_singleton.mp k']
      exact I.out p hp
  · by_cases z : i = k
    · subst z
      rw [hs] at e2
      have e' := Option.some.inj (Option.some.inj e2)
      subst e'
      rw [List.getElem?_set] at e1
      simp at e1
      rw [← e1.2, ho'] at hq
      rw [List.mem_singleton.mp hq]
      exact I.nw i av (.ref p) hk h hs p (by rw [ho]; exact List.mem_singleton.mpr rfl)
    · rw [List.getElem?_set_ne z] at e1
      exact I.nw k av'' w hk e1 e2 q hq
end
end
end SW

namespace SW
open PySem PySem.Spec PyProof.Rows L2
section
variable {c : DC} {U H U' H' : Hp} {σ : L2.St} {ρ : Env} {t u ta tb tc te ti : TE} {e a b ai : AE} {i j : Nat} {d : D} {v : V} {st su : TS} {sa sb : AS} {tt : TT} {at' : AT} {o : AO}
/-! ### lists of one's own: append, store, extend -/
def olQ (ρ : Env) (i : Nat) (Q : List D → Prop) : Prop := match ρ[i]? with
  | some (some (.ol ds)) => Q ds
  | _ => False
theorem olQ_of {Q : List D → Prop} (h : olQ ρ i Q) : ∃ ds, ρ[i]? = some (some (.ol ds)) ∧ Q ds := by
  unfold olQ at h
  split at h
  · exact ⟨_, by assumption, h⟩
  · exact h.elim
theorem ol_at {ds : List D} (I : DI c U H σ ρ) (h : ρ[i]? = some (some (.ol ds))) : ∃ p xs, σ[i]? = some (some (.ref p)) ∧ H p = some (.lst xs) ∧ Rs c.K U ds xs := by
  obtain ⟨v, e1, ⟨p, xs, rfl, e2, e3⟩, _⟩ := rep_at I.rep i _ h
  exact ⟨p, xs, e1, e2, e3⟩
theorem DI.mutL {ds ds' : List D} {p : Addr} {xs' : List V} (I : DI c U H σ ρ) (h : ρ[i]? = some (some (.ol ds))) (hs : σ[i]? = some (some (.ref p))) (r : Rs c.K U ds' xs') : DI c U (upd H p (.lst xs')) σ (ρ.set i (some (.ol ds'))) :=
  I.mut h (fun z => by cases z) hs rfl rfl ⟨p, xs', rfl, upd_same, r⟩
def aApp (i : Nat) (e : AE) : AS := fun N ρ => olQ ρ i fun _ => e ρ (fun d => olQ ρ i fun ds => ds.length < 1000000 ∧ N.nx (ρ.set i (some (.ol (ds ++ [d]))))) N.ex
theorem sim_app (he : SimE c te e) : SimS c (tDrop (tBM c.K "list" rAppend (tVar i) (tCons te tNil))) (aApp i e) := fun U H σ ρ N n hx I z P => by
  obtain ⟨ds0, e0, z⟩ := olQ_of z
  rw [hx] at z
  obtain ⟨p, xs, hs, hp, hr⟩ := ol_at I e0
  refine ⟨.ref p, hs, .inl ⟨rfl, xs, SqL.of hp⟩, he U H σ ρ _ _ I z fun U1 H1 d v g1 I1 r1 z1 => ?_⟩
  obtain ⟨ds, e1, z2, z3⟩ := olQ_of z1
  obtain ⟨p', xs', hs', hp', hr'⟩ := ol_at I1 e1
  rw [hs] at hs'
  have e' := V.ref.inj (Option.some.inj (Option.some.inj hs'))
  subst e'
  exact ⟨p, xs', v, rfl, rfl, hp', lt_size (by rw [← hr'.len]; exact z2), P.nx U1 _ σ _ g1.vv (I1.mutL e1 hs (hr'.snoc r1)) z3⟩
def ixQ (n : Nat) (Q : Nat → Prop) : D → Prop
  | .int z => match ixN n z with
    | some j => Q j
    | none => False
  | _ => False
theorem ixQ_of {n : Nat} {Q : Nat → Prop} {d : D} (h : ixQ n Q d) : ∃ z j, d = .int z ∧ ixN n z = some j ∧ Q j := by
  cases d with
  | int z =>
    simp only [ixQ] at h
    cases e : ixN n z with
    | none => rw [e] at h; exact h.elim
    | some j => rw [e] at h; exact ⟨z, j, rfl, e, h⟩
  | _ => exact h.elim
/-- x[k] = e -/
def aPut (i : Nat) (ai e : AE) : AS := fun N ρ => olQ ρ i fun _ => e ρ (fun d => ai ρ (fun k => olQ ρ i fun ds => ixQ ds.length (fun j => N.nx (ρ.set i (some (.ol (ds.set j d))))) k) N.ex) N.ex
theorem sim_put (he : SimE c te e) (hi : SimW c ti ai) : SimS c (tAsg te (gSub (tVar i) ti rSetL)) (aPut i ai e) := fun U H σ ρ N n hx I z P => by
  obtain ⟨ds0, e0, z⟩ := olQ_of z
  rw [hx] at z
  obtain ⟨p, xs, hs, hp, hr⟩ := ol_at I e0
  refine he U H σ ρ _ _ I z fun U1 H1 d v g1 I1 r1 z1 => ?_
  refine ⟨.ref p, hs, hi U1 H1 σ ρ _ _ I1 z1 fun U2 H2 k w g2 I2 r2 z2 => ?_⟩
  obtain ⟨ds, e1, z3⟩ := olQ_of z2
  obtain ⟨y, m, rfl, e2, z4⟩ := ixQ_of z3
  obtain ⟨p', xs', hs', hp', hr'⟩ := ol_at I2 e1
  rw [hs] at hs'
  have e' := V.ref.inj (Option.some.inj (Option.some.inj hs'))
  subst e'
  exact ⟨p, xs', y, m, rfl, (r2.cr I2).int, hp', by rw [← hr'.len]; exact e2, P.nx U2 _ σ _ (g1.vv.trans g2.vv) (I2.mutL e1 hs (hr'.set m (R.mono g2.vv d v r1))) z4⟩
def lstQ (Q : List D → Prop) : D → Prop
  | .lst ds => Q ds
  | _ => False
theorem lstQ_of {Q : List D → Prop} {d : D} (h : lstQ Q d) : ∃ ds, d = .lst ds ∧ Q ds := by
  cases d <;> first | exact ⟨_, rfl, h⟩ | exact h.elim
def tupQ (Q : List D → Prop) : D → Prop
  | .tup ds => Q ds
  | _ => False
theorem tupQ_of {Q : List D → Prop} {d : D} (h : tupQ Q d) : ∃ ds, d = .tup ds ∧ Q ds := by
  cases d <;> first | exact ⟨_, rfl, h⟩ | exact h.elim
/-- x += e of lists -/
def aExt (i : Nat) (e : AE) : AS := fun N ρ => olQ ρ i fun _ => e ρ (lstQ fun es => olQ ρ i fun ds => ds.length + es.length ≤ 1000000 ∧ N.nx (ρ.set i (some (.ol (ds ++ es))))) N.ex
theorem sim_ext (he : SimW c te e) : SimS c (tAug i te rExt2) (aExt i e) := fun U H σ ρ N n hx I z P => by
  obtain ⟨ds0, e0, z⟩ := olQ_of z
  rw [hx] at z
  obtain ⟨p, xs, hs, hp, hr⟩ := ol_at I e0
  refine ⟨.ref p, hs, he U H σ ρ _ _ I z fun U1 H1 d v g1 I1 r1 z1 => ?_⟩
  obtain ⟨es, rfl, z2⟩ := lstQ_of z1
  obtain ⟨ds, e1, z3, z4⟩ := olQ_of z2
  obtain ⟨p', xs', hs', hp', hr'⟩ := ol_at I1 e1
  rw [hs] at hs'
  have e' := V.ref.inj (Option.some.inj (Option.some.inj hs'))
  subst e'
  obtain ⟨b, ys, rfl, hb, hys⟩ := (r1.cr I1).lst I1.vh
  refine ⟨p, b, xs', ys, rfl, rfl, hp', hb, le_size (by rw [← hr'.len, ← hys.len]; exact z3), ?_⟩
  show n.nx (σ.set i (some (.ref p))) _
  rw [set_same hs]
  exact P.nx U1 _ σ _ g1.vv (I1.mutL e1 hs (hr'.app hys)) z4
/-! ### targets -/
def gN (i : Nat) : AG := fun d ρ Q => Q (ρ.set i (some (.fz d)))
theorem drs_set : ∀ (ρ : Env) (σ : L2.St) (i : Nat) (x : Option AV) (y : Option V), drS x y = [] → ∀ p ∈ drs (ρ.set i x) (σ.set i y), p ∈ drs ρ σ
  | [], _, _, _, _, _, p, hp => by simp [drs] at hp
  | _ :: _, [], i, _, _, _, p, hp => by cases i <;> simp [drs] at hp
  | a :: ρ, b :: σ, 0, x, y, h, p, hp => by
    have hp' : p ∈ drS x y ++ drs ρ σ := hp
    rw [h] at hp'
    exact List.mem_append_right _ hp'
  | a :: ρ, b :: σ, i + 1, x, y, h, p, hp => by
    have hp' : p ∈ drS a b ++ drs (ρ.set i x) (σ.set i y) := hp
    rcases List.mem_append.mp hp' with z | z
    · exact List.mem_append_left _ z
    · exact List.mem_append_right _ (drs_set ρ σ i x y h p z)
theorem put_set {i : Nat} {d : D} {v : V} : Put [i] σ (σ.set i (some v)) ρ (ρ.set i (some (.fz d))) :=
  ⟨List.length_set, fun k hk => List.getElem?_set_ne (fun z => hk (by rw [z]; exact List.mem_singleton.mpr rfl)), drs_set ρ σ i _ _ rfl⟩
theorem Put.trans {js ks : List Nat} {σ1 σ2 σ3 : L2.St} {ρ1 ρ2 ρ3 : Env} (a : Put js σ1 σ2 ρ1 ρ2) (b : Put ks σ2 σ3 ρ2 ρ3) : Put (js ++ ks) σ1 σ3 ρ1 ρ3 :=
  ⟨b.len.trans a.len, fun k hk => (b.at' k fun z => hk (List.mem_append_right _ z)).trans (a.at' k fun z => hk (List.mem_append_left _ z)), fun p hp => a.dr p (b.dr p hp)⟩
theorem sim_gN (hi : noPar c i = true) : SimG c [i] (gName i) (gN i) := fun U H σ ρ d v Q q I r z k => k _ _ (I.setF r (noPar_of hi)) put_set z
abbrev AGs := List D → Env → (Env → Prop) → Prop
def SimGs (c : DC) (js : List Nat) (g : TGs) (a : AGs) : Prop := ∀ (U H : Hp) (σ : L2.St) (ρ : Env) (ds : List D) (vs : List V) (Q : Env → Prop) (q : L2.St → Hp → Prop), DI c U H σ ρ → Rs c.K U ds vs → a ds ρ Q →
  (∀ σ' ρ', DI c U H σ' ρ' → Put js σ σ' ρ ρ' → Q ρ' → q σ' H) → g vs σ H q
def gsNil : AGs := fun ds ρ Q => match ds with | [] => Q ρ | _ => False
def gsCons (g : AG) (r : AGs) : AGs := fun ds ρ Q => match ds with | d :: ds => g d ρ (fun ρ' => r ds ρ' Q) | [] => False
def gT (n : Nat) (r : AGs) : AG := fun d ρ Q => match d with | .tup ds => ds.length = n ∧ r ds ρ Q | _ => False
theorem sim_gsNil : SimGs c [] gNil gsNil := fun U H σ ρ ds vs Q q I r z k => by
  cases ds with
  | nil => exact ⟨r, k σ ρ I ⟨rfl, fun _ _ => rfl, fun _ h => h⟩ z⟩
  | cons d ds => exact z.elim
theorem sim_gsCons {js ks : List Nat} {g : TG} {gs : TGs} {ag : AG} {ags : AGs} (h : SimG c js g ag) (hs : SimGs c ks gs ags) : SimGs c (js ++ ks) (gCons g gs) (gsCons ag ags) := fun U H σ ρ ds vs Q q I r z k => by
  cases ds with
  | nil => exact z.elim
  | cons d ds =>
    obtain ⟨v, vs', rfl, r1, r2⟩ := r
    exact ⟨v, vs', rfl, h U H σ ρ d v _ _ I r1 z fun σ1 ρ1 I1 p1 z1 => hs U H σ1 ρ1 ds vs' Q q I1 r2 z1 fun σ2 ρ2 I2 p2 z2 => k σ2 ρ2 I2 (p1.trans p2) z2⟩
theorem sim_gT {js : List Nat} {n : Nat} {gs : TGs} {ags : AGs} (hs : SimGs c js gs ags) : SimG c js (gTup c.K n gs) (gT n ags) := fun U H σ ρ d v Q q I r z k => by
  cases d with
  | tup ds =>
    obtain ⟨a, xs, rfl, h1, h2⟩ := r
    obtain ⟨z1, z2⟩ : ds.length = n ∧ ags ds ρ Q := z
    exact ⟨a, xs, rfl, Same.tup I.vh h1, by rw [← h2.len]; exact z1, hs U H σ ρ ds xs Q q I h2 z2 k⟩
  | _ => exact (show False from z).elim
def aAsg (e : AE) (g : AG) : AS := fun N ρ => e ρ (fun d => g d ρ N.nx) N.ex
theorem sim_asg {js : List Nat} {g : TG} {ag : AG} (h : SimE c t e) (hg : SimG c js g ag) : SimS c (tAsg t g) (aAsg e ag) := fun U H σ ρ N n hx I z P => by
  unfold aAsg at z
  rw [hx] at z
  exact h U H σ ρ _ _ I z fun U1 H1 d v g1 I1 r1 z1 => hg U1 H1 σ ρ d v _ _ I1 r1 z1 fun σ2 ρ2 I2 _ z2 => P.nx U1 H1 _ _ g1.vv I2 z2
/-- a, b = e, f -/
def twoQ (Q : D → D → Prop) : List D → Prop
  | [d, e] => Q d e
  | _ => False
theorem twoQ_of {Q : D → D → Prop} {ds : List D} (h : twoQ Q ds) : ∃ d e, ds = [d, e] ∧ Q d e := by
  unfold twoQ at h
  split at h
  · exact ⟨_, _, rfl, h⟩
  · exact h.elim
def aPar (i j : Nat) (r : AL) : AS := fun N ρ => r ρ (twoQ fun d e => N.nx ((ρ.set i (some (.fz d))).set j (some (.fz e)))) N.ex
theorem sim_par {tr : TA} {r : AL} (hi : noPar c i = true) (hj : noPar c j = true) (h : SimL c tr r) : SimS c (tPar i j tr) (aPar i j r) := fun U H σ ρ N n hx I z P => by
  unfold aPar at z
  rw [hx] at z
  refine h U H σ ρ _ _ I z fun U1 H1 ds vs g1 I1 r1 z1 => ?_
  obtain ⟨d, e, rfl, z2⟩ := twoQ_of z1
  obtain ⟨v, vs', rfl, r2, w, vs'', rfl, r3, e0⟩ := r1
  obtain rfl : vs'' = [] := e0
  exact ⟨v, w, rfl, P.nx U1 H1 _ _ g1.vv ((I1.setF r2 (noPar_of hi)).setF r3 (noPar_of hj)) z2⟩
def aAug (i : Nat) (f : D → D → (D → Prop) → Prop) (e : AE) : AS := fun N ρ => match ρ[i]? with
  | some (some (.fz x)) => e ρ (fun y => f x y fun z => N.nx (ρ.set i (some (.fz z)))) N.ex
  | _ => False
theorem sim_aug {r : R2} {f : D → D → (D → Prop) → Prop} (hf : OpD c.K r f) (hi : noPar c i = true) (h : SimW c t e) : SimS c (tAug i t r) (aAug i f e) := fun U H σ ρ N n hx I z P => by
  unfold aAug at z
  split at z
  · rename_i x e0
    rw [hx] at z
    obtain ⟨v, e1, r, _⟩ := rep_at I.rep i _ e0
    refine ⟨v, e1, h U H σ ρ _ _ I z fun U1 H1 y w g1 I1 w1 z1 => ?_⟩
    exact hf U1 H1 v w x y _ _ I1.vh (.of (R.mono g1.vv x v r)) (w1.cr I1) z1 fun U2 H2 y' u g2 r2 z2 => P.nx U2 H2 _ _ (g1.vv.trans g2.vv) ((I1.grow g2).setF r2 (noPar_of hi)) z2
  · exact z.elim
/-! ### loops -/
def aLoop (g : AG) (b : AS) (N : AEnds) : List D → Env → Prop
  | [], ρ => N.nx ρ
  | d :: r, ρ => g d ρ (fun ρ2 => b ⟨aLoop g b N r, N.rt, N.nx, aLoop g b N r, N.ex⟩ ρ2)
def aFor (it : AL) (g : AG) (b : AS) : AS := fun N ρ => it ρ (fun ds => aLoop g b N ds ρ) N.ex
theorem drop_at {α : Type} {xs : List α} {i : Nat} {x : α} (h : xs[i]? = some x) : xs.drop i = x :: xs.drop (i + 1) := by
  obtain ⟨hi, e⟩ := List.getElem?_eq_some_iff.mp h
  rw [List.drop_eq_getElem_cons hi, e]
theorem sim_for {js : List Nat} {wi : TI} {it : AL} {g : TG} {ag : AG} (hi : SimI c wi it) (hg : SimG c js g ag) (hb : SimS c st sa) : SimS c (tFor wi g st) (aFor it ag sa) := fun U H σ ρ N n hx I z P => by
  unfold aFor at z
  rw [hx] at z
  refine hi U H σ ρ _ _ I z fun U1 H1 J ds g1 I1 W z1 => ?_
  obtain ⟨Y, w, hY⟩ := W
  refine for_it w (fun k σ' H' => ∃ U' ρ', Same U1 U' ∧ DI c U' H' σ' ρ' ∧ aLoop ag sa N (ds.drop k) ρ') ⟨U1, ρ, Same.refl U1, I1, z1⟩ (fun k σ' H' _ ⟨U', ρ', s, I', _⟩ => s.trans I'.vh) ?_ ?_
  · rintro k x σ' H' H'' hk ⟨U', ρ', s, I', z2⟩ hy
    have ed : ds[k]? = some ds[k] := List.getElem?_eq_getElem hk
    obtain ⟨U3, g3, r3⟩ := hY k H' x H'' _ U' s I'.vh hy ed
    rw [drop_at ed] at z2
    have I3 := I'.grow g3
    have s3 := s.trans g3.vv
    refine hg U3 H'' σ' ρ' _ x _ _ I3 r3 z2 fun σ4 ρ4 I4 _ z4 => ?_
    exact hb U3 H'' σ4 ρ4 ⟨aLoop ag sa N (ds.drop (k + 1)), N.rt, N.nx, aLoop ag sa N (ds.drop (k + 1)), N.ex⟩ _ hx I4 z4
      ⟨fun U5 H5 σ5 ρ5 s5 I5 z5 => ⟨U5, ρ5, s3.trans s5, I5, z5⟩, P.rt, fun U5 H5 σ5 ρ5 s5 I5 z5 => P.nx U5 H5 σ5 ρ5 (g1.vv.trans (s3.trans s5)) I5 z5, fun U5 H5 σ5 ρ5 s5 I5 z5 => ⟨U5, ρ5, s3.trans s5, I5, z5⟩⟩
  · rintro σ' H' ⟨U', ρ', s, I', z2⟩
    rw [List.drop_length] at z2
    exact P.nx U' H' σ' ρ' (g1.vv.trans s) I' z2
def aWhile (t : AT) (b : AS) : AS := fun N ρ => ∃ W : Nat → Env → Prop, (∃ m, W m ρ) ∧ ∀ m ρ, W m ρ → t ρ (fun x => cond x (∃ M : Env → Prop, (∀ ρ', M ρ' → ∃ m', m' < m ∧ W m' ρ') ∧ b ⟨M, N.rt, N.nx, M, N.ex⟩ ρ) (N.nx ρ)) N.ex
theorem sim_while (ht : SimT c tt at') (hb : SimS c st sa) : SimS c (tWhile tt st) (aWhile at' sa) := fun U H σ ρ N n hx I z P => by
  obtain ⟨W, ⟨m0, w0⟩, hs⟩ := z
  refine ⟨fun m σ' H' => ∃ U' ρ', Same U U' ∧ DI c U' H' σ' ρ' ∧ W m ρ', ⟨m0, U, ρ, Same.refl U, I, w0⟩, ?_⟩
  rintro m σ' H' ⟨U', ρ', s, I', w⟩
  have z := hs m ρ' w
  rw [hx] at z
  refine ht U' H' σ' ρ' _ _ I' z fun U1 H1 x g1 I1 z1 => ?_
  cases x with
  | true =>
    obtain ⟨M, hM, z2⟩ := z1
    refine i_itT ⟨fun σ2 H2 => ∃ U2 ρ2, Same U U2 ∧ DI c U2 H2 σ2 ρ2 ∧ M ρ2, fun σ2 H2 ⟨U2, ρ2, s2, I2, z3⟩ => ?_, hb U1 H1 σ' ρ' ⟨M, N.rt, N.nx, M, c.X⟩ _ rfl I1 z2 ⟨fun U5 H5 σ5 ρ5 s5 I5 z5 => ⟨U5, ρ5, (s.trans g1.vv).trans s5, I5, z5⟩, P.rt, fun U5 H5 σ5 ρ5 s5 I5 z5 => P.nx U5 H5 σ5 ρ5 ((s.trans g1.vv).trans s5) I5 z5, fun U5 H5 σ5 ρ5 s5 I5 z5 => ⟨U5, ρ5, (s.trans g1.vv).trans s5, I5, z5⟩⟩⟩
    obtain ⟨m', h1, h2⟩ := hM ρ2 z3
    exact ⟨m', h1, U2, ρ2, s2, I2, h2⟩
  | false => exact i_itF (P.nx U1 H1 σ' ρ' (s.trans g1.vv) I1 z1)
end
end SW

namespace SW
open PySem PySem.Spec PyProof.Rows L2
section
variable {c : DC} {U H U' H' : Hp} {σ : L2.St} {ρ : Env} {t u ta tb tc te ti : TE} {e a b ai : AE} {i j : Nat} {d : D} {v : V} {st su : TS} {sa sb : AS} {tt : TT} {at' : AT} {o : AO}
/-! ### what is walked -/
theorem SimI.w {wi : TI} {it : AL} (h : SimI c wi it) : SimIW c wi it := fun U H σ ρ Q q I z k => h U H σ ρ Q q I z fun U1 H1 J ds g1 I1 W z1 => by
  obtain ⟨Y, w, hY⟩ := W
  exact k U1 H1 J ds g1 I1 ⟨Y, w.mono (fun H'' ⟨U'', g⟩ => g.vv.trans g.vh) (fun _ _ _ _ _ _ y => y), hY⟩ z1
theorem yat {K : PySem.W.Frag} {ds : List D} {xs : List V} (r : Rs K U ds xs) {i : Nat} {H H' U2 : Hp} {x : V} {d : D} (s : Same U U2) (s2 : Same U2 H) (h : YAt xs i H x H') (e : ds[i]? = some d) : ∃ U3, Gr [] U2 H U3 H' ∧ R K U3 d x := by
  obtain ⟨rfl, hx⟩ := h
  obtain ⟨d', e1, r1⟩ := r.at' i x hx
  rw [e] at e1
  have e' := Option.some.inj e1
  subst e'
  exact ⟨U2, Gr.refl s2, R.mono s d x r1⟩
def aItL (e : AE) : AL := fun ρ Q X => e ρ (lstQ Q) X
def aItT (e : AE) : AL := fun ρ Q X => e ρ (tupQ Q) X
theorem sim_itL (h : SimE c te e) : SimI c (iList c.K te) (aItL e) := fun U H σ ρ Q q I z k => h U H σ ρ _ _ I z fun U1 H1 d v g1 I1 r1 z1 => by
  obtain ⟨ds, rfl, z2⟩ := lstQ_of z1
  obtain ⟨p, xs, rfl, hp, hr⟩ := r1
  refine ⟨p, rfl, ⟨xs, SqL.of (I1.vh _ _ hp)⟩, k U1 H1 _ ds g1 I1 ⟨YAt xs, ?_, fun i H x H' d U2 s s2 y e => yat hr s s2 y e⟩ z2⟩
  rw [hr.len]
  exact walk_list.mono (fun H s => SqL.of (s _ _ hp)) (fun _ _ _ _ _ _ y => y)
theorem sim_itT (h : SimE c te e) : SimI c (iTup c.K te) (aItT e) := fun U H σ ρ Q q I z k => h U H σ ρ _ _ I z fun U1 H1 d v g1 I1 r1 z1 => by
  obtain ⟨ds, rfl, z2⟩ := tupQ_of z1
  obtain ⟨p, xs, rfl, hp, hr⟩ := r1
  refine ⟨p, rfl, ⟨xs, Same.tup I1.vh hp⟩, k U1 H1 _ ds g1 I1 ⟨YAt xs, ?_, fun i H x H' d U2 s s2 y e => yat hr s s2 y e⟩ z2⟩
  rw [hr.len]
  exact walk_tup.mono (fun H s => Same.tup s hp) (fun _ _ _ _ _ _ y => y)
/-- it is in no draw -/
theorem own_dr : ∀ {ρ : Env} {σ : L2.St} {i : Nat} {av : AV} {v : V}, (owns ρ σ).Nodup → ρ[i]? = some (some av) → σ[i]? = some (some v) → av ≠ .dr → ∀ p ∈ own av v, p ∉ drs ρ σ
  | [], _, i, av, v, nd, h, k, n, p, hp => by simp at h
  | _ :: _, [], i, av, v, nd, h, k, n, p, hp => by simp at k
  | x :: ρ, y :: σ, 0, av, v, nd, h, k, n, p, hp => by
    have h' := Option.some.inj h
    have k' := Option.some.inj k
    subst h' k'
    intro z
    have z' : p ∈ drS (some av) (some v) ++ drs ρ σ := z
    have nd' : (own av v ++ owns ρ σ).Nodup := nd
    rcases List.mem_append.mp z' with z' | z'
    · unfold drS at z'
      split at z'
      · rename_i e _
        exact n (Option.some.inj e)
      · cases z'
    · exact (List.nodup_append.mp nd').2.2 p hp p (drs_sub p z') rfl
  | x :: ρ, y :: σ, i + 1, av, v, nd, h, k, n, p, hp => by
    intro z
    have nd' : (ownS x y ++ owns ρ σ).Nodup := nd
    obtain ⟨n1, n2, n3⟩ := List.nodup_append.mp nd'
    have z' : p ∈ drS x y ++ drs ρ σ := z
    rcases List.mem_append.mp z' with z' | z'
    · have m1 : p ∈ ownS x y := by
        unfold drS at z'
        split at z'
        · exact z'
        · cases z'
      have mem : ∀ {ρ : Env} {σ : L2.St} {i : Nat}, ρ[i]? = some (some av) → σ[i]? = some (some v) → p ∈ owns ρ σ := by
        intro ρ
        induction ρ with
        | nil => intro σ i h; simp at h
        | cons a ρ ih =>
          intro σ i h k
          cases σ with
          | nil => simp at k
          | cons b σ =>
            cases i with
            | zero =>
              have h' := Option.some.inj h
              have k' := Option.some.inj k
              subst h' k'
              exact List.mem_append_left _ hp
            | succ i => exact List.mem_append_right _ (ih (σ := σ) (i := i) h k)
      exact n3 p m1 p (mem (ρ := ρ) (σ := σ) (i := i) h k) rfl
    · exact own_dr n2 h k n p hp z'
/-- a slot's own list, in a comprehension -/
theorem sim_itLW (h : SimW c te e) : SimIW c (iList c.K te) (aItL e) := fun U H σ ρ Q q I z k => h U H σ ρ _ _ I z fun U1 H1 d v g1 I1 w1 z1 => by
  obtain ⟨ds, rfl, z2⟩ := lstQ_of z1
  rcases w1 with r1 | ⟨k1, av, h1, h2, h3⟩
  · obtain ⟨p, xs, rfl, hp, hr⟩ := r1
    refine ⟨p, rfl, ⟨xs, SqL.of (I1.vh _ _ hp)⟩, k U1 H1 _ ds g1 I1 ⟨YAt xs, ?_, fun i H x H' d U2 s s2 y e => yat hr s s2 y e⟩ z2⟩
    rw [hr.len]
    exact walk_list.mono (fun H ⟨U'', g⟩ => SqL.of (g.vh _ _ (g.vv _ _ hp))) (fun _ _ _ _ _ _ y => y)
  · obtain ⟨w, e1, e2, m⟩ := rep_at I1.rep k1 av h1
    rw [h2] at e1
    have e' := Option.some.inj (Option.some.inj e1)
    subst e'
    have nd : av ≠ .dr := fun z => by rw [z] at h3; cases h3
    have key : ∀ p xs, v = .ref p → H1 p = some (.lst xs) → Rs c.K U1 ds xs → p ∉ drs ρ σ → iList c.K (tC v) σ H1 q := fun p xs ev hp hr np => by
      subst ev
      refine ⟨p, rfl, ⟨xs, SqL.of hp⟩, k U1 H1 _ ds g1 I1 ⟨YAt xs, ?_, fun i H x H' d U2 s s2 y e => yat hr s s2 y e⟩ z2⟩
      rw [hr.len]
      exact walk_list.mono (fun H ⟨U'', g⟩ => SqL.of (g.hh _ _ np hp)) (fun _ _ _ _ _ _ y => y)
    have np := own_dr I1.nd h1 h2 nd
    cases av <;> cases h3
    · obtain ⟨p, xs, e3, e4, e5⟩ := e2
      refine key p xs e3 (I1.vh _ _ e4) e5 ?_
      intro z
      have := (I1.out p (drs_sub p z)).1
      rw [e4] at this
      cases this
    · obtain ⟨p, xs, e3, e4, e5⟩ := e2
      exact key p xs e3 e4 e5 (np p (by rw [e3]; exact List.mem_singleton.mpr rfl))
def intQ (Q : Int → Prop) : D → Prop
  | .int i => Q i
  | _ => False
theorem intQ_of {Q : Int → Prop} {d : D} (h : intQ Q d) : ∃ i, d = .int i ∧ Q i := by
  cases d <;> first | exact ⟨_, rfl, h⟩ | exact h.elim
def oneQ (Q : D → Prop) : List D → Prop
  | [d] => Q d
  | _ => False
theorem oneQ_of {Q : D → Prop} {ds : List D} (h : oneQ Q ds) : ∃ d, ds = [d] ∧ Q d := by
  unfold oneQ at h
  split at h
  · exact ⟨_, rfl, h⟩
  · exact h.elim
theorem paired1 {α β : Type} {F : α → β → Prop} {x : α} {vs : List β} (h : Paired F [x] vs) : ∃ v, vs = [v] ∧ F x v := by
  cases h with
  | cons h t => cases t; exact ⟨_, rfl, h⟩
theorem paired2 {α β : Type} {F : α → β → Prop} {x y : α} {vs : List β} (h : Paired F [x, y] vs) : ∃ v w, vs = [v, w] ∧ F x v ∧ F y w := by
  cases h with
  | cons h t =>
    obtain ⟨w, rfl, k⟩ := paired1 t
    exact ⟨_, w, rfl, h, k⟩
def rngD (lo : Int) (n : Nat) : List D := (List.range n).map fun i => .int (lo + (i : Nat))
def aRng1 (r : AL) : AL := fun ρ Q X => r ρ (oneQ (intQ fun j => (-(2 ^ 62) ≤ j ∧ j < 2 ^ 62) ∧ Q (rngD 0 j.toNat))) X
def aRng2 (r : AL) : AL := fun ρ Q X => r ρ (twoQ fun d e => intQ (fun i => intQ (fun j => (-(2 ^ 62) ≤ i ∧ i < 2 ^ 62 ∧ -(2 ^ 62) ≤ j ∧ j < 2 ^ 62) ∧ Q (rngD i (j - i).toNat)) e) d) X
theorem walks_rng {K : PySem.W.Frag} {G : Hp → Prop} (lo : Int) (n : Nat) : Walks K U (Itr lo n) (rngD lo n) G := by
  refine ⟨YFn fun i => .int (lo + i), ?_, fun i H x H' d U2 s s2 y e => ?_⟩
  · rw [show (rngD lo n).length = n by unfold rngD; rw [List.length_map, List.length_range]]
    exact walk_range.mono (fun _ _ => trivial) (fun _ _ _ _ _ _ y => y)
  · obtain ⟨rfl, rfl⟩ := y
    refine ⟨U2, Gr.refl s2, ?_⟩
    unfold rngD at e
    rw [List.getElem?_map] at e
    cases e2 : (List.range n)[i]? with
    | none => rw [e2] at e; cases e
    | some k =>
      rw [e2] at e
      obtain ⟨hk, e3⟩ := List.getElem?_eq_some_iff.mp e2
      rw [List.getElem_range] at e3
      subst e3
      cases e
      rfl
theorem sim_rng1 {tr : TA} {r : AL} (h : SimLW c tr r) : SimI c (iRng1 tr) (aRng1 r) := fun U H σ ρ Q q I z k => h U H σ ρ _ _ I z fun U1 H1 ds vs g1 I1 w1 z1 => by
  obtain ⟨d, rfl, z2⟩ := oneQ_of z1
  obtain ⟨j, rfl, z3⟩ := intQ_of z2
  obtain ⟨v, rfl, w⟩ := paired1 w1
  exact ⟨j, by rw [(Wk.cr w I1).int], z3.1.1, z3.1.2, k U1 H1 _ _ g1 I1 (walks_rng 0 j.toNat) z3.2⟩
theorem sim_rng2 {tr : TA} {r : AL} (h : SimLW c tr r) : SimI c (iRng2 tr) (aRng2 r) := fun U H σ ρ Q q I z k => h U H σ ρ _ _ I z fun U1 H1 ds vs g1 I1 w1 z1 => by
  obtain ⟨d, e, rfl, z2⟩ := twoQ_of z1
  obtain ⟨i, rfl, z3⟩ := intQ_of z2
  obtain ⟨j, rfl, z4⟩ := intQ_of z3
  obtain ⟨v, w', rfl, w, w'⟩ := paired2 w1
  exact ⟨i, j, by rw [(Wk.cr w I1).int, (Wk.cr w' I1).int], z4.1, k U1 H1 _ _ g1 I1 (walks_rng i (j - i).toNat) z4.2⟩
/-! pairs -/
def zipD (xs ys : List D) : List D := (xs.zip ys).map fun p => .tup [p.1, p.2]
def enumD (xs : List D) : List D := zipD ((List.range xs.length).map fun i => .int (i : Nat)) xs
theorem zipD_at {xs ys : List D} {i : Nat} {d : D} (h : (zipD xs ys)[i]? = some d) : ∃ x y, d = .tup [x, y] ∧ xs[i]? = some x ∧ ys[i]? = some y := by
  unfold zipD at h
  rw [List.getElem?_map] at h
  cases e : (xs.zip ys)[i]? with
  | none => rw [e] at h; cases h
  | some p =>
    rw [e] at h
    obtain ⟨h1, h2⟩ := List.getElem?_zip_eq_some.mp e
    exact ⟨p.1, p.2, (Option.some.inj h).symm, h1, h2⟩
theorem pair_new {K : PySem.W.Frag} {U2 H : Hp} {T : Addr} {x y : V} {d e : D} (s : Same U2 H) (n : H T = none) (r : R K U2 d x) (r' : R K U2 e y) : ∃ U3, Gr [] U2 H U3 (upd H T (.tup [x, y])) ∧ R K U3 (.tup [d, e]) (.ref T) := by
  have g := (Gr.refl (M := []) s).new (o := .tup [x, y]) n
  exact ⟨_, g, R.tup upd_same ⟨x, [y], rfl, R.mono g.vv d x r, y, [], rfl, R.mono g.vv e y r', rfl⟩⟩
def aZip (r : AL) : AL := fun ρ Q X => r ρ (twoQ fun d e => lstQ (fun xs => lstQ (fun ys => Q (zipD xs ys)) e) d) X
def aEnum (r : AL) : AL := fun ρ Q X => r ρ (oneQ (lstQ fun xs => Q (enumD xs))) X
theorem sim_enum {tr : TA} {r : AL} (h : SimL c tr r) : SimI c (iEnum c.K tr) (aEnum r) := fun U H σ ρ Q q I z k => h U H σ ρ _ _ I z fun U1 H1 ds vs g1 I1 r1 z1 => by
  · obtain ⟨d0, rfl, z2⟩ := oneQ_of z1
    obtain ⟨xs, rfl, z1⟩ := lstQ_of z2
    obtain ⟨v, vs', rfl, r2, e0⟩ := r1
    obtain ⟨p, ys, rfl, hp, hr⟩ := r2
    obtain rfl : vs' = [] := e0
    refine ⟨p, ys, rfl, SqL.of (I1.vh _ _ hp), k U1 H1 _ _ g1 I1 ⟨YL (enumL ys), ?_, fun i H x H' d U2 s s2 y e => ?_⟩ z1⟩
    · rw [show (enumD xs).length = (enumL ys).length by unfold enumD zipD; rw [List.length_map, List.length_zip, List.length_map, List.length_range, Nat.min_self, enumL_len, hr.len]]
      exact walk_enumL.mono (fun H s => SqL.of (s _ _ hp)) (fun _ _ _ _ _ _ y => y)
    · obtain ⟨T, x', y', rfl, nT, rfl, ey⟩ := y
      obtain ⟨rfl, ey2⟩ := enumL_at ey
      obtain ⟨a1, b1, rfl, h1, h2⟩ := zipD_at e
      rw [List.getElem?_map] at h1
      obtain ⟨d', e3, r3⟩ := hr.at' i y' ey2
      rw [h2] at e3
      have e' := Option.some.inj e3
      subst e'
      have hi : i < xs.length := (List.getElem?_eq_some_iff.mp h2).1
      rw [List.getElem?_range hi] at h1
      cases h1
      exact pair_new s2 nT rfl (R.mono s _ _ r3)
theorem sim_zip {tr : TA} {r : AL} (h : SimL c tr r) : SimI c (iZip c.K tr) (aZip r) := fun U H σ ρ Q q I z k => h U H σ ρ _ _ I z fun U1 H1 ds vs g1 I1 r1 z1 => by
  · obtain ⟨d0, d1, rfl, z2⟩ := twoQ_of z1
    obtain ⟨xs, rfl, z3⟩ := lstQ_of z2
    obtain ⟨zs, rfl, z1⟩ := lstQ_of z3
    obtain ⟨v, vs', rfl, r2, w, vs'', rfl, r3, e0⟩ := r1
    obtain ⟨p, ys, rfl, hp, hr⟩ := r2
    obtain ⟨p2, ws, rfl, hp2, hr2⟩ := r3
    obtain rfl : vs'' = [] := e0
    refine ⟨p, p2, ys, ws, rfl, SqL.of (I1.vh _ _ hp), SqL.of (I1.vh _ _ hp2), k U1 H1 _ _ g1 I1 ⟨YL (ys.zip ws), ?_, fun i H x H' d U2 s s2 y e => ?_⟩ z1⟩
    · rw [show (zipD xs zs).length = (ys.zip ws).length by unfold zipD; rw [List.length_map, List.length_zip, List.length_zip, hr.len, hr2.len]]
      exact walk_zipL.mono (fun H s => ⟨SqL.of (s _ _ hp), SqL.of (s _ _ hp2)⟩) (fun _ _ _ _ _ _ y => y)
    · obtain ⟨T, x', y', rfl, nT, rfl, ey⟩ := y
      obtain ⟨ex, ey⟩ := List.getElem?_zip_eq_some.mp ey
      obtain ⟨a1, b1, rfl, h1, h2⟩ := zipD_at e
      obtain ⟨d', e3, r3⟩ := hr.at' i x' ex
      obtain ⟨d'', e4, r4⟩ := hr2.at' i y' ey
      rw [h1] at e3
      rw [h2] at e4
      have e' := Option.some.inj e3
      have e'' := Option.some.inj e4
      subst e' e''
      exact pair_new s2 nT (R.mono s _ _ r3) (R.mono s _ _ r4)
/-! ### comprehensions -/
def wipeA (ρ : Env) : List Nat → Env
  | [] => ρ
  | v :: vs => (wipeA ρ vs).set v none
def aComp (g : AG) (tt : AT) (te : AE) (ρ : Env) (X : Exn → Prop) : List D → List D → (List D → Prop) → Prop
  | [], acc, Q => Q acc
  | d :: r, acc, Q => g d ρ (fun ρ2 => tt ρ2 (fun b => cond b (te ρ2 (fun y => acc.length < 1000000 ∧ aComp g tt te ρ X r (acc ++ [y]) Q) X) (aComp g tt te ρ X r acc Q)) X)
def aLc (it : AL) (g : AG) (tt : AT) (te : AE) (vs : List Nat) : AO := fun ρ Q X => it ρ (fun ds => aComp g tt te (wipeA ρ vs) X ds [] (fun acc => Q (.ol acc))) X
def aYes : AT := fun _ Q _ => Q true
theorem sim_yes : SimT c tYes aYes := fun U H σ ρ Q q I z k => k U H true (Gr.refl I.vh) I z
theorem DI.setN (h : DI c U H σ ρ) {i : Nat} (hi : noPar c i = true) : DI c U H (σ.set i none) (ρ.set i none) := by
  have hs := owns_set_sub ρ σ i none none rfl
  refine ⟨h.gr, Paired.setAt (F := RepS c.K U H) (show RepS c.K U H none none from trivial) i h.rep, hs.nodup h.nd, fun p hp => h.out p (hs.mem hp), par_set (fun x hx => ?_) h.par, h.ko, fun k av w hk e1 e2 p hp => ?_⟩
  · exact ⟨List.getElem?_set_ne (noPar_of hi x hx).symm, List.getElem?_set_ne (noPar_of hi x hx).symm⟩
  · by_cases z : i = k
    · subst z
      rw [List.getElem?_set] at e1
      simp at e1
    · rw [List.getElem?_set_ne z] at e1 e2
      exact h.nw k av w hk e1 e2 p hp
theorem DI.wipe (h : DI c U H σ ρ) : ∀ {vs : List Nat}, (vs.all fun i => noPar c i) = true → DI c U H (L2.wipe σ vs) (wipeA ρ vs) ∧ ∀ p ∈ drs (wipeA ρ vs) (L2.wipe σ vs), p ∈ drs ρ σ
  | [], _ => ⟨h, fun _ z => z⟩
  | v :: vs, k => by
    rw [List.all_cons, Bool.and_eq_true] at k
    obtain ⟨i1, i2⟩ := DI.wipe h (vs := vs) k.2
    exact ⟨i1.setN k.1, fun p hp => i2 p (drs_set _ _ v none none rfl p hp)⟩
theorem wipe_at : ∀ {σ : L2.St} {vs : List Nat} (k : Nat), (wipe σ vs)[k]? = if k ∈ vs then (if k < σ.length then some none else none) else σ[k]?
  | σ, [], k => by simp [wipe]
  | σ, v :: vs, k => by
    unfold wipe
    rw [List.getElem?_set, wipe_length, wipe_at k]
    by_cases h : v = k
    · subst h
      simp
    · have h' : ¬ k = v := fun z => h z.symm
      simp [h, h']
theorem wipe_put {js vs : List Nat} {σ σ' : L2.St} {ρ ρ' : Env} (p : Put js (wipe σ vs) σ' ρ ρ') (h : ∀ j ∈ js, j ∈ vs) : wipe σ' vs = wipe σ vs := by
  refine List.ext_getElem? fun k => ?_
  rw [wipe_at, p.len, wipe_length]
  by_cases hk : k ∈ vs
  · rw [if_pos hk, wipe_at, if_pos hk]
  · rw [if_neg hk, p.at' k fun z => hk (h k z)]
theorem DI.mutFree {p : Addr} {x : HO} (I : DI c U H σ ρ) (nu : U p = none) (n0 : c.H0 p = none) (np : p ∉ owns ρ σ) : DI c U (upd H p x) σ ρ :=
  ⟨I.gr.mut nu (.inr n0), reps_mut nu np I.rep, I.nd, I.out, I.par, I.ko, I.nw⟩
theorem sim_lc {js vs : List Nat} {wi : TI} {it : AL} {g : TG} {ag : AG} (hi : SimIW c wi it) (hg : SimG c js g ag) (ht : SimT c tt at') (he : SimE c te e) (hj : (js.all fun j => vs.contains j) = true) (hv : (vs.all fun i => noPar c i) = true) :
    SimO c (tLc wi g tt te vs) (aLc it ag at' e vs) := fun U H σ ρ Q q I z k => by
  refine hi U H σ ρ _ _ I z fun U1 H1 J ds g1 I1 W z1 => ?_
  obtain ⟨Y, w, hY⟩ := W
  intro Da nD
  have nD0 : H Da = none := g1.fresh nD
  have nDo : Da ∉ owns ρ σ := fun h => I1.ex Da h nD
  have nDd : Da ∉ drs ρ σ := fun h => nDo (drs_sub Da h)
  have nDH : c.H0 Da = none := I1.gr.fresh nD
  have hjs : ∀ j ∈ js, j ∈ vs := fun j hj' => by
    have := List.all_eq_true.mp hj j hj'
    exact List.contains_iff_mem.mp this
  refine lc_it (Qd := fun H' => q (.ref Da) H') w (fun n H' => ∃ U' acc accD, Gr (drs ρ σ) U1 H1 U' H' ∧ DI c U' H' σ ρ ∧ H' Da = some (.lst acc) ∧ U' Da = none ∧ Rs c.K U' accD acc ∧ aComp ag at' e (wipeA ρ vs) c.X (ds.drop n) accD (fun acc => Q (.ol acc))) ?_ ?_ ?_ ?_
  · have g2 : Gr [] U1 H1 U1 (upd H1 Da (.lst [])) := (Gr.refl I1.vh).newM nD
    exact ⟨U1, [], [], g2.any, I1.grow g2, upd_same, I1.vh.free nD, rfl, z1⟩
  · rintro n H' hn ⟨U', acc, accD, gg, _⟩
    exact ⟨U', gg⟩
  · rintro n x H' H'' hn ⟨U', acc, accD, gg, I', hD, uD, hr, z2⟩ hy
    have ed : ds[n]? = some ds[n] := List.getElem?_eq_getElem hn
    obtain ⟨U3, g3, r3⟩ := hY n H' x H'' _ U' gg.vv I'.vh hy ed
    rw [drop_at ed] at z2
    have I3 := I'.grow g3
    obtain ⟨Iw, hdr⟩ := I3.wipe hv
    refine hg U3 H'' _ _ _ x _ _ Iw r3 z2 fun σ2 ρ2 I2 p2 z3 => ⟨wipe_put p2 hjs, ?_⟩
    have dr2 : ∀ p ∈ drs ρ2 σ2, p ∈ drs ρ σ := fun p hp => hdr p (p2.dr p hp)
    have uD3 : U3 Da = none := g3.fr Da uD (by rw [hD]; intro z; cases z)
    have hD3 := g3.hh _ _ (by simp) hD
    have drOf : ∀ {U5 H5 : Hp}, DI c U5 H5 σ2 ρ2 → ∀ p ∈ drs ρ2 σ2, p ∈ drs ρ σ ∧ Dr U5 H5 p := fun {U5 H5} I5 p hp => ⟨dr2 p hp, by
      have : ∀ {ρ : Env} {σ : L2.St}, Paired (RepS c.K U5 H5) ρ σ → ∀ p ∈ drs ρ σ, Dr U5 H5 p := by
        intro ρ σ h
        induction h with
        | nil => intro p hp; simp [drs] at hp
        | @cons a b ρ σ h t ih =>
          intro p hp
          have hp' : p ∈ drS a b ++ drs ρ σ := hp
          rcases List.mem_append.mp hp' with z | z
          · unfold drS at z
            split at z
            · obtain ⟨s, e1, e2⟩ := h
              have e' := V.ref.inj e1
              subst e'
              rw [List.mem_singleton.mp z]
              exact e2
            · cases z
          · exact ih p z
      exact this I5.rep p hp⟩
    refine ht U3 H'' σ2 ρ2 _ _ I2 z3 fun U5 H5 bo g5 I5 z5 => ?_
    have I5o := I3.step g5 (drOf I5)
    have n5 : Da ∉ drs ρ2 σ2 := fun h => nDd (dr2 Da h)
    have hD5 := g5.hh _ _ n5 hD3
    have uD5 : U5 Da = none := g5.fr Da uD3 (by rw [hD3]; intro z; cases z)
    have gg5 : Gr (drs ρ σ) U1 H1 U5 H5 := (gg.trans g3.any).trans (g5.weak dr2)
    cases bo with
    | false => exact i_itF ⟨U5, acc, accD, gg5, I5o, hD5, uD5, Rs.mono (g3.vv.trans g5.vv) _ _ hr, z5⟩
    | true =>
      refine i_itT (he U5 H5 σ2 ρ2 _ _ I5 z5 fun U6 H6 y vy g6 I6 r6 z6 => ?_)
      have I6o := I5o.step g6 (drOf I6)
      have hD6 := g6.hh _ _ n5 hD5
      have uD6 : U6 Da = none := g6.fr Da uD5 (by rw [hD5]; intro z; cases z)
      have hr6 := Rs.mono ((g3.vv.trans g5.vv).trans g6.vv) _ _ hr
      refine ⟨acc, hD6, lt_size (by rw [← hr.len]; exact z6.1), U6, acc ++ [vy], accD ++ [y], (gg5.trans (g6.weak dr2)).mut uD6 (.inr nD), I6o.mutFree uD6 nDH nDo, upd_same, uD6, hr6.snoc r6, z6.2⟩
  · rintro H' ⟨U', acc, accD, gg, I', hD, uD, hr, z2⟩
    rw [List.drop_length] at z2
    refine k U' H' (.ol accD) (.ref Da) (g1.trans gg) I' ⟨Da, acc, rfl, hD, hr⟩ (fun p hp => ?_) z2
    rw [List.mem_singleton.mp hp]
    exact ⟨uD, nD0⟩
end
end SW

namespace SW
open PySem PySem.Spec PyProof.Rows L2
/-! ### a def by its body -/
def AV.isDr : AV → Bool
  | .dr => true
  | _ => false
def piOf : Nat → List Bool → List Nat
  | i, true :: ks => i :: piOf (i + 1) ks
  | i, false :: ks => piOf (i + 1) ks
  | _, [] => []
def bodyA (ks : List Bool) (nl : Nat) (a : AS) : AF := fun avs q x => avs.map AV.isDr = ks ∧ a ⟨fun _ => q (.fz .non), fun av _ => q av, fun _ => False, fun _ => False, x⟩ (avs.map some ++ List.replicate nl none)
theorem owns_args : ∀ (avs : List AV) (vs : List V) (n m : Nat), avs.length = vs.length → owns (avs.map some ++ List.replicate n none) (vs.map some ++ List.replicate m none) = ownA avs vs
  | [], [], n, m, _ => by
    induction n generalizing m with
    | zero => rfl
    | succ n ih =>
      cases m with
      | zero => rfl
      | succ m => exact ih m
  | a :: avs, v :: vs, n, m, h => by
    show own a v ++ owns (avs.map some ++ List.replicate n none) (vs.map some ++ List.replicate m none) = own a v ++ ownA avs vs
    rw [owns_args avs vs n m (Nat.succ.inj h)]
theorem reps_args {K : PySem.W.Frag} {U H : Hp} (n : Nat) : ∀ {avs : List AV} {vs : List V}, Paired (RepA K U H) avs vs → Paired (RepS K U H) (avs.map some ++ List.replicate n none) (vs.map some ++ List.replicate n none)
  | _, _, .nil => by
    induction n with
    | zero => exact .nil
    | succ n ih => exact .cons trivial ih
  | _, _, .cons h t => .cons h (reps_args n t)
theorem par_args {K : PySem.W.Frag} {U H : Hp} : ∀ {avs : List AV} {vs : List V} {ρ : Env} {σ : L2.St} (k : Nat), Paired (RepA K U H) avs vs → (∀ a ∈ avs, a = .dr ∨ ∃ d, a = .fz d) → (∀ i, ρ[k + i]? = (avs.map some ++ ρ.drop (k + avs.length))[i]?) → (∀ i, σ[k + i]? = (vs.map some ++ σ.drop (k + vs.length))[i]?) →
    Paired (ParOk ρ σ) (piOf k (avs.map AV.isDr)) (ownA avs vs)
  | _, _, ρ, σ, k, .nil, _, _, _ => .nil
  | a :: avs, v :: vs, ρ, σ, k, .cons h t, hk, h1, h2 => by
    have rest := par_args (ρ := ρ) (σ := σ) (k + 1) t (fun x hx => hk x (List.mem_cons_of_mem _ hx)) (fun i => by
      have := h1 (i + 1)
      rw [show k + (i + 1) = k + 1 + i by omega] at this
      rw [this, List.map_cons, List.cons_append, List.getElem?_cons_succ, List.length_cons, show k + (avs.length + 1) = k + 1 + avs.length by omega]) (fun i => by
      have := h2 (i + 1)
      rw [show k + (i + 1) = k + 1 + i by omega] at this
      rw [this, List.map_cons, List.cons_append, List.getElem?_cons_succ, List.length_cons, show k + (vs.length + 1) = k + 1 + vs.length by omega])
    rcases hk a List.mem_cons_self with rfl | ⟨d, rfl⟩
    · obtain ⟨s, rfl, _⟩ := h
      exact .cons ⟨by have := h1 0; exact this, by have := h2 0; exact this⟩ rest
    · exact rest
theorem run_body {K : PySem.W.Frag} {ks : List Bool} {nl : Nat} {a : AS} {vs : List V} {H : Hp} {Q : VK} {E : XK} {t : TS} {σ : L2.St} (h : spD K (bodyA ks nl a) vs H Q E) (hσ : σ = vs.map some ++ List.replicate nl none) (hs : ∀ M U0 H0 X, SimS ⟨K, piOf 0 ks, M, U0, H0, X, E⟩ t a) :
    t { nx := fun _ H' => Q .non H', rt := Q } σ H := by
  obtain ⟨U, avs, q, x, sU, rep, kd, l1, ⟨hk, hb⟩, kq, kx⟩ := h
  subst hσ
  have lv : avs.length = vs.length := rep.length
  have dr := dr_args rep kd
  refine hs (ownA avs vs) U H x U H (vs.map some ++ List.replicate nl none) (avs.map some ++ List.replicate nl none) _ _ rfl ⟨Gr.refl sU, reps_args nl rep, ?_, ?_, ?_, ?_, ?_⟩ hb ⟨?_, ?_, ?_, ?_⟩
  · rw [owns_args avs vs nl nl lv]
    match ownA avs vs, l1 with
    | [], _ => simp
    | [p], _ => simp
  · rw [owns_args avs vs nl nl lv]
    exact fun p hp => ⟨(dr p hp).out, .inl hp⟩
  · show Paired _ (piOf 0 ks) (ownA avs vs)
    rw [← hk]
    refine par_args 0 rep kd (fun i => ?_) (fun i => ?_)
    · rw [Nat.zero_add, Nat.zero_add, List.drop_left' (by rw [List.length_map])]
    · rw [Nat.zero_add, Nat.zero_add, List.drop_left' (by rw [List.length_map])]
  · exact fun U' H' ex cls o g d xr z => kx U' H' ex cls o g xr d z
  · intro i av v hn e1 e2 p hp
    rw [List.getElem?_append, List.length_map] at e1
    split at e1
    · rename_i hi
      rw [List.getElem?_map] at e1
      cases ea : avs[i]? with
      | none => rw [ea] at e1; cases e1
      | some av' =>
        rw [ea] at e1
        cases e1
        rcases kd av (List.mem_of_getElem? ea) with rfl | ⟨d, rfl⟩
        · exfalso
          have mem : ∀ (ks : List Bool) (k i : Nat), ks[i]? = some true → k + i ∈ piOf k ks := by
            intro ks
            induction ks with
            | nil => intro k i h; simp at h
            | cons b ks ih =>
              intro k i h
              cases i with
              | zero =>
                cases h
                exact List.mem_cons_self
              | succ i =>
                have := ih (k + 1) i h
                rw [show k + 1 + i = k + (i + 1) by omega] at this
                cases b with
                | true => exact List.mem_cons_of_mem _ this
                | false => exact this
          have m := mem ks 0 i (by rw [← hk, List.getElem?_map, ea]; rfl)
          rw [Nat.zero_add] at m
          exact noPar_of hn i m rfl
        · cases hp
    · rw [List.getElem?_replicate] at e1
      split at e1 <;> cases e1
  · exact fun U' H' σ' ρ' _ I z => kq U' H' (.fz .non) .non I.gr rfl (fun p hp => by cases hp) I.drM z
  · exact fun U' H' σ' ρ' av v I r n z => kq U' H' av v I.gr r (fun p hp => ⟨(n p hp).1, (n p hp).2.1⟩) I.drM z
  · exact fun U' H' σ' ρ' _ I z => z.elim
  · exact fun U' H' σ' ρ' _ I z => z.elim
theorem spD_len {K : PySem.W.Frag} {ks : List Bool} {nl : Nat} {a : AS} {vs : List V} {H : Hp} {Q : VK} {E : XK} (h : spD K (bodyA ks nl a) vs H Q E) : vs.length = ks.length := by
  obtain ⟨U, avs, q, x, sU, rep, kd, l1, ⟨hk, hb⟩, kq, kx⟩ := h
  rw [← rep.length, ← hk, List.length_map]
end SW

namespace SW
open PySem PySem.Spec PyProof.Rows L2
section
variable {K : PySem.W.Frag} {U H U' H' : Hp}
/-! ### operators of numbers -/
def oI (g : Int → Int → D) : D → D → (D → Prop) → Prop := fun d e Q => intQ (fun i => intQ (fun j => Q (g i j)) e) d
def oIC (C : Int → Int → Prop) (g : Int → Int → D) : D → D → (D → Prop) → Prop := fun d e Q => intQ (fun i => intQ (fun j => C i j ∧ Q (g i j)) e) d
theorem op_i0 {gV : Int → Int → V} {gD : Int → Int → D} (h : ∀ i j U, R K U (gD i j) (gV i j)) : OpD K (rI0 gV) (oI gD) := fun U H v w d e Q q s cd ce z k => by
  obtain ⟨i, rfl, y⟩ := intQ_of z
  obtain ⟨j, rfl, y2⟩ := intQ_of y
  exact ⟨i, j, cd.int, ce.int, k U H _ _ (Gr.refl s) (h i j U) y2⟩
theorem op_ic {C : Int → Int → Prop} {gV : Int → Int → V} {gD : Int → Int → D} (h : ∀ i j U, R K U (gD i j) (gV i j)) : OpD K (rI C gV) (oIC C gD) := fun U H v w d e Q q s cd ce z k => by
  obtain ⟨i, rfl, y⟩ := intQ_of z
  obtain ⟨j, rfl, z1, y2⟩ := intQ_of y
  exact ⟨i, j, cd.int, ce.int, z1, k U H _ _ (Gr.refl s) (h i j U) y2⟩
theorem op_ip {f : Int → Int → Int} : OpD K (ipI f) (oI fun i j => .int (f i j)) := op_i0 (gV := fun i j => .int (f i j)) fun _ _ _ => rfl
def oU (g : Int → D) : D → (D → Prop) → Prop := fun d Q => intQ (fun i => Q (g i)) d
theorem un_i {gV : Int → V} {gD : Int → D} (h : ∀ i U, R K U (gD i) (gV i)) : UnD K (rU gV) (oU gD) := fun U H v d Q q s cd z k => by
  obtain ⟨i, rfl, z⟩ := intQ_of z
  exact ⟨i, cd.int, k U H _ _ (Gr.refl s) (h i U) z⟩
abbrev oAdd := oI fun i j => .int (i + j)
abbrev oSub := oI fun i j => .int (i - j)
abbrev oMul := oIC CMul fun i j => .int (i * j)
abbrev oDiv := oIC CDiv fun i j => .int (i / j)
abbrev oDivW := oIC CDivW fun i j => .int (i / j)
abbrev oMod := oIC (fun _ j => 0 < j) fun i j => .int (i % j)
abbrev oPow := oIC CPow fun i j => .int (i ^ j.toNat)
abbrev oLt := oI fun i j => .bl (decide (i < j))
abbrev oLe := oI fun i j => .bl (decide (i ≤ j))
abbrev oGt := oI fun i j => .bl (decide (j < i))
abbrev oGe := oI fun i j => .bl (decide (j ≤ i))
abbrev oNeg := oU fun i => .int (-i)
/-! ### == of flat values; is None -/
def eqS : D → D → Option Bool
  | .int a, .int b => some (decide (a = b))
  | .str a, .str b => some (decide (a = b))
  | .bl a, .bl b => some (decide (a = b))
  | .non, .non => some true
  | .non, .int _ => some false
  | .int _, .non => some false
  | .non, .bl _ => some false
  | .bl _, .non => some false
  | .non, .str _ => some false
  | .str _, .non => some false
  | .int _, .str _ => some false
  | .str _, .int _ => some false
  | .bl _, .str _ => some false
  | .str _, .bl _ => some false
  | _, _ => none
def someQ {α : Type} (Q : α → Prop) : Option α → Prop
  | some x => Q x
  | none => False
theorem someQ_of {α : Type} {Q : α → Prop} {o : Option α} (h : someQ Q o) : ∃ x, o = some x ∧ Q x := by
  cases o with
  | none => exact h.elim
  | some x => exact ⟨x, rfl, h⟩
theorem decide_inj {α β : Type} [DecidableEq α] [DecidableEq β] {f : α → β} (hf : ∀ a b, f a = f b → a = b) (a b : α) : decide (f a = f b) = decide (a = b) := by
  by_cases h : a = b
  · rw [decide_eq_true h, decide_eq_true (congrArg f h)]
  · rw [decide_eq_false h, decide_eq_false (fun z => h (hf a b z))]
theorem eqS_of {d e : D} {v w : V} {b : Bool} (cd : CR K U H d v) (ce : CR K U H e w) (h : eqS d e = some b) : scal v w = true ∧ decide (v = w) = b := by
  unfold eqS at h
  split at h <;> first
    | (cases h; rw [cd.int, ce.int]; exact ⟨rfl, decide_inj (fun _ _ => V.int.inj) _ _⟩)
    | (cases h; rw [cd.str, ce.str]; exact ⟨rfl, decide_inj (fun _ _ => V.str.inj) _ _⟩)
    | (cases h; rw [cd.bl, ce.bl]; exact ⟨rfl, decide_inj (fun _ _ => V.bl.inj) _ _⟩)
    | (cases h; rw [cd.non, ce.non]; exact ⟨rfl, rfl⟩)
    | (cases h; rw [cd.non, ce.int]; exact ⟨rfl, rfl⟩)
    | (cases h; rw [cd.int, ce.non]; exact ⟨rfl, rfl⟩)
    | (cases h; rw [cd.non, ce.bl]; exact ⟨rfl, rfl⟩)
    | (cases h; rw [cd.bl, ce.non]; exact ⟨rfl, rfl⟩)
    | (cases h; rw [cd.non, ce.str]; exact ⟨rfl, rfl⟩)
    | (cases h; rw [cd.str, ce.non]; exact ⟨rfl, rfl⟩)
    | (cases h; rw [cd.int, ce.str]; exact ⟨rfl, rfl⟩)
    | (cases h; rw [cd.str, ce.int]; exact ⟨rfl, rfl⟩)
    | (cases h; rw [cd.bl, ce.str]; exact ⟨rfl, rfl⟩)
    | (cases h; rw [cd.str, ce.bl]; exact ⟨rfl, rfl⟩)
    | cases h
def oEq : D → D → (D → Prop) → Prop := fun d e Q => someQ (fun b => Q (.bl b)) (eqS d e)
def oNe : D → D → (D → Prop) → Prop := fun d e Q => someQ (fun b => Q (.bl (!b))) (eqS d e)
theorem op_eqS : OpD K rEq oEq := fun U H v w d e Q q s cd ce z k => by
  obtain ⟨b, h, z⟩ := someQ_of z
  obtain ⟨h1, h2⟩ := eqS_of cd ce h
  refine ⟨h1, ?_⟩
  rw [h2]
  exact k U H (.bl b) _ (Gr.refl s) rfl z
theorem op_neS : OpD K rNe oNe := fun U H v w d e Q q s cd ce z k => by
  obtain ⟨b, h, z⟩ := someQ_of z
  obtain ⟨h1, h2⟩ := eqS_of cd ce h
  refine ⟨h1, ?_⟩
  rw [h2]
  exact k U H (.bl (!b)) _ (Gr.refl s) rfl z
def isNonD : D → Bool
  | .non => true
  | _ => false
theorem isNon_of {d : D} {v : V} (s : Same U H) (cd : CR K U H d v) : decide (v = .non) = isNonD d := by
  cases d with
  | int i => rw [cd.int]; rfl
  | bl b => rw [cd.bl]; rfl
  | str x => rw [cd.str]; rfl
  | non => rw [cd.non]; rfl
  | ty n => rw [cd.ty]; rfl
  | tup ds => obtain ⟨a, xs, rfl, _⟩ := cd.tup s; rfl
  | lst ds => obtain ⟨a, xs, rfl, _⟩ := cd.lst s; rfl
  | dK ks ds => obtain ⟨a, xs, rfl, _⟩ := cd.dK s; rfl
  | dT ks ds => obtain ⟨a, xs, rfl, _⟩ := cd.dT s; rfl
  | obj C ns ds => obtain ⟨a, dx, xs, rfl, _⟩ := cd.obj s; rfl
def nonQ (P : Prop) : D → Prop
  | .non => P
  | _ => False
theorem nonQ_of {P : Prop} {d : D} (h : nonQ P d) : d = .non ∧ P := by
  cases d <;> first | exact ⟨rfl, h⟩ | exact h.elim
def oIsN : D → D → (D → Prop) → Prop := fun d e Q => nonQ (Q (.bl (isNonD d))) e
def oNotN : D → D → (D → Prop) → Prop := fun d e Q => nonQ (Q (.bl (!isNonD d))) e
theorem op_isND : OpD K (fun x y H Q => y = .non ∧ Q (.bl (decide (x = .non))) H) oIsN := fun U H v w d e Q q s cd ce z k => by
  obtain ⟨rfl, z⟩ := nonQ_of z
  refine ⟨ce.non, ?_⟩
  rw [isNon_of s cd]
  exact k U H (.bl _) _ (Gr.refl s) rfl z
theorem op_notND : OpD K (fun x y H Q => y = .non ∧ Q (.bl (!decide (x = .non))) H) oNotN := fun U H v w d e Q q s cd ce z k => by
  obtain ⟨rfl, z⟩ := nonQ_of z
  refine ⟨ce.non, ?_⟩
  rw [isNon_of s cd]
  exact k U H (.bl _) _ (Gr.refl s) rfl z
/-! ### flat values within rows -/
def flatD : D → Bool
  | .non => true
  | .bl _ => true
  | .int _ => true
  | .str _ => true
  | _ => false
def eqF : D → D → Bool
  | .non, .non => true
  | .bl a, .bl b => a == b
  | .bl a, .int b => (if a then 1 else 0) == b
  | .int a, .bl b => a == (if b then 1 else 0)
  | .int a, .int b => a == b
  | .str a, .str b => a == b
  | _, _ => false
theorem flat_r {d : D} {v : V} (h : flatD d = true) (r : R K U d v) : flatV v = true := by
  cases d <;> first | (rw [show v = _ from r]; rfl) | cases h
theorem eqF_r {d e : D} {v w : V} (h : flatD d = true) (h' : flatD e = true) (r : R K U d v) (r' : R K U e w) : eqV v w = eqF d e := by
  cases d <;> first | (rw [show v = _ from r]; cases e <;> first | (rw [show w = _ from r']; rfl) | cases h') | cases h
def inF (d : D) (ds : List D) : Bool := ds.any fun y => eqF y d
theorem inF_r {d : D} {v : V} (hd : flatD d = true) (r : R K U d v) : ∀ {ds : List D} {xs : List V}, Rs K U ds xs → ds.all flatD = true → xs.all flatV = true ∧ inV v xs = inF d ds
  | [], _, h, _ => by
    rw [show _ = [] from h]
    exact ⟨rfl, rfl⟩
  | e :: ds, _, ⟨w, ws, h1, h2, h3⟩, hf => by
    subst h1
    rw [List.all_cons, Bool.and_eq_true] at hf
    obtain ⟨k1, k2⟩ := inF_r hd r h3 hf.2
    refine ⟨by rw [List.all_cons, flat_r hf.1 h2, k1]; rfl, ?_⟩
    show (eqV w v || inV v ws) = (eqF e d || inF d ds)
    rw [k2, eqF_r hf.1 hd h2 r]
def seqQ (Q : List D → Prop) : D → Prop
  | .lst ds => Q ds
  | .tup ds => Q ds
  | _ => False
theorem seqQ_of {Q : List D → Prop} {d : D} (h : seqQ Q d) : ∃ ds, (d = .lst ds ∨ d = .tup ds) ∧ Q ds := by
  cases d <;> first | exact ⟨_, .inl rfl, h⟩ | exact ⟨_, .inr rfl, h⟩ | exact h.elim
theorem CR.flat {d : D} {v : V} (h : CR K U H d v) (f : flatD d = true) : R K U d v := by
  obtain ⟨av, h1, h2⟩ := h
  cases av <;> first | (cases h2; exact h1) | (cases h2; cases f) | cases h2
theorem CR.seq {d : D} {v : V} {ds : List D} (h : CR K U H d v) (s : Same U H) (e : d = .lst ds ∨ d = .tup ds) : ∃ a xs, v = .ref a ∧ (SqL K H a xs ∨ SqT K H a xs) ∧ Rs K U ds xs := by
  rcases e with rfl | rfl
  · obtain ⟨a, xs, h1, h2, h3⟩ := h.lst s
    exact ⟨a, xs, h1, .inl (SqL.of h2), h3⟩
  · obtain ⟨a, xs, h1, h2, h3⟩ := h.tup s
    exact ⟨a, xs, h1, .inr h2, h3⟩
def oIn : D → D → (D → Prop) → Prop := fun d e Q => seqQ (fun ds => flatD d = true ∧ ds.all flatD = true ∧ Q (.bl (inF d ds))) e
def oNotIn : D → D → (D → Prop) → Prop := fun d e Q => seqQ (fun ds => flatD d = true ∧ ds.all flatD = true ∧ Q (.bl (!inF d ds))) e
theorem op_inS' : OpD K (rIn K false) oIn := fun U H v w d e Q q s cd ce z k => by
  obtain ⟨ds, he, z1, z2, z⟩ := seqQ_of z
  obtain ⟨a, xs, rfl, h1, h2⟩ := ce.seq s he
  have r := cd.flat z1
  obtain ⟨k1, k2⟩ := inF_r z1 r h2 z2
  refine ⟨a, xs, rfl, h1, flat_r z1 r, k1, ?_⟩
  rw [k2]
  exact k U H (.bl _) _ (Gr.refl s) rfl z
theorem op_notInS' : OpD K (rIn K true) oNotIn := fun U H v w d e Q q s cd ce z k => by
  obtain ⟨ds, he, z1, z2, z⟩ := seqQ_of z
  obtain ⟨a, xs, rfl, h1, h2⟩ := ce.seq s he
  have r := cd.flat z1
  obtain ⟨k1, k2⟩ := inF_r z1 r h2 z2
  refine ⟨a, xs, rfl, h1, flat_r z1 r, k1, ?_⟩
  rw [k2]
  exact k U H (.bl _) _ (Gr.refl s) rfl z
/-! ### x[k] -/
theorem atI_r {ds : List D} {xs : List V} {k : Int} {d : D} (r : Rs K U ds xs) (h : atI ds k = some d) : ∃ v, atI xs k = some v ∧ R K U d v := by
  unfold atI at h ⊢
  rw [← r.len]
  cases e : ixN ds.length k with
  | none => rw [e] at h; cases h
  | some j =>
    rw [e] at h
    obtain ⟨v, h1, h2⟩ := r.at j d h
    exact ⟨v, h1, h2⟩
def oIxL : D → D → (D → Prop) → Prop := fun d e Q => lstQ (fun ds => intQ (fun k => someQ Q (atI ds k)) e) d
def oIxT : D → D → (D → Prop) → Prop := fun d e Q => tupQ (fun ds => intQ (fun k => someQ Q (atI ds k)) e) d
theorem op_ixL : OpD K (rIxL K) oIxL := fun U H v w d e Q q s cd ce z k => by
  obtain ⟨ds, rfl, z⟩ := lstQ_of z
  obtain ⟨i, rfl, z⟩ := intQ_of z
  obtain ⟨x, h, z⟩ := someQ_of z
  obtain ⟨a, xs, rfl, h1, h2⟩ := cd.lst s
  obtain ⟨u, e1, e2⟩ := atI_r h2 h
  exact ⟨a, xs, i, u, rfl, ce.int, SqL.of h1, e1, k U H x u (Gr.refl s) e2 z⟩
theorem op_ixT : OpD K (rIxT K) oIxT := fun U H v w d e Q q s cd ce z k => by
  obtain ⟨ds, rfl, z⟩ := tupQ_of z
  obtain ⟨i, rfl, z⟩ := intQ_of z
  obtain ⟨x, h, z⟩ := someQ_of z
  obtain ⟨a, xs, rfl, h1, h2⟩ := cd.tup s
  obtain ⟨u, e1, e2⟩ := atI_r h2 h
  exact ⟨a, xs, i, u, rfl, ce.int, h1, e1, k U H x u (Gr.refl s) e2 z⟩
def strQ (Q : Str → Prop) : D → Prop
  | .str x => Q x
  | _ => False
theorem strQ_of {Q : Str → Prop} {d : D} (h : strQ Q d) : ∃ x, d = .str x ∧ Q x := by
  cases d <;> first | exact ⟨_, rfl, h⟩ | exact h.elim
def oIxS : D → D → (D → Prop) → Prop := fun d e Q => strQ (fun x => x.length ≤ 1000000 ∧ intQ (fun k => someQ (fun c => Q (.str ⟨#[c]⟩)) (atI x.cps.toList k)) e) d
theorem op_ixS : OpD K rIxS oIxS := fun U H v w d e Q q s cd ce z k => by
  obtain ⟨x, rfl, z1, z⟩ := strQ_of z
  obtain ⟨i, rfl, z⟩ := intQ_of z
  obtain ⟨c, h, z⟩ := someQ_of z
  exact ⟨x, i, c, cd.str, ce.int, le_size z1, h, k U H (.str _) _ (Gr.refl s) rfl z⟩
/-! ### rows put together -/
def oCat : D → D → (AV → Prop) → Prop := fun d e Q => lstQ (fun xs => lstQ (fun ys => xs.length + ys.length ≤ 1000000 ∧ Q (.ol (xs ++ ys))) e) d
theorem own_new {p : Addr} {xs : List V} {ds : List D} {q : VK} {Q : AV → Prop} (s : Same U H) (n : H p = none) (r : Rs K U ds xs) (z : Q (.ol ds))
    (k : ∀ U' H' av u, Gr [] U H U' H' → RepA K U' H' av u → (∀ p ∈ own av u, U' p = none ∧ H p = none) → Q av → q u H') : q (.ref p) (upd H p (.lst xs)) :=
  k U _ (.ol ds) (.ref p) ((Gr.refl s).newM n) ⟨p, xs, rfl, upd_same, r⟩ (fun p' hp => by rw [List.mem_singleton.mp hp]; exact ⟨s.free n, n⟩) z
theorem op_catD : OpO K rCat oCat := fun U H v w d e Q q s cd ce z k => by
  obtain ⟨xs, rfl, y⟩ := lstQ_of z
  obtain ⟨ys, rfl, z1, z⟩ := lstQ_of y
  obtain ⟨a, us, rfl, h1, h2⟩ := cd.lst s
  obtain ⟨b, ws, rfl, h3, h4⟩ := ce.lst s
  exact ⟨a, b, us, ws, rfl, rfl, h1, h3, le_size (by rw [← h2.len, ← h4.len]; exact z1), fun p np => own_new s np (h2.app h4) z k⟩
def oCatT : D → D → (D → Prop) → Prop := fun d e Q => tupQ (fun xs => tupQ (fun ys => xs.length + ys.length ≤ 1000000 ∧ Q (.tup (xs ++ ys))) e) d
theorem op_catTD : OpD K (rCatA K) oCatT := fun U H v w d e Q q s cd ce z k => by
  obtain ⟨xs, rfl, y⟩ := tupQ_of z
  obtain ⟨ys, rfl, z1, z⟩ := tupQ_of y
  have cd' := cd.tup s
  have ce' := ce.tup s
  have rd := (show R K U (.tup xs) v by
    obtain ⟨av, h1, h2⟩ := cd
    cases av <;> cases h2
    exact h1)
  have re := (show R K U (.tup ys) w by
    obtain ⟨av, h1, h2⟩ := ce
    cases av <;> cases h2
    exact h1)
  obtain ⟨a, us, rfl, h1, h2⟩ := cd'
  obtain ⟨b, ws, rfl, h3, h4⟩ := ce'
  refine ⟨a, b, us, ws, rfl, rfl, h1, h3, le_size (by rw [← h2.len, ← h4.len]; exact z1), fun e0 => ?_, fun _ e0 => ?_, fun _ _ p np => ?_⟩
  · have : xs = [] := List.length_eq_zero_iff.mp (by rw [h2.len, e0]; rfl)
    subst this
    exact k U H _ _ (Gr.refl s) re z
  · have : ys = [] := List.length_eq_zero_iff.mp (by rw [h4.len, e0]; rfl)
    subst this
    rw [List.append_nil] at z
    exact k U H _ _ (Gr.refl s) rd z
  · have g := (Gr.refl (M := []) s).new (o := .tup (us ++ ws)) np
    exact k _ _ (.tup (xs ++ ys)) (.ref p) g (R.tup upd_same (Rs.mono g.vv _ _ (h2.app h4))) z
def repD (ds : List D) (k : Nat) : List D := (List.replicate k ds).flatten
theorem rep_r {ds : List D} {xs : List V} (r : Rs K U ds xs) : ∀ k : Nat, Rs K U (repD ds k) (List.replicate k xs).flatten
  | 0 => rfl
  | k + 1 => by
    unfold repD
    rw [List.replicate_succ, List.flatten_cons, List.replicate_succ, List.flatten_cons]
    exact r.app (rep_r r k)
def oRep : D → D → (AV → Prop) → Prop := fun d e Q => lstQ (fun xs => intQ (fun k => -(2 ^ 63) ≤ k ∧ k < 2 ^ 63 ∧ xs.length * k.toNat ≤ 1000000 ∧ Q (.ol (repD xs k.toNat))) e) d
theorem op_repD : OpO K rRep oRep := fun U H v w d e Q q s cd ce z k => by
  obtain ⟨xs, rfl, z⟩ := lstQ_of z
  obtain ⟨i, rfl, z1, z2, z3, z⟩ := intQ_of z
  obtain ⟨a, us, rfl, h1, h2⟩ := cd.lst s
  exact ⟨a, i, us, rfl, ce.int, h1, z1, z2, le_size (by rw [← h2.len]; exact z3), fun p np => own_new s np (rep_r h2 _) z k⟩
/-! ### built-ins -/
def oLen : List D → (D → Prop) → Prop := oneQ₂ where
  oneQ₂ : List D → (D → Prop) → Prop := fun ds Q => oneQ (seqQ fun xs => Q (.int xs.length)) ds
theorem bu_len : BuD K (rLenK K) oLen := fun U H vs ds Q q s r z k => by
  obtain ⟨d, rfl, z⟩ := oneQ_of z
  obtain ⟨xs, e, z⟩ := seqQ_of z
  obtain ⟨v, rfl, c⟩ := paired1 r
  obtain ⟨a, us, rfl, h1, h2⟩ := c.seq s e
  refine ⟨a, us, rfl, h1, ?_⟩
  rw [← h2.len]
  exact k U H (.int _) _ (Gr.refl s) rfl z
def oList : List D → (AV → Prop) → Prop := fun ds Q => oneQ (seqQ fun xs => Q (.ol xs)) ds
theorem bu_list : BuO K (rListK K) oList := fun U H vs ds Q q s r z k => by
  obtain ⟨d, rfl, z⟩ := oneQ_of z
  obtain ⟨xs, e, z⟩ := seqQ_of z
  obtain ⟨v, rfl, c⟩ := paired1 r
  obtain ⟨a, us, rfl, h1, h2⟩ := c.seq s e
  exact ⟨a, us, rfl, h1, fun p np => own_new s np h2 z k⟩
def oTuple : List D → (D → Prop) → Prop := fun ds Q => oneQ (seqQ fun xs => Q (.tup xs)) ds
theorem bu_tuple : BuD K (rTupleK K) oTuple := fun U H vs ds Q q s r z k => by
  obtain ⟨d, rfl, z⟩ := oneQ_of z
  obtain ⟨xs, e, z⟩ := seqQ_of z
  obtain ⟨v, rfl, c⟩ := paired1 r
  rcases e with rfl | rfl
  · obtain ⟨a, us, rfl, h1, h2⟩ := c.lst s
    refine ⟨a, us, rfl, .inl ⟨SqL.of h1, fun p np => ?_⟩⟩
    have g := (Gr.refl (M := []) s).new (o := .tup us) np
    exact k _ _ (.tup xs) (.ref p) g (R.tup upd_same (Rs.mono g.vv _ _ h2)) z
  · have re := (show R K U (.tup xs) v by
      obtain ⟨av, h1, h2⟩ := c
      cases av <;> cases h2
      exact h1)
    obtain ⟨a, us, rfl, h1, h2⟩ := c.tup s
    exact ⟨a, us, rfl, .inr ⟨h1, k U H _ _ (Gr.refl s) re z⟩⟩
def intsOf : List D → Option (List Int)
  | [] => some []
  | .int i :: ds => (intsOf ds).map (i :: ·)
  | _ => none
def blsOf : List D → Option (List Bool)
  | [] => some []
  | .bl i :: ds => (blsOf ds).map (i :: ·)
  | _ => none
def strsOf : List D → Option (List Str)
  | [] => some []
  | .str i :: ds => (strsOf ds).map (i :: ·)
  | _ => none
theorem intsOf_map (ns : List Int) : intsOf (ns.map D.int) = some ns := by
  induction ns with
  | nil => rfl
  | cons n ns ih => show (intsOf (ns.map D.int)).map (n :: ·) = _; rw [ih]; rfl
theorem blsOf_map (ns : List Bool) : blsOf (ns.map D.bl) = some ns := by
  induction ns with
  | nil => rfl
  | cons n ns ih => show (blsOf (ns.map D.bl)).map (n :: ·) = _; rw [ih]; rfl
theorem strsOf_map (ns : List Str) : strsOf (ns.map D.str) = some ns := by
  induction ns with
  | nil => rfl
  | cons n ns ih => show (strsOf (ns.map D.str)).map (n :: ·) = _; rw [ih]; rfl
theorem intsOf_eq : ∀ {ds : List D} {ns : List Int}, intsOf ds = some ns → ds = ns.map D.int
  | [], ns, h => by cases h; rfl
  | d :: ds, ns, h => by
    cases d with
    | int i =>
      have h' : (intsOf ds).map (i :: ·) = some ns := h
      cases e : intsOf ds with
      | none => rw [e] at h'; cases h'
      | some ms => rw [e] at h'; cases h'; rw [intsOf_eq e]; rfl
    | _ => cases h
theorem blsOf_eq : ∀ {ds : List D} {ns : List Bool}, blsOf ds = some ns → ds = ns.map D.bl
  | [], ns, h => by cases h; rfl
  | d :: ds, ns, h => by
    cases d with
    | bl i =>
      have h' : (blsOf ds).map (i :: ·) = some ns := h
      cases e : blsOf ds with
      | none => rw [e] at h'; cases h'
      | some ms => rw [e] at h'; cases h'; rw [blsOf_eq e]; rfl
    | _ => cases h
theorem strsOf_eq : ∀ {ds : List D} {ns : List Str}, strsOf ds = some ns → ds = ns.map D.str
  | [], ns, h => by cases h; rfl
  | d :: ds, ns, h => by
    cases d with
    | str i =>
      have h' : (strsOf ds).map (i :: ·) = some ns := h
      cases e : strsOf ds with
      | none => rw [e] at h'; cases h'
      | some ms => rw [e] at h'; cases h'; rw [strsOf_eq e]; rfl
    | _ => cases h
def oInts (f : List Int → (D → Prop) → Prop) : List D → (D → Prop) → Prop := fun ds Q => oneQ (lstQ fun xs => someQ (fun ns => f ns Q) (intsOf xs)) ds
def oBls (f : List Bool → D) : List D → (D → Prop) → Prop := fun ds Q => oneQ (lstQ fun xs => someQ (fun ns => Q (f ns)) (blsOf xs)) ds
theorem oInts_of {f : List Int → (D → Prop) → Prop} {ds : List D} {vs : List V} {Q : D → Prop} (s : Same U H) (r : Paired (CR K U H) ds vs) (z : oInts f ds Q) : ∃ a ns, vs = [.ref a] ∧ H a = some (.lst (ns.map V.int)) ∧ f ns Q := by
  obtain ⟨d, rfl, z⟩ := oneQ_of z
  obtain ⟨xs, rfl, z⟩ := lstQ_of z
  obtain ⟨ns, e, z⟩ := someQ_of z
  obtain ⟨v, rfl, c⟩ := paired1 r
  obtain ⟨a, us, rfl, h1, h2⟩ := c.lst s
  rw [intsOf_eq e] at h2
  rw [h2.ints] at h1
  exact ⟨a, ns, rfl, h1, z⟩
abbrev oSum := oInts fun ns Q => Q (.int ns.sum)
def mxI (ns : List Int) : Int := ns.foldl max (ns.headD 0)
def mnI (ns : List Int) : Int := ns.foldl min (ns.headD 0)
theorem foldl_max (a : Int) (ns : List Int) : (ns.foldl max a = a ∨ ns.foldl max a ∈ ns) ∧ a ≤ ns.foldl max a ∧ ∀ y ∈ ns, y ≤ ns.foldl max a := by
  induction ns generalizing a with
  | nil => exact ⟨.inl rfl, Int.le_refl _, fun y h => by cases h⟩
  | cons n ns ih =>
    obtain ⟨h1, h2, h3⟩ := ih (max a n)
    rw [List.foldl_cons]
    refine ⟨?_, by omega, fun y hy => ?_⟩
    · rcases h1 with h1 | h1
      · by_cases h : n ≤ a
        · exact .inl (by rw [h1, Int.max_eq_left h])
        · exact .inr (by rw [h1, Int.max_eq_right (by omega)]; exact List.mem_cons_self)
      · exact .inr (List.mem_cons_of_mem _ h1)
    · rcases List.mem_cons.mp hy with rfl | hy
      · omega
      · exact h3 y hy
theorem foldl_min (a : Int) (ns : List Int) : (ns.foldl min a = a ∨ ns.foldl min a ∈ ns) ∧ ns.foldl min a ≤ a ∧ ∀ y ∈ ns, ns.foldl min a ≤ y := by
  induction ns generalizing a with
  | nil => exact ⟨.inl rfl, Int.le_refl _, fun y h => by cases h⟩
  | cons n ns ih =>
    obtain ⟨h1, h2, h3⟩ := ih (min a n)
    rw [List.foldl_cons]
    refine ⟨?_, by omega, fun y hy => ?_⟩
    · rcases h1 with h1 | h1
      · by_cases h : a ≤ n
        · exact .inl (by rw [h1, Int.min_eq_left h])
        · exact .inr (by rw [h1, Int.min_eq_right (by omega)]; exact List.mem_cons_self)
      · exact .inr (List.mem_cons_of_mem _ h1)
    · rcases List.mem_cons.mp hy with rfl | hy
      · omega
      · exact h3 y hy
theorem mxI_is {ns : List Int} (h : ns ≠ []) : mxI ns ∈ ns ∧ ∀ y ∈ ns, y ≤ mxI ns := by
  cases ns with
  | nil => exact absurd rfl h
  | cons n ns =>
    obtain ⟨h1, h2, h3⟩ := foldl_max n (n :: ns)
    refine ⟨?_, h3⟩
    rcases h1 with h1 | h1
    · show (n :: ns).foldl max n ∈ _
      rw [h1]
      exact List.mem_cons_self
    · exact h1
theorem mnI_is {ns : List Int} (h : ns ≠ []) : mnI ns ∈ ns ∧ ∀ y ∈ ns, mnI ns ≤ y := by
  cases ns with
  | nil => exact absurd rfl h
  | cons n ns =>
    obtain ⟨h1, h2, h3⟩ := foldl_min n (n :: ns)
    refine ⟨?_, h3⟩
    rcases h1 with h1 | h1
    · show (n :: ns).foldl min n ∈ _
      rw [h1]
      exact List.mem_cons_self
    · exact h1
abbrev oMax := oInts fun ns Q => ns ≠ [] ∧ Q (.int (mxI ns))
abbrev oMin := oInts fun ns Q => ns ≠ [] ∧ Q (.int (mnI ns))
theorem bu_sum : BuD K (rSum K) oSum := fun U H vs ds Q q s r z k => by
  obtain ⟨a, ns, rfl, h, z⟩ := oInts_of s r z
  exact ⟨a, ns, rfl, SqL.of h, k U H (.int _) _ (Gr.refl s) rfl z⟩
theorem bu_max : BuD K (rMax K) oMax := fun U H vs ds Q q s r z k => by
  obtain ⟨a, ns, rfl, h, z0, z⟩ := oInts_of s r z
  refine ⟨a, ns, rfl, SqL.of h, List.length_pos_iff.mpr z0, fun m h1 h2 => ?_⟩
  obtain ⟨k1, k2⟩ := mxI_is z0
  have : m = mxI ns := Int.le_antisymm (k2 m h1) (h2 _ k1)
  subst this
  exact k U H (.int _) _ (Gr.refl s) rfl z
theorem bu_min : BuD K (rMin K) oMin := fun U H vs ds Q q s r z k => by
  obtain ⟨a, ns, rfl, h, z0, z⟩ := oInts_of s r z
  refine ⟨a, ns, rfl, SqL.of h, List.length_pos_iff.mpr z0, fun m h1 h2 => ?_⟩
  obtain ⟨k1, k2⟩ := mnI_is z0
  have : m = mnI ns := Int.le_antisymm (h2 _ k1) (k2 m h1)
  subst this
  exact k U H (.int _) _ (Gr.refl s) rfl z
theorem oBls_of {f : List Bool → D} {ds : List D} {vs : List V} {Q : D → Prop} (s : Same U H) (r : Paired (CR K U H) ds vs) (z : oBls f ds Q) : ∃ a ns, vs = [.ref a] ∧ H a = some (.lst (ns.map V.bl)) ∧ Q (f ns) := by
  obtain ⟨d, rfl, z⟩ := oneQ_of z
  obtain ⟨xs, rfl, z⟩ := lstQ_of z
  obtain ⟨ns, e, z⟩ := someQ_of z
  obtain ⟨v, rfl, c⟩ := paired1 r
  obtain ⟨a, us, rfl, h1, h2⟩ := c.lst s
  rw [blsOf_eq e] at h2
  rw [h2.bls] at h1
  exact ⟨a, ns, rfl, h1, z⟩
abbrev oAll := oBls fun ns => .bl (ns.all id)
abbrev oAny := oBls fun ns => .bl (ns.any id)
theorem bu_all : BuD K (rAll K) oAll := fun U H vs ds Q q s r z k => by
  obtain ⟨a, ns, rfl, h, z⟩ := oBls_of s r z
  exact ⟨a, ns, rfl, SqL.of h, k U H (.bl _) _ (Gr.refl s) rfl z⟩
theorem bu_any : BuD K (rAny K) oAny := fun U H vs ds Q q s r z k => by
  obtain ⟨a, ns, rfl, h, z⟩ := oBls_of s r z
  exact ⟨a, ns, rfl, SqL.of h, k U H (.bl _) _ (Gr.refl s) rfl z⟩
/-- isinstance with a built-in class -/
def tyD : D → Option String
  | .int _ => some "int"
  | .bl _ => some "bool"
  | .str _ => some "str"
  | .non => some "NoneType"
  | .lst _ => some "list"
  | .tup _ => some "tuple"
  | _ => none
def isiD (n m : String) : Bool := n == m || (n == "bool" && m == "int")
def tyQ (Q : String → Prop) : D → Prop
  | .ty n => Q n
  | _ => False
theorem tyQ_of {Q : String → Prop} {d : D} (h : tyQ Q d) : ∃ n, d = .ty n ∧ Q n := by
  cases d <;> first | exact ⟨_, rfl, h⟩ | exact h.elim
def oIsi : List D → (D → Prop) → Prop := fun ds Q => twoQ (fun d e => tyQ (fun m => someQ (fun n => (m = "int" ∨ m = "bool" ∨ m = "str" ∨ m = "list" ∨ m = "tuple") ∧ Q (.bl (isiD n m))) (tyD d)) e) ds
theorem kit_all {n m : String} (hn : n = "int" ∨ n = "bool" ∨ n = "str" ∨ n = "NoneType" ∨ n = "list" ∨ n = "tuple") (hm : m = "int" ∨ m = "bool" ∨ m = "str" ∨ m = "list" ∨ m = "tuple") : PySem.W.kitOne K (.type n) (.type m) = some (isiD n m) := by
  rcases hn with rfl | rfl | rfl | rfl | rfl | rfl <;> rcases hm with rfl | rfl | rfl | rfl | rfl <;> exact kit_ty (by decide +kernel)
theorem bu_isi : BuD K (rIsi K) oIsi := fun U H vs ds Q q s r z k => by
  obtain ⟨d, e, rfl, z⟩ := twoQ_of z
  obtain ⟨m, rfl, z⟩ := tyQ_of z
  obtain ⟨n, hn, hm, z⟩ := someQ_of z
  obtain ⟨v, w, rfl, cd, ce⟩ := paired2 r
  rw [ce.ty]
  have go : ∀ {t : Value}, TyX K H v t → t = .type n → (n = "int" ∨ n = "bool" ∨ n = "str" ∨ n = "NoneType" ∨ n = "list" ∨ n = "tuple") → rIsi K [v, .ty m] H q := fun {t} ht et hn => by
    subst et
    exact ⟨v, .ty m, .type n, .type m, isiD n m, rfl, .ty _, ht, kit_all hn hm, k U H (.bl _) _ (Gr.refl s) rfl z⟩
  cases d with
  | int i => cases hn; rw [cd.int] at go ⊢; exact go (.base (.int _)) rfl (by decide)
  | bl i => cases hn; rw [cd.bl] at go ⊢; exact go (.base (.bl _)) rfl (by decide)
  | str i => cases hn; rw [cd.str] at go ⊢; exact go (.base (.str _)) rfl (by decide)
  | non => cases hn; rw [cd.non] at go ⊢; exact go (.base .non) rfl (by decide)
  | lst ds =>
    cases hn
    obtain ⟨a, xs, rfl, h1, _⟩ := cd.lst s
    exact go (.base (.lst h1)) rfl (by decide)
  | tup ds =>
    cases hn
    obtain ⟨a, xs, rfl, h1, _⟩ := cd.tup s
    rcases h1 with (h1 | ⟨o, h1⟩) | ⟨o, its, n, h1, h2, _⟩
    · exact go (.base (.tup h1)) rfl (by decide)
    · exact go (.fTuple h1) rfl (by decide)
    · exact go (.kTuple h1 h2) rfl (by decide)
  | _ => cases hn
def oAbs : List D → (D → Prop) → Prop := fun ds Q => oneQ (intQ fun i => Q (.int (if i < 0 then -i else i))) ds
end
/-! ### rules of the hand layer, named for this one -/
theorem ip_ext {X : Cx} : PIp X .Add rExt2 := fun pins s σ H x y v u Q I rx ry h => iop_ext pins s σ H x y v u Q I rx ry h
theorem op_catAK {X : Cx} {K : PySem.W.Frag} (h : X.K = K) : OpR X (binaryOp .Add) (rCatA K) := by subst h; exact op_catA
theorem sl_tupAK {X : Cx} {K : PySem.W.Frag} (h : X.K = K) : SlR X (rSlA K) := by subst h; exact sl_tupA
theorem ps_raise0 {X : Cx} {E : XK} {e : Expr} {pos : Pos} {C : Addr} (hc : X.calm = true) (tk : Takes X (fun cls d _ H => E cls d H)) (he : PMk X e (fun _ H Q => Q (.ref C) none H)) : PS X (.Raise (some e) none pos) (tRaise0 C E) := ps_raise hc tk he
theorem sim_slotL {c : DC} {i : Nat} {tr : TA} {r : AA} (hr : SimA c tr r) : SimA c (tCons (tVar i) tr) (aSlot i r) := sim_slot hr
/-! ### the law's own draws, as a promise of this kind -/
def A_draw : AF := fun avs q _ => match avs with
  | [.dr, .fz (.int many)] => 0 < many ∧ many < 2 ^ 200 ∧ ∀ r : Int, 0 ≤ r → r < many → q (.fz (.int r))
  | _ => False
theorem FnOk.imp {P : Program} {w : World} {K : PySem.W.Frag} {mg : Str → Option Value} {base : Heap} {CX : CXT} {k : Nat} {f : Addr} {fd : FuncData} {ps : List Str} {sp sp' : Sp} (F : FnOk P w K mg base CX k f fd ps sp) (h : ∀ vs H Q E, sp' vs H Q E → sp vs H Q E) : FnOk P w K mg base CX k f fd ps sp' :=
  ⟨fun vs H Q E z => F.len vs H Q E (h vs H Q E z), fun A outer s H args us vs Q E r e b v z => F.run A outer s H args us vs Q E r e b v (h vs H Q E z)⟩
theorem draw_imp {K : PySem.W.Frag} : ∀ vs H Q E, spD K A_draw vs H Q E → spDraw vs H Q E := by
  intro vs H Q E h
  obtain ⟨U, avs, q, x, sU, rep, kd, l1, hb, kq, kx⟩ := h
  unfold A_draw at hb
  split at hb
  · rename_i many
    obtain ⟨v, w, rfl, ⟨s, rfl, dr⟩, rw'⟩ := paired2 rep
    have ew : w = .int many := rw'
    subst ew
    refine ⟨s, many, U, rfl, hb.1, hb.2.1, sU, dr, fun r H' r0 r1 s' d' ho => ?_⟩
    refine kq U H' (.fz (.int r)) (.int r) ⟨Same.refl U, s', fun a o m h => ?_, fun a h => ?_, fun a h _ => h⟩ rfl (fun p hp => by cases hp) (fun p hp => ?_) (hb.2.2 r r0 r1)
    · rw [ho a (fun z => m (by rw [z]; exact List.mem_singleton.mpr rfl))]
      exact h
    · by_cases z : a = s
      · subst z
        exact d'.some
      · rw [ho a z]
        exact h
    · have hp' : p ∈ [s] := hp
      rw [List.mem_singleton.mp hp']
      exact d'
  · exact hb.elim
/-! ### the law's own body, behind its first row -/
theorem law_run {K : PySem.W.Frag} {t : TS} {a : AS} {U H U' H' : Hp} {s x : Addr} {nl : Nat} {Q : VK} {n b c' : L2.St → Hp → Prop} (g : Gr [] U H U' H') (D : Dr U' H' s) (hn : H s = none) (q : ∀ H', Q (.bl true) H')
    (hs : ∀ U0 H0 X E, SimS ⟨K, [], [], U0, H0, X, E⟩ t a) (ha : a ⟨fun _ => False, fun av _ => av = .fz (.bl true), fun _ => False, fun _ => False, fun _ => False⟩ (none :: some .dr :: List.replicate nl none)) :
    t ⟨n, Q, b, c'⟩ (some (.ref x) :: some (.ref s) :: List.replicate nl none) H' := by
  have hrep : ∀ m : Nat, Paired (RepS K U' H') (List.replicate m none) (List.replicate m none) := fun m => by
    induction m with
    | zero => exact .nil
    | succ m ih => exact .cons trivial ih
  have how : ∀ m : Nat, owns (List.replicate m none) (List.replicate m none) = [] := fun m => by
    induction m with
    | zero => rfl
    | succ m ih => exact ih
  refine hs U H (fun _ => False) (fun _ _ _ => False) U' H' (some (.ref x) :: some (.ref s) :: List.replicate nl none) (none :: some .dr :: List.replicate nl none) _ _ rfl ⟨g, .cons trivial (.cons ⟨s, rfl, D⟩ (hrep nl)), ?_, ?_, .nil, fun _ _ _ _ _ _ _ _ z => z, ?_⟩ ha ⟨fun _ _ _ _ _ _ z => z.elim, ?_, fun _ _ _ _ _ _ z => z.elim, fun _ _ _ _ _ _ z => z.elim⟩
  · show ([] ++ ([s] ++ owns (List.replicate nl none) (List.replicate nl none))).Nodup
    rw [how]
    simp
  · intro p hp
    have hp' : p ∈ ([] ++ ([s] ++ owns (List.replicate nl none) (List.replicate nl none)) : List Addr) := hp
    rw [how] at hp'
    simp at hp'
    subst hp'
    exact ⟨D.out, .inr hn⟩
  · intro i av v _ e1 e2 p hp
    match i, e1, e2 with
    | 1, e1, e2 =>
      cases e1
      cases e2
      rw [List.mem_singleton.mp hp]
      exact hn
    | i + 2, e1, _ =>
      have e1' : (List.replicate nl (none : Option AV))[i]? = some (some av) := e1
      rw [List.getElem?_replicate] at e1'
      split at e1' <;> cases e1'
  · intro U2 H2 σ2 ρ2 av v I r _ z
    have z' : av = .fz (.bl true) := z
    subst z'
    rw [show v = .bl true from r]
    exact q H2
end SW

namespace SW
open PySem PySem.Spec PyProof.Rows L2
/-! ### plain data: == of any depth -/
mutual
def okD : Nat → D → Bool
  | _, .int _ => true
  | _, .bl _ => true
  | _, .non => true
  | _, .str x => PyData.strOk x
  | n + 1, .tup ds => okDs n ds
  | n + 1, .lst ds => okDs n ds
  | _, _ => false
def okDs : Nat → List D → Bool
  | _, [] => true
  | n, d :: ds => okD n d && okDs n ds
end
mutual
def toPy : D → PyData
  | .int i => .int i
  | .bl b => .bool b
  | .str x => .str x
  | .tup ds => .tuple (toPys ds)
  | .lst ds => .list (toPys ds)
  | _ => .none
def toPys : List D → List PyData
  | [] => []
  | d :: ds => toPy d :: toPys ds
end
mutual
def deq : D → D → Bool
  | .non, .non => true
  | .bl a, .bl b => a == b
  | .bl a, .int j => (if a then 1 else 0) == j
  | .int i, .bl b => i == (if b then 1 else 0)
  | .int i, .int j => i == j
  | .str x, .str y => x == y
  | .lst xs, .lst ys => deqs xs ys
  | .tup xs, .tup ys => deqs xs ys
  | _, _ => false
def deqs : List D → List D → Bool
  | [], [] => true
  | x :: xs, y :: ys => deq x y && deqs xs ys
  | _, _ => false
end
mutual
theorem okD_lay : ∀ (n : Nat) (d : D), okD n d = true → Lay n (toPy d)
  | n, .int _, _ => lay_int
  | n, .bl _, _ => lay_bool
  | n, .non, _ => lay_none
  | n, .str x, h => ⟨by cases n <;> exact h, Nat.zero_le _⟩
  | 0, .tup _, h => by cases h
  | 0, .lst _, h => by cases h
  | n + 1, .tup ds, h => ⟨(okDs_lay n ds h).1, Nat.succ_le_succ (okDs_lay n ds h).2⟩
  | n + 1, .lst ds, h => ⟨(okDs_lay n ds h).1, Nat.succ_le_succ (okDs_lay n ds h).2⟩
  | n, .ty _, h => by cases n <;> cases h
  | n, .dK _ _, h => by cases n <;> cases h
  | n, .dT _ _, h => by cases n <;> cases h
  | n, .obj _ _ _, h => by cases n <;> cases h
theorem okDs_lay : ∀ (n : Nat) (ds : List D), okDs n ds = true → PyData.canLayAll0 (toPys ds) = true ∧ PyData.depthAll (toPys ds) ≤ n
  | n, [], _ => ⟨rfl, Nat.zero_le _⟩
  | n, d :: ds, h => by
    have h' : (okD n d && okDs n ds) = true := h
    rw [Bool.and_eq_true] at h'
    have h1 := okD_lay n d h'.1
    have h2 := okDs_lay n ds h'.2
    refine ⟨?_, ?_⟩
    · show ((toPy d).canLay0 && PyData.canLayAll0 (toPys ds)) = true
      rw [h1.1, h2.1]
      rfl
    · show max (toPy d).depth (PyData.depthAll (toPys ds)) ≤ n
      exact Nat.max_le.mpr ⟨h1.2, h2.2⟩
end
section
variable {K : PySem.W.Frag} {U H : Hp}
mutual
theorem okD_dp (s : Same U H) : ∀ (n : Nat) (d : D) (v : V), okD n d = true → R K U d v → Dp K H v (toPy d)
  | n, .int i, v, _, r => by rw [show v = .int i from r]; exact .int i
  | n, .bl i, v, _, r => by rw [show v = .bl i from r]; exact .bl i
  | n, .non, v, _, r => by rw [show v = .non from r]; exact .non
  | n, .str x, v, h, r => by rw [show v = .str x from r]; exact .str x
  | 0, .tup _, _, h, _ => by cases h
  | 0, .lst _, _, h, _ => by cases h
  | n + 1, .tup ds, v, h, ⟨a, xs, e, h1, h2⟩ => by rw [e]; exact .tup (Same.tup s h1) (okDs_dp s n ds xs h h2)
  | n + 1, .lst ds, v, h, ⟨a, xs, e, h1, h2⟩ => by rw [e]; exact .lst (SqL.of (s _ _ h1)) (okDs_dp s n ds xs h h2)
  | n, .ty _, _, h, _ => by cases n <;> cases h
  | n, .dK _ _, _, h, _ => by cases n <;> cases h
  | n, .dT _ _, _, h, _ => by cases n <;> cases h
  | n, .obj _ _ _, _, h, _ => by cases n <;> cases h
theorem okDs_dp (s : Same U H) : ∀ (n : Nat) (ds : List D) (vs : List V), okDs n ds = true → Rs K U ds vs → DpAll K H vs (toPys ds)
  | n, [], vs, _, r => by rw [show vs = [] from r]; exact .nil
  | n, d :: ds, vs, h, ⟨v, r, e, h1, h2⟩ => by
    have h' : (okD n d && okDs n ds) = true := h
    rw [Bool.and_eq_true] at h'
    rw [e]
    exact .cons (okD_dp s n d v h'.1 h1) (okDs_dp s n ds r h'.2 h2)
end
theorem cr_dp {d : D} {v : V} (s : Same U H) (c : CR K U H d v) (h : okD 8 d = true) : Dp K H v (toPy d) := by
  obtain ⟨av, r, f⟩ := c
  cases av with
  | fz d' => cases f; exact okD_dp s 8 _ v h r
  | ol ds =>
    cases f
    obtain ⟨p, xs, rfl, e1, e2⟩ := r
    exact .lst (SqL.of e1) (okDs_dp s 7 ds xs h e2)
  | ok ks ds => cases f; cases h
  | ot ks ds => cases f; cases h
  | dr => cases f
end
mutual
theorem eqv_deq : ∀ (n m : Nat) (d e : D), okD n d = true → okD m e = true → PyData.eqv (toPy d) (toPy e) = deq d e
  | n, m, .int _, .int _, _, _ => rfl
  | n, m, .int _, .bl _, _, _ => rfl
  | n, m, .bl _, .int _, _, _ => rfl
  | n, m, .bl _, .bl _, _, _ => rfl
  | n, m, .non, .non, _, _ => rfl
  | n, m, .str _, .str _, _, _ => rfl
  | n + 1, m + 1, .tup xs, .tup ys, h, k => eqvs_deqs n m xs ys h k
  | n + 1, m + 1, .lst xs, .lst ys, h, k => eqvs_deqs n m xs ys h k
  | n, m, .int _, .non, _, _ => rfl
  | n, m, .int _, .str _, _, _ => rfl
  | n, m, .int _, .tup _, _, _ => rfl
  | n, m, .int _, .lst _, _, _ => rfl
  | n, m, .bl _, .non, _, _ => rfl
  | n, m, .bl _, .str _, _, _ => rfl
  | n, m, .bl _, .tup _, _, _ => rfl
  | n, m, .bl _, .lst _, _, _ => rfl
  | n, m, .non, .int _, _, _ => rfl
  | n, m, .non, .bl _, _, _ => rfl
  | n, m, .non, .str _, _, _ => rfl
  | n, m, .non, .tup _, _, _ => rfl
  | n, m, .non, .lst _, _, _ => rfl
  | n, m, .str _, .int _, _, _ => rfl
  | n, m, .str _, .bl _, _, _ => rfl
  | n, m, .str _, .non, _, _ => rfl
  | n, m, .str _, .tup _, _, _ => rfl
  | n, m, .str _, .lst _, _, _ => rfl
  | n, m, .tup _, .int _, _, _ => rfl
  | n, m, .tup _, .bl _, _, _ => rfl
  | n, m, .tup _, .non, _, _ => rfl
  | n, m, .tup _, .str _, _, _ => rfl
  | n, m, .tup _, .lst _, _, _ => rfl
  | n, m, .lst _, .int _, _, _ => rfl
  | n, m, .lst _, .bl _, _, _ => rfl
  | n, m, .lst _, .non, _, _ => rfl
  | n, m, .lst _, .str _, _, _ => rfl
  | n, m, .lst _, .tup _, _, _ => rfl
  | 0, m, .tup _, .tup _, h, _ => by cases h
  | n + 1, 0, .tup _, .tup _, _, k => by cases k
  | 0, m, .lst _, .lst _, h, _ => by cases h
  | n + 1, 0, .lst _, .lst _, _, k => by cases k
  | n, m, .ty _, _, h, _ => by cases n <;> cases h
  | n, m, .dK _ _, _, h, _ => by cases n <;> cases h
  | n, m, .dT _ _, _, h, _ => by cases n <;> cases h
  | n, m, .obj _ _ _, _, h, _ => by cases n <;> cases h
  | n, m, _, .ty _, _, h => by cases m <;> cases h
  | n, m, _, .dK _ _, _, h => by cases m <;> cases h
  | n, m, _, .dT _ _, _, h => by cases m <;> cases h
  | n, m, _, .obj _ _ _, _, h => by cases m <;> cases h
theorem eqvs_deqs : ∀ (n m : Nat) (xs ys : List D), okDs n xs = true → okDs m ys = true → PyData.eqvAll (toPys xs) (toPys ys) = deqs xs ys
  | n, m, [], [], _, _ => rfl
  | n, m, x :: xs, y :: ys, h, k => by
    have h' : (okD n x && okDs n xs) = true := h
    have k' : (okD m y && okDs m ys) = true := k
    rw [Bool.and_eq_true] at h' k'
    show (PyData.eqv (toPy x) (toPy y) && PyData.eqvAll (toPys xs) (toPys ys)) = (deq x y && deqs xs ys)
    rw [eqv_deq n m x y h'.1 k'.1, eqvs_deqs n m xs ys h'.2 k'.2]
  | n, m, [], _ :: _, _, _ => rfl
  | n, m, _ :: _, [], _, _ => rfl
end
section
variable {K : PySem.W.Frag} {U H : Hp}
def oEqD : D → D → (D → Prop) → Prop := fun d e Q => okD 8 d = true ∧ okD 8 e = true ∧ Q (.bl (deq d e))
def oNeD : D → D → (D → Prop) → Prop := fun d e Q => okD 8 d = true ∧ okD 8 e = true ∧ Q (.bl (!deq d e))
theorem op_eqDD : OpD K (rEqD K) oEqD := fun U H v w d e Q q s cd ce z k => by
  obtain ⟨h1, h2, z⟩ := z
  refine ⟨toPy d, toPy e, cr_dp s cd h1, cr_dp s ce h2, (okD_lay 8 d h1).shaped (by decide), (okD_lay 8 e h2).shaped (by decide), ?_⟩
  rw [eqv_deq 8 8 d e h1 h2]
  exact k U H (.bl _) _ (Gr.refl s) rfl z
theorem op_neDD : OpD K (rNeD K) oNeD := fun U H v w d e Q q s cd ce z k => by
  obtain ⟨h1, h2, z⟩ := z
  refine ⟨toPy d, toPy e, cr_dp s cd h1, cr_dp s ce h2, (okD_lay 8 d h1).shaped (by decide), (okD_lay 8 e h2).shaped (by decide), ?_⟩
  rw [eqv_deq 8 8 d e h1 h2]
  exact k U H (.bl _) _ (Gr.refl s) rfl z
def inD (d : D) (ds : List D) : Bool := ds.any fun y => deq y d
theorem inD_py {n m : Nat} {d : D} (hd : okD n d = true) : ∀ (ds : List D), okDs m ds = true → ((toPys ds).any fun z => PyData.eqv z (toPy d)) = inD d ds
  | [], _ => rfl
  | e :: ds, h => by
    have h' : (okD m e && okDs m ds) = true := h
    rw [Bool.and_eq_true] at h'
    show (PyData.eqv (toPy e) (toPy d) || (toPys ds).any fun z => PyData.eqv z (toPy d)) = (deq e d || inD d ds)
    rw [eqv_deq m n e d h'.1 hd, inD_py hd ds h'.2]
def oInD : D → D → (D → Prop) → Prop := fun d e Q => lstQ (fun ds => okD 8 d = true ∧ okDs 7 ds = true ∧ Q (.bl (inD d ds))) e
def oNotInD : D → D → (D → Prop) → Prop := fun d e Q => lstQ (fun ds => okD 8 d = true ∧ okDs 7 ds = true ∧ Q (.bl (!inD d ds))) e
theorem op_inDD : OpD K (rInD K) oInD := fun U H v w d e Q q s cd ce z k => by
  obtain ⟨ds, rfl, h1, h2, z⟩ := lstQ_of z
  refine ⟨toPy d, toPys ds, cr_dp s cd h1, cr_dp (d := .lst ds) s ce h2, (okD_lay 8 d h1).shaped (by decide), (okD_lay 8 (.lst ds) h2).shaped (by decide), ?_⟩
  rw [inD_py h1 ds h2]
  exact k U H (.bl _) _ (Gr.refl s) rfl z
theorem op_notInDD : OpD K (rNotInD K) oNotInD := fun U H v w d e Q q s cd ce z k => by
  obtain ⟨ds, rfl, h1, h2, z⟩ := lstQ_of z
  refine ⟨toPy d, toPys ds, cr_dp s cd h1, cr_dp (d := .lst ds) s ce h2, (okD_lay 8 d h1).shaped (by decide), (okD_lay 8 (.lst ds) h2).shaped (by decide), ?_⟩
  rw [inD_py h1 ds h2]
  exact k U H (.bl _) _ (Gr.refl s) rfl z
end
theorem op_inDK {X : Cx} {K : PySem.W.Frag} (h : X.K = K) (hu : X.A.units + 65 < cLine) : OpR X (compareOp .In) (rInD K) := by subst h; exact op_inD hu
theorem op_notInDK {X : Cx} {K : PySem.W.Frag} (h : X.K = K) (hu : X.A.units + 65 < cLine) : OpR X (compareOp .NotIn) (rNotInD K) := by subst h; exact op_notInD hu
/-! ### parts of rows -/
abbrev AP := Env → (Option Int → Prop) → (Exn → Prop) → Prop
section
variable {c : DC} {U H : Hp} {te : TE} {e : AE}
def SimP (c : DC) (t : TO) (e : AP) : Prop := ∀ (U H : Hp) (σ : L2.St) (ρ : Env) (Q : Option Int → Prop) (q : Option Int → Hp → Prop), DI c U H σ ρ → e ρ Q c.X →
  (∀ U' H' o, Gr (drs ρ σ) U H U' H' → DI c U' H' σ ρ → Q o → q o H') → t σ H q
def aNoPart : AP := fun _ Q _ => Q none
def aPart (e : AE) : AP := fun ρ Q X => e ρ (intQ fun i => Q (some i)) X
theorem sim_noPart : SimP c tNoPart aNoPart := fun U H σ ρ Q q I z k => k U H none (Gr.refl I.vh) I z
theorem sim_part (h : SimW c te e) : SimP c (tPart te) (aPart e) := fun U H σ ρ Q q I z k => h U H σ ρ _ _ I z fun U1 H1 d v g1 I1 w1 z1 => by
  obtain ⟨i, rfl, z2⟩ := intQ_of z1
  exact ⟨i, (w1.cr I1).int, k U1 H1 (some i) g1 I1 z2⟩
def SlD (K : PySem.W.Frag) (r : V → Option Int → Option Int → Hp → VK → Prop) (f : D → Option Int → Option Int → (D → Prop) → Prop) : Prop := ∀ (U H : Hp) (v : V) (d : D) (lo hi : Option Int) (Q : D → Prop) (q : VK), Same U H → CR K U H d v → f d lo hi Q →
  (∀ U' H' z u, Gr [] U H U' H' → R K U' z u → Q z → q u H') → r v lo hi H q
def SlO (K : PySem.W.Frag) (r : V → Option Int → Option Int → Hp → VK → Prop) (f : D → Option Int → Option Int → (AV → Prop) → Prop) : Prop := ∀ (U H : Hp) (v : V) (d : D) (lo hi : Option Int) (Q : AV → Prop) (q : VK), Same U H → CR K U H d v → f d lo hi Q →
  (∀ U' H' av u, Gr [] U H U' H' → RepA K U' H' av u → (∀ p ∈ own av u, U' p = none ∧ H p = none) → Q av → q u H') → r v lo hi H q
def aSl (f : D → Option Int → Option Int → (D → Prop) → Prop) (a : AE) (lo hi : AP) : AE := fun ρ Q X => a ρ (fun d => lo ρ (fun l => hi ρ (fun h => f d l h Q) X) X) X
def aSlO (f : D → Option Int → Option Int → (AV → Prop) → Prop) (a : AE) (lo hi : AP) : AO := fun ρ Q X => a ρ (fun d => lo ρ (fun l => hi ρ (fun h => f d l h Q) X) X) X
theorem sim_sl {r : V → Option Int → Option Int → Hp → VK → Prop} {f : D → Option Int → Option Int → (D → Prop) → Prop} {tl th : TO} {l h : AP} (hf : SlD c.K r f) (ha : SimW c te e) (hl : SimP c tl l) (hh : SimP c th h) : SimE c (tSl r te tl th) (aSl f e l h) := fun U H σ ρ Q q I z k =>
  ha U H σ ρ _ _ I z fun U1 H1 d v g1 I1 w1 z1 => hl U1 H1 σ ρ _ _ I1 z1 fun U2 H2 lo g2 I2 z2 => hh U2 H2 σ ρ _ _ I2 z2 fun U3 H3 hi g3 I3 z3 =>
    hf U3 H3 v d lo hi Q q I3.vh ((w1.mono (g2.vv.trans g3.vv)).cr I3) z3 fun U4 H4 y u g4 r4 z4 => k U4 H4 y u (((g1.trans g2).trans g3).trans g4.any) (I3.grow g4) r4 z4
theorem sim_slO {r : V → Option Int → Option Int → Hp → VK → Prop} {f : D → Option Int → Option Int → (AV → Prop) → Prop} {tl th : TO} {l h : AP} (hf : SlO c.K r f) (ha : SimW c te e) (hl : SimP c tl l) (hh : SimP c th h) : SimO c (tSl r te tl th) (aSlO f e l h) := fun U H σ ρ Q q I z k =>
  ha U H σ ρ _ _ I z fun U1 H1 d v g1 I1 w1 z1 => hl U1 H1 σ ρ _ _ I1 z1 fun U2 H2 lo g2 I2 z2 => hh U2 H2 σ ρ _ _ I2 z2 fun U3 H3 hi g3 I3 z3 =>
    hf U3 H3 v d lo hi Q q I3.vh ((w1.mono (g2.vv.trans g3.vv)).cr I3) z3 fun U4 H4 y u g4 r4 n4 z4 => k U4 H4 y u (((g1.trans g2).trans g3).trans g4.any) (I3.grow g4) r4 (fun p hp => ⟨(n4 p hp).1, ((g1.trans g2).trans g3).fresh (n4 p hp).2⟩) z4
def cutD (xs : List D) (lo hi : Option Int) : List D := (xs.drop (HT.sIx xs.length 0 lo)).take (HT.sIx xs.length xs.length hi - HT.sIx xs.length 0 lo)
theorem cut_r {K : PySem.W.Frag} {ds : List D} {xs : List V} (r : Rs K U ds xs) (lo hi : Option Int) : Rs K U (cutD ds lo hi) (cutV xs lo hi) := by
  unfold cutD cutV
  rw [r.len]
  exact (r.drop _).take _
def oSlL : D → Option Int → Option Int → (AV → Prop) → Prop := fun d lo hi Q => lstQ (fun ds => Q (.ol (cutD ds lo hi))) d
def oSlT : D → Option Int → Option Int → (D → Prop) → Prop := fun d lo hi Q => tupQ (fun ds => Q (.tup (cutD ds lo hi))) d
theorem sl_lD {K : PySem.W.Frag} : SlO K (rSlL K) oSlL := fun U H v d lo hi Q q s cd z k => by
  obtain ⟨ds, rfl, z⟩ := lstQ_of z
  obtain ⟨a, xs, rfl, h1, h2⟩ := cd.lst s
  exact ⟨a, xs, rfl, SqL.of h1, fun p np => own_new s np (cut_r h2 lo hi) z k⟩
theorem sl_tD {K : PySem.W.Frag} : SlD K (rSlA K) oSlT := fun U H v d lo hi Q q s cd z0 k => by
  obtain ⟨ds, rfl, z⟩ := tupQ_of z0
  have rd := (show R K U (.tup ds) v by
    obtain ⟨av, h1, h2⟩ := cd
    cases av <;> cases h2
    exact h1)
  obtain ⟨a, xs, rfl, h1, h2⟩ := cd.tup s
  refine ⟨a, xs, rfl, h1, fun hw => ?_, fun _ p np => ?_⟩
  · have e : cutD ds lo hi = ds := by
      unfold cutD
      rw [h2.len, hw.1, hw.2, List.drop_zero, Nat.sub_zero, ← h2.len, List.take_length]
    rw [e] at z
    exact k U H _ _ (Gr.refl s) rd z
  · have g := (Gr.refl (M := []) s).new (o := .tup (cutV xs lo hi)) np
    exact k _ _ (.tup (cutD ds lo hi)) (.ref p) g (R.tup upd_same (Rs.mono g.vv _ _ (cut_r h2 lo hi))) z
def aRev (e : AE) : AO := fun ρ Q X => e ρ (lstQ fun ds => Q (.ol ds.reverse)) X
theorem Rs.rev {K : PySem.W.Frag} : ∀ {ds : List D} {xs : List V}, Rs K U ds xs → Rs K U ds.reverse xs.reverse
  | [], _, h => by rw [show _ = [] from h]; rfl
  | d :: ds, _, ⟨v, r, e, h1, h2⟩ => by
    rw [e, List.reverse_cons, List.reverse_cons]
    exact (Rs.rev h2).snoc h1
theorem sim_rev (h : SimW c te e) : SimO c (tRevL c.K te) (aRev e) := fun U H σ ρ Q q I z k => h U H σ ρ _ _ I z fun U1 H1 d v g1 I1 w1 z1 => by
  obtain ⟨ds, rfl, z2⟩ := lstQ_of z1
  obtain ⟨a, xs, rfl, h1, h2⟩ := (w1.cr I1).lst I1.vh
  exact ⟨a, xs, rfl, SqL.of h1, fun p np => own_new I1.vh np h2.rev z2 fun U2 H2 av u g2 r2 n2 z3 => k U2 H2 av u (g1.trans g2.any) (I1.grow g2) r2 (fun p hp => ⟨(n2 p hp).1, g1.fresh (n2 p hp).2⟩) z3⟩
end
/-! ### a slot's own thing changes no more -/
def aSeal (i : Nat) (a : AS) : AS := fun N ρ => match ρ[i]? with
  | some (some (.fz _)) => a N ρ
  | some (some (.ol ds)) => a N (ρ.set i (some (.fz (.lst ds))))
  | some (some (.ok ks ds)) => a N (ρ.set i (some (.fz (.dK ks ds))))
  | some (some (.ot ks ds)) => a N (ρ.set i (some (.fz (.dT ks ds))))
  | _ => False
theorem DI.sealAt {c : DC} {U H : Hp} {σ : L2.St} {ρ : Env} {i : Nat} {p : Addr} {av : AV} {d : D} {o : HO} (I : DI c U H σ ρ) (hi : noPar c i = true) (e : ρ[i]? = some (some av)) (hs : σ[i]? = some (some (.ref p))) (ho : own av (.ref p) = [p]) (h : H p = some o) (r : R c.K (upd U p o) d (.ref p)) :
    ∃ U', Same U U' ∧ DI c U' H σ (ρ.set i (some (.fz d))) := by
  have mp : p ∈ own av (.ref p) := by rw [ho]; exact List.mem_singleton.mpr rfl
  obtain ⟨w, e1, _, m⟩ := rep_at I.rep i av e
  rw [hs] at e1
  have e' := Option.some.inj (Option.some.inj e1)
  subst e'
  have hu := (I.out p (m p mp)).1
  have I1 := (I.unset i (noPar_of hi)).seal h hu (I.nw i av _ hi e hs p mp) (own_unset I.nd e hs p mp)
  have I2 := I1.setF (i := i) r (noPar_of hi)
  rw [List.set_set, set_same hs] at I2
  exact ⟨_, same_new hu, I2⟩
theorem sim_seal {c : DC} {t : TS} {a : AS} {i : Nat} (hi : noPar c i = true) (h : SimS c t a) : SimS c t (aSeal i a) := fun U H σ ρ N n hx I z P => by
  unfold aSeal at z
  split at z
  · exact h U H σ ρ N n hx I z P
  · rename_i ds e
    obtain ⟨w, e1, ⟨p, xs, rfl, e2, e3⟩, m⟩ := rep_at I.rep i _ e
    have hu := (I.out p (m p (List.mem_singleton.mpr rfl))).1
    obtain ⟨U', s, I'⟩ := I.sealAt hi e e1 rfl e2 (R.lst upd_same (Rs.mono (same_new hu) _ _ e3))
    exact h U' H σ _ N n hx I' z (P.mono s)
  · rename_i ks ds e
    obtain ⟨w, e1, ⟨p, xs, rfl, e2, e3, e4⟩, m⟩ := rep_at I.rep i _ e
    have hu := (I.out p (m p (List.mem_singleton.mpr rfl))).1
    obtain ⟨U', s, I'⟩ := I.sealAt (d := .dK ks ds) hi e e1 rfl e2 ⟨p, xs, rfl, upd_same, e3, Rs.mono (same_new hu) _ _ e4⟩
    exact h U' H σ _ N n hx I' z (P.mono s)
  · rename_i ks ds e
    obtain ⟨w, e1, ⟨p, xs, rfl, e2, e3, e4⟩, m⟩ := rep_at I.rep i _ e
    have hu := (I.out p (m p (List.mem_singleton.mpr rfl))).1
    obtain ⟨U', s, I'⟩ := I.sealAt (d := .dT ks ds) hi e e1 rfl e2 ⟨p, xs, rfl, upd_same, e3, Rs.mono (same_new hu) _ _ e4⟩
    exact h U' H σ _ N n hx I' z (P.mono s)
  · exact z.elim
theorem units65 {k : Nat} {A : Around} (r : Room k A) : A.units + 65 < cLine := by have := r.un; omega
/-! ### reasoning with readings -/
theorem cond_dec {p : Prop} [Decidable p] {A B : Prop} (h1 : p → A) (h2 : ¬ p → B) : cond (decide p) A B := by
  by_cases h : p
  · rw [decide_eq_true h]; exact h1 h
  · rw [decide_eq_false h]; exact h2 h
theorem cond_bool {b : Bool} {A B : Prop} (h1 : b = true → A) (h2 : b = false → B) : cond b A B := by
  cases b with
  | true => exact h1 rfl
  | false => exact h2 rfl
theorem cond_not {b : Bool} {A B : Prop} (h : cond b B A) : cond (!b) A B := by
  cases b <;> exact h
end SW

namespace SW
open PySem PySem.Spec PyProof.Rows L2
/-! ### reasoning about readings: loops, comprehensions -/
theorem loop_inv {g : AG} {b : AS} {N : AEnds} {ds : List D} {ρ : Env} (Inv : Nat → Env → Prop) (h0 : Inv 0 ρ)
    (hs : ∀ (i : Nat) (d : D) (ρ : Env) (K : Env → Prop), ds[i]? = some d → Inv i ρ → (∀ ρ', Inv (i + 1) ρ' → K ρ') → g d ρ (fun ρ2 => b ⟨K, N.rt, N.nx, K, N.ex⟩ ρ2)) (hd : ∀ ρ, Inv ds.length ρ → N.nx ρ) : aLoop g b N ds ρ := by
  have go : ∀ (k : Nat) (ρ : Env), k ≤ ds.length → Inv (ds.length - k) ρ → aLoop g b N (ds.drop (ds.length - k)) ρ := by
    intro k
    induction k with
    | zero =>
      intro ρ _ h
      rw [Nat.sub_zero] at h ⊢
      rw [List.drop_length]
      exact hd ρ h
    | succ k ih =>
      intro ρ hk h
      have hl : ds.length - (k + 1) < ds.length := by omega
      have e : ds[ds.length - (k + 1)]? = some ds[ds.length - (k + 1)] := List.getElem?_eq_getElem hl
      rw [drop_at e]
      refine hs _ _ ρ _ e h fun ρ' h' => ?_
      have e2 : ds.length - (k + 1) + 1 = ds.length - k := by omega
      rw [e2] at h' ⊢
      exact ih ρ' (by omega) h'
  have := go ds.length ρ (Nat.le_refl _) (by rw [Nat.sub_self]; exact h0)
  rwa [Nat.sub_self, List.drop_zero] at this
theorem rngD_at {lo : Int} {n i : Nat} {d : D} (h : (rngD lo n)[i]? = some d) : i < n ∧ d = .int (lo + (i : Nat)) := by
  unfold rngD at h
  rw [List.getElem?_map] at h
  cases e : (List.range n)[i]? with
  | none => rw [e] at h; cases h
  | some k =>
    rw [e] at h
    obtain ⟨hk, e2⟩ := List.getElem?_eq_some_iff.mp e
    rw [List.getElem_range] at e2
    rw [List.length_range] at hk
    subst e2
    exact ⟨hk, (Option.some.inj h).symm⟩
theorem rngD_len {lo : Int} {n : Nat} : (rngD lo n).length = n := by unfold rngD; rw [List.length_map, List.length_range]
/-- for k in range(n) -/
theorem loop_rng {g : AG} {b : AS} {N : AEnds} {lo : Int} {n : Nat} {ρ : Env} (Inv : Nat → Env → Prop) (h0 : Inv 0 ρ)
    (hs : ∀ (i : Nat) (ρ : Env) (K : Env → Prop), i < n → Inv i ρ → (∀ ρ', Inv (i + 1) ρ' → K ρ') → g (.int (lo + (i : Nat))) ρ (fun ρ2 => b ⟨K, N.rt, N.nx, K, N.ex⟩ ρ2)) (hd : ∀ ρ, Inv n ρ → N.nx ρ) : aLoop g b N (rngD lo n) ρ :=
  loop_inv Inv h0 (fun i d ρ K e h k => by
    obtain ⟨hi, rfl⟩ := rngD_at e
    exact hs i ρ K hi h k) (fun ρ h => hd ρ (by rw [rngD_len] at h; exact h))
/-- for x in a row of things of one kind -/
theorem loop_map {α : Type} {f : α → D} {g : AG} {b : AS} {N : AEnds} {xs : List α} {ρ : Env} (Inv : Nat → Env → Prop) (h0 : Inv 0 ρ)
    (hs : ∀ (i : Nat) (x : α) (ρ : Env) (K : Env → Prop), xs[i]? = some x → Inv i ρ → (∀ ρ', Inv (i + 1) ρ' → K ρ') → g (f x) ρ (fun ρ2 => b ⟨K, N.rt, N.nx, K, N.ex⟩ ρ2)) (hd : ∀ ρ, Inv xs.length ρ → N.nx ρ) : aLoop g b N (xs.map f) ρ :=
  loop_inv Inv h0 (fun i d ρ K e h k => by
    rw [List.getElem?_map] at e
    cases ex : xs[i]? with
    | none => rw [ex] at e; cases e
    | some x =>
      rw [ex] at e
      cases e
      exact hs i x ρ K ex h k) (fun ρ h => hd ρ (by rw [List.length_map] at h; exact h))
section
variable {g : AG} {tt : AT} {te : AE} {ρ : Env} {X : Exn → Prop} {Q : List D → Prop}
theorem comp_rel {ds acc : List D} (P : D → D → Prop) (hl : acc.length + ds.length ≤ 1000000) (h : ∀ d ∈ ds, ∀ Q : D → Prop, (∀ y, P d y → Q y) → g d ρ (fun ρ2 => te ρ2 Q X)) (q : ∀ ys, Paired P ds ys → Q (acc ++ ys)) : aComp g aYes te ρ X ds acc Q := by
  induction ds generalizing acc with
  | nil =>
    have := q [] .nil
    rwa [List.append_nil] at this
  | cons d ds ih =>
    rw [List.length_cons] at hl
    refine h d List.mem_cons_self _ fun y hy => ⟨by omega, ih (by rw [List.length_append]; show acc.length + 1 + _ ≤ _; omega) (fun e he => h e (List.mem_cons_of_mem _ he)) fun ys hys => ?_⟩
    have := q (y :: ys) (.cons hy hys)
    rwa [List.append_assoc]
theorem comp_map {ds acc : List D} (f : D → D) (hl : acc.length + ds.length ≤ 1000000) (h : ∀ d ∈ ds, ∀ Q : D → Prop, Q (f d) → g d ρ (fun ρ2 => te ρ2 Q X)) (q : Q (acc ++ ds.map f)) : aComp g aYes te ρ X ds acc Q := by
  refine comp_rel (fun d y => y = f d) hl (fun d hd Q k => h d hd Q (k _ rfl)) fun ys hys => ?_
  have : ys = ds.map f := by
    clear q h hl
    induction hys with
    | nil => rfl
    | cons h t ih => rw [h, ih]; rfl
  rw [this]
  exact q
theorem comp_filter {ds acc : List D} (p : D → Bool) (f : D → D) (hl : acc.length + ds.length ≤ 1000000)
    (h : ∀ d ∈ ds, ∀ (Q : D → Prop) (A : Prop), (p d = true → Q (f d)) → (p d = false → A) → g d ρ (fun ρ2 => tt ρ2 (fun b => cond b (te ρ2 Q X) A) X)) (q : Q (acc ++ (ds.filter p).map f)) : aComp g tt te ρ X ds acc Q := by
  induction ds generalizing acc with
  | nil => rwa [List.filter_nil, List.map_nil, List.append_nil] at q
  | cons d ds ih =>
    rw [List.length_cons] at hl
    refine h d List.mem_cons_self _ _ (fun hp => ⟨by omega, ih (by rw [List.length_append]; show acc.length + 1 + _ ≤ _; omega) (fun e he => h e (List.mem_cons_of_mem _ he)) ?_⟩) (fun hp => ih (by omega) (fun e he => h e (List.mem_cons_of_mem _ he)) ?_)
    · rw [List.filter_cons_of_pos hp, List.map_cons] at q
      rwa [List.append_assoc]
    · rwa [List.filter_cons_of_neg (by rw [hp]; exact Bool.false_ne_true)] at q
end
theorem paired_map {α β : Type} {f : α → β} {P : β → D → Prop} : ∀ {xs : List α} {ys : List D}, Paired P (xs.map f) ys → Paired (fun x y => P (f x) y) xs ys
  | [], _, h => by cases h; exact .nil
  | x :: xs, _, h => by
    cases h with
    | cons h t => exact .cons h (paired_map t)
/-- numbers within bounds, one for each -/
theorem paired_ints {α : Type} {P : Int → Prop} : ∀ {xs : List α} {ys : List D}, Paired (fun _ y => ∃ i, y = .int i ∧ P i) xs ys → ∃ ns : List Int, ys = ns.map D.int ∧ ns.length = xs.length ∧ ∀ n ∈ ns, P n
  | _, _, .nil => ⟨[], rfl, rfl, fun n h => by cases h⟩
  | _, _, .cons ⟨i, h1, h2⟩ t => by
    obtain ⟨ns, e1, e2, e3⟩ := paired_ints t
    refine ⟨i :: ns, by rw [h1, e1]; rfl, by rw [List.length_cons, List.length_cons, e2], fun n hn => ?_⟩
    rcases List.mem_cons.mp hn with rfl | hn
    · exact h2
    · exact e3 n hn
theorem atI_nat {α : Type} {xs : List α} {i : Nat} {x : α} (h : xs[i]? = some x) : atI xs (i : Int) = some x := by
  unfold atI
  rw [ixN_of rfl (List.getElem?_eq_some_iff.mp h).1]
  exact h
theorem atI_map {α : Type} {f : α → D} {xs : List α} {i : Nat} {x : α} (h : xs[i]? = some x) : atI (xs.map f) (i : Int) = some (f x) := atI_nat (by rw [List.getElem?_map, h]; rfl)
theorem ixN_nat {n i : Nat} (h : i < n) : ixN n (i : Int) = some i := ixN_of rfl h
end SW

namespace SW
open PySem PySem.Spec PyProof.Rows L2
/-! ### readings without addresses, step by step -/
section
variable {ρ ρ' : Env} {nx bk ct : Env → Prop} {rt : AV → Env → Prop} {ex X : Exn → Prop} {Q : D → Prop} {O : AV → Prop} {L : List D → Prop} {a b e e' : AE} {o : AO} {r : AL} {t u : AT} {sa sb : AS} {i j : Nat} {d d' : D} {ds es : List D} {av : AV}
theorem w_seq (q : sa ⟨fun ρ' => sb ⟨nx, rt, bk, ct, ex⟩ ρ', rt, bk, ct, ex⟩ ρ) : aSeq sa sb ⟨nx, rt, bk, ct, ex⟩ ρ := q
theorem w_next (q : nx ρ) : aNext ⟨nx, rt, bk, ct, ex⟩ ρ := q
theorem w_set (q : e ρ (fun d => nx (ρ.set i (some (.fz d)))) ex) : aSet i e ⟨nx, rt, bk, ct, ex⟩ ρ := q
theorem w_setO (q : o ρ (fun av => nx (ρ.set i (some av))) ex) : aSetO i o ⟨nx, rt, bk, ct, ex⟩ ρ := q
theorem w_drop (q : e ρ (fun _ => nx ρ) ex) : aDrop e ⟨nx, rt, bk, ct, ex⟩ ρ := q
theorem w_ret (q : e ρ (fun d => rt (.fz d) ρ) ex) : aRet e ⟨nx, rt, bk, ct, ex⟩ ρ := q
theorem w_retO (q : o ρ (fun av => rt av ρ) ex) : aRetO o ⟨nx, rt, bk, ct, ex⟩ ρ := q
theorem w_retN (q : rt (.fz .non) ρ) : aRetN ⟨nx, rt, bk, ct, ex⟩ ρ := q
theorem w_retV (h : ρ[i]? = some (some (.ol ds))) (q : rt (.ol ds) (ρ.set i none)) : aRetV i ⟨nx, rt, bk, ct, ex⟩ ρ := by unfold aRetV; rw [h]; exact q
theorem w_if (q : t ρ (fun x => cond x (sa ⟨nx, rt, bk, ct, ex⟩ ρ) (sb ⟨nx, rt, bk, ct, ex⟩ ρ)) ex) : aIf t sa sb ⟨nx, rt, bk, ct, ex⟩ ρ := q
theorem w_brk (q : bk ρ) : aBrk ⟨nx, rt, bk, ct, ex⟩ ρ := q
theorem w_cnt (q : ct ρ) : aCnt ⟨nx, rt, bk, ct, ex⟩ ρ := q
theorem w_raise {C : Addr} (q : ex ⟨C, [], []⟩) : aRaise C ⟨nx, rt, bk, ct, ex⟩ ρ := q
theorem w_var (h : ρ[i]? = some (some (.fz d))) (q : Q d) : aVar i ρ Q X := by unfold aVar; rw [h]; exact q
theorem w_varW (h : ρ[i]? = some (some av)) (f : av.frz = some d) (q : Q d) : aVarW i ρ Q X := by
  unfold aVarW
  rw [h]
  cases av <;> first | (cases f; exact q) | cases f
theorem w_c (q : Q d) : aC d ρ Q X := q
theorem w_op {f : D → D → (D → Prop) → Prop} (q : a ρ (fun d => b ρ (fun e => f d e Q) X) X) : aOp f a b ρ Q X := q
theorem w_opO {f : D → D → (AV → Prop) → Prop} (q : a ρ (fun d => b ρ (fun e => f d e O) X) X) : aOpO f a b ρ O X := q
theorem w_un {f : D → (D → Prop) → Prop} (q : a ρ (fun d => f d Q) X) : aUn f a ρ Q X := q
theorem w_oI {g : Int → Int → D} {x y : Int} (q : Q (g x y)) : oI g (.int x) (.int y) Q := q
theorem w_oIC {C : Int → Int → Prop} {g : Int → Int → D} {x y : Int} (c : C x y) (q : Q (g x y)) : oIC C g (.int x) (.int y) Q := ⟨c, q⟩
theorem w_oU {g : Int → D} {x : Int} (q : Q (g x)) : oU g (.int x) Q := q
theorem w_oEq {k : Bool} (h : eqS d d' = some k) (q : Q (.bl k)) : oEq d d' Q := by unfold oEq; rw [h]; exact q
theorem w_oNe {k : Bool} (h : eqS d d' = some k) (q : Q (.bl (!k))) : oNe d d' Q := by unfold oNe; rw [h]; exact q
theorem w_isN0 (q : Q (.bl true)) : oIsN .non .non Q := q
theorem w_isNi {x : Int} (q : Q (.bl false)) : oIsN (.int x) .non Q := q
theorem w_isNl (q : Q (.bl false)) : oIsN (.lst ds) .non Q := q
theorem w_isNt (q : Q (.bl false)) : oIsN (.tup ds) .non Q := q
theorem w_isNs {x : Str} (q : Q (.bl false)) : oIsN (.str x) .non Q := q
theorem w_isNo {C : Addr} {ns : List Str} (q : Q (.bl false)) : oIsN (.obj C ns ds) .non Q := q
theorem w_notN0 (q : Q (.bl false)) : oNotN .non .non Q := q
theorem w_notNi {x : Int} (q : Q (.bl true)) : oNotN (.int x) .non Q := q
theorem w_notNl (q : Q (.bl true)) : oNotN (.lst ds) .non Q := q
theorem w_notNt (q : Q (.bl true)) : oNotN (.tup ds) .non Q := q
theorem w_notNs {x : Str} (q : Q (.bl true)) : oNotN (.str x) .non Q := q
theorem w_notNo {C : Addr} {ns : List Str} (q : Q (.bl true)) : oNotN (.obj C ns ds) .non Q := q
theorem w_ixL {k : Int} (h : atI ds k = some d) (q : Q d) : oIxL (.lst ds) (.int k) Q := by unfold oIxL; show someQ Q (atI ds k); rw [h]; exact q
theorem w_ixT {k : Int} (h : atI ds k = some d) (q : Q d) : oIxT (.tup ds) (.int k) Q := by unfold oIxT; show someQ Q (atI ds k); rw [h]; exact q
theorem w_ixS {x : Str} {k : Int} {c : Nat} (l : x.length ≤ 1000000) (h : atI x.cps.toList k = some c) (q : Q (.str ⟨#[c]⟩)) : oIxS (.str x) (.int k) Q := ⟨l, by show someQ _ (atI x.cps.toList k); rw [h]; exact q⟩
theorem w_inL (h : flatD d = true) (h' : ds.all flatD = true) (q : Q (.bl (inF d ds))) : oIn d (.lst ds) Q := ⟨h, h', q⟩
theorem w_inT (h : flatD d = true) (h' : ds.all flatD = true) (q : Q (.bl (inF d ds))) : oIn d (.tup ds) Q := ⟨h, h', q⟩
theorem w_ninL (h : flatD d = true) (h' : ds.all flatD = true) (q : Q (.bl (!inF d ds))) : oNotIn d (.lst ds) Q := ⟨h, h', q⟩
theorem w_ninT (h : flatD d = true) (h' : ds.all flatD = true) (q : Q (.bl (!inF d ds))) : oNotIn d (.tup ds) Q := ⟨h, h', q⟩
theorem w_cat (h : ds.length + es.length ≤ 1000000) (q : O (.ol (ds ++ es))) : oCat (.lst ds) (.lst es) O := ⟨h, q⟩
theorem w_catT (h : ds.length + es.length ≤ 1000000) (q : Q (.tup (ds ++ es))) : oCatT (.tup ds) (.tup es) Q := ⟨h, q⟩
theorem repD_one (d : D) : ∀ k : Nat, repD [d] k = List.replicate k d
  | 0 => rfl
  | k + 1 => by
    have := repD_one d k
    unfold repD at this ⊢
    rw [List.replicate_succ, List.flatten_cons, this, List.replicate_succ]
    rfl
theorem w_rep {k : Nat} (hk : k ≤ 1000000) (q : O (.ol (List.replicate k d))) : oRep (.lst [d]) (.int (k : Int)) O := by
  refine ⟨by omega, by omega, ?_, ?_⟩
  · rw [Int.toNat_natCast, List.length_singleton]; omega
  · rw [Int.toNat_natCast, repD_one]
    exact q
theorem w_fz (q : o ρ (frzQ Q) X) : aFz o ρ Q X := q
theorem w_frzL (q : Q (.lst ds)) : frzQ Q (.ol ds) := q
theorem w_frzF (q : Q d) : frzQ Q (.fz d) := q
theorem w_up (q : e ρ (fun d => O (.fz d)) X) : aUp e ρ O X := q
theorem w_call0 {A : AF} {r : AA} (q : r ρ (callQ A ρ O fun _ => False) X) : aCall0 A r ρ O X := q
theorem w_call {A : AF} {r : AA} (q : r ρ (callQ A ρ O X) X) : aCall A r ρ O X := q
theorem w_arg {r : AA} {P : List Arg → Prop} (q : a ρ (fun d => r ρ (fun ds => P (.val d :: ds)) X) X) : aArg a r ρ P X := q
theorem w_slot {r : AA} {P : List Arg → Prop} (h : ρ[i]? = some (some .dr)) (q : r ρ (fun ds => P (.slot i :: ds)) X) : aSlot i r ρ P X := by unfold aSlot; rw [h]; exact q
theorem w_args {P : List Arg → Prop} (q : P []) : aArgs ρ P X := q
theorem w_callQ {A : AF} {as : List Arg} {avs : List AV} (h1 : slots as ≤ 1) (h : argsAV ρ as = some avs) (q : A avs O X) : callQ A ρ O X as := ⟨h1, by rw [h]; exact q⟩
theorem w_draw {m : Int} (h0 : 0 < m) (h1 : m < 2 ^ 200) (q : ∀ r : Int, 0 ≤ r → r < m → O (.fz (.int r))) : A_draw [.dr, .fz (.int m)] O X := ⟨h0, h1, q⟩
theorem w_nil (q : L []) : aNil ρ L X := q
theorem w_cons (q : a ρ (fun d => r ρ (fun ds => L (d :: ds)) X) X) : aCons a r ρ L X := q
theorem w_tup (q : r ρ (fun ds => ds.length ≤ 1000000 ∧ Q (.tup ds)) X) : aTup r ρ Q X := q
theorem w_lst (q : r ρ (fun ds => ds.length ≤ 1000000 ∧ O (.ol ds)) X) : aLst r ρ O X := q
theorem w_test {P : Bool → Prop} (q : e ρ (blQ P) X) : aTest e ρ P X := q
theorem w_blQ {P : Bool → Prop} {k : Bool} (q : P k) : blQ P (.bl k) := q
theorem w_not {P : Bool → Prop} (q : t ρ (fun k => P (!k)) X) : aNot t ρ P X := q
theorem w_and {P : Bool → Prop} (q : t ρ (fun x => cond x (u ρ P X) (P false)) X) : aAnd t u ρ P X := q
theorem w_or {P : Bool → Prop} (q : t ρ (fun x => cond x (P true) (u ρ P X)) X) : aOr t u ρ P X := q
theorem w_andV (q : a ρ (blQ fun x => cond x (b ρ Q X) (Q (.bl false))) X) : aAndV a b ρ Q X := q
theorem w_orV (q : a ρ (blQ fun x => cond x (Q (.bl true)) (b ρ Q X)) X) : aOrV a b ρ Q X := q
theorem w_notV (q : a ρ (blQ fun x => Q (.bl (!x))) X) : aNotV a ρ Q X := q
theorem w_ifE (q : t ρ (fun x => cond x (a ρ Q X) (b ρ Q X)) X) : aIfE t a b ρ Q X := q
theorem w_chain {f g : D → D → (D → Prop) → Prop} (q : a ρ (fun x => b ρ (fun y => f x y (blQ fun k => cond k (e ρ (fun z => g y z Q) X) (Q (.bl false)))) X) X) : aChain f g a b e ρ Q X := q
theorem w_cT {A B : Prop} (q : A) : cond true A B := q
theorem w_cF {A B : Prop} (q : B) : cond false A B := q
theorem w_cNT {A B : Prop} (q : B) : cond (!true) A B := q
theorem w_cNF {A B : Prop} (q : A) : cond (!false) A B := q
theorem w_cN {k : Bool} {A B : Prop} (q : cond k B A) : cond (!k) A B := cond_not q
theorem w_cb {f : List D → (D → Prop) → Prop} (q : r ρ (fun ds => f ds Q) X) : aCB f r ρ Q X := q
theorem w_cbO {f : List D → (AV → Prop) → Prop} (q : r ρ (fun ds => f ds O) X) : aCBO f r ρ O X := q
theorem w_lenL (q : Q (.int ds.length)) : oLen [.lst ds] Q := q
theorem w_lenT (q : Q (.int ds.length)) : oLen [.tup ds] Q := q
theorem w_listL (q : O (.ol ds)) : oList [.lst ds] O := q
theorem w_listT (q : O (.ol ds)) : oList [.tup ds] O := q
theorem w_tupleL (q : Q (.tup ds)) : oTuple [.lst ds] Q := q
theorem w_tupleT (q : Q (.tup ds)) : oTuple [.tup ds] Q := q
theorem w_ints {f : List Int → (D → Prop) → Prop} {ns : List Int} (h : intsOf ds = some ns) (q : f ns Q) : oInts f [.lst ds] Q := by unfold oInts; show someQ _ (intsOf ds); rw [h]; exact q
theorem w_bls {f : List Bool → D} {ns : List Bool} (h : blsOf ds = some ns) (q : Q (f ns)) : oBls f [.lst ds] Q := by unfold oBls; show someQ _ (blsOf ds); rw [h]; exact q
theorem w_isi {m n : String} (h : tyD d = some n) (hm : m = "int" ∨ m = "bool" ∨ m = "str" ∨ m = "list" ∨ m = "tuple") (q : Q (.bl (isiD n m))) : oIsi [d, .ty m] Q := by unfold oIsi; show someQ _ (tyD d); rw [h]; exact ⟨hm, q⟩
theorem w_isiT {m n : String} (h : tyD d = some n) (hm : m = "int" ∨ m = "bool" ∨ m = "str" ∨ m = "list" ∨ m = "tuple") (hk : isiD n m = true) (q : Q (.bl true)) : oIsi [d, .ty m] Q := w_isi h hm (by rw [hk]; exact q)
theorem w_isiF {m n : String} (h : tyD d = some n) (hm : m = "int" ∨ m = "bool" ∨ m = "str" ∨ m = "list" ∨ m = "tuple") (hk : isiD n m = false) (q : Q (.bl false)) : oIsi [d, .ty m] Q := w_isi h hm (by rw [hk]; exact q)
theorem w_fld {C : Addr} {f : Str} (q : a ρ (fldQ C f Q) X) : aFld C f a ρ Q X := q
theorem w_fldQ {C : Addr} {f : Str} {ns : List Str} (h : lookD f ns ds = some d) (q : Q d) : fldQ C f Q (.obj C ns ds) := by unfold fldQ; exact ⟨rfl, by rw [h]; exact q⟩
theorem w_olQ (h : ρ[i]? = some (some (.ol ds))) (q : L ds) : olQ ρ i L := by unfold olQ; rw [h]; exact q
theorem w_app (h : ρ[i]? = some (some (.ol ds))) (q : e ρ (fun d => olQ ρ i fun ds => ds.length < 1000000 ∧ nx (ρ.set i (some (.ol (ds ++ [d]))))) ex) : aApp i e ⟨nx, rt, bk, ct, ex⟩ ρ := w_olQ h q
theorem w_put (h : ρ[i]? = some (some (.ol ds))) (q : e ρ (fun d => e' ρ (fun k => olQ ρ i fun ds => ixQ ds.length (fun j => nx (ρ.set i (some (.ol (ds.set j d))))) k) ex) ex) : aPut i e' e ⟨nx, rt, bk, ct, ex⟩ ρ := w_olQ h q
theorem w_ext (h : ρ[i]? = some (some (.ol ds))) (q : e ρ (lstQ fun es => olQ ρ i fun ds => ds.length + es.length ≤ 1000000 ∧ nx (ρ.set i (some (.ol (ds ++ es))))) ex) : aExt i e ⟨nx, rt, bk, ct, ex⟩ ρ := w_olQ h q
theorem w_ixQ {n : Nat} {k : Int} {P : Nat → Prop} (h : ixN n k = some j) (q : P j) : ixQ n P (.int k) := by show (match ixN n k with | some j => P j | none => False); rw [h]; exact q
theorem w_lstQ (q : L ds) : lstQ L (.lst ds) := q
theorem w_tupQ (q : L ds) : tupQ L (.tup ds) := q
theorem w_intQ {P : Int → Prop} {x : Int} (q : P x) : intQ P (.int x) := q
theorem w_oneQ (q : Q d) : oneQ Q [d] := q
theorem w_twoQ {P : D → D → Prop} (q : P d d') : twoQ P [d, d'] := q
theorem w_for {it : AL} {g : AG} (q : it ρ (fun ds => aLoop g sa ⟨nx, rt, bk, ct, ex⟩ ds ρ) ex) : aFor it g sa ⟨nx, rt, bk, ct, ex⟩ ρ := q
theorem w_itL (q : e ρ (lstQ L) X) : aItL e ρ L X := q
theorem w_itT (q : e ρ (tupQ L) X) : aItT e ρ L X := q
theorem w_rng1 (q : r ρ (oneQ (intQ fun j => (-(2 ^ 62) ≤ j ∧ j < 2 ^ 62) ∧ L (rngD 0 j.toNat))) X) : aRng1 r ρ L X := q
theorem w_rng2 (q : r ρ (twoQ fun d e => intQ (fun i => intQ (fun j => (-(2 ^ 62) ≤ i ∧ i < 2 ^ 62 ∧ -(2 ^ 62) ≤ j ∧ j < 2 ^ 62) ∧ L (rngD i (j - i).toNat)) e) d) X) : aRng2 r ρ L X := q
theorem w_rngI {k : Nat} (h : k ≤ 1000000) (q : L (rngD 0 k)) : (-(2 ^ 62) ≤ (k : Int) ∧ (k : Int) < 2 ^ 62) ∧ L (rngD 0 (k : Int).toNat) := ⟨⟨by omega, by omega⟩, by rw [Int.toNat_natCast]; exact q⟩
theorem w_enum (q : r ρ (oneQ (lstQ fun xs => L (enumD xs))) X) : aEnum r ρ L X := q
theorem w_zip (q : r ρ (twoQ fun d e => lstQ (fun xs => lstQ (fun ys => L (zipD xs ys)) e) d) X) : aZip r ρ L X := q
theorem w_asg {g : AG} (q : e ρ (fun d => g d ρ nx) ex) : aAsg e g ⟨nx, rt, bk, ct, ex⟩ ρ := q
theorem w_gN {P : Env → Prop} (q : P (ρ.set i (some (.fz d)))) : gN i d ρ P := q
theorem w_gT {n : Nat} {rs : AGs} {P : Env → Prop} (h : ds.length = n) (q : rs ds ρ P) : gT n rs (.tup ds) ρ P := ⟨h, q⟩
theorem w_gsCons {g : AG} {rs : AGs} {P : Env → Prop} (q : g d ρ (fun ρ' => rs ds ρ' P)) : gsCons g rs (d :: ds) ρ P := q
theorem w_gsNil {P : Env → Prop} (q : P ρ) : gsNil [] ρ P := q
theorem w_par (q : r ρ (twoQ fun d e => nx ((ρ.set i (some (.fz d))).set j (some (.fz e)))) ex) : aPar i j r ⟨nx, rt, bk, ct, ex⟩ ρ := q
theorem w_aug {f : D → D → (D → Prop) → Prop} (h : ρ[i]? = some (some (.fz d))) (q : e ρ (fun y => f d y fun z => nx (ρ.set i (some (.fz z)))) ex) : aAug i f e ⟨nx, rt, bk, ct, ex⟩ ρ := by unfold aAug; rw [h]; exact q
theorem w_lc {it : AL} {g : AG} {vs : List Nat} (q : it ρ (fun ds => aComp g t e (wipeA ρ vs) X ds [] (fun acc => O (.ol acc))) X) : aLc it g t e vs ρ O X := q
theorem w_yes {P : Bool → Prop} (q : P true) : aYes ρ P X := q
theorem w_sealL (h : ρ[i]? = some (some (.ol ds))) (q : sa ⟨nx, rt, bk, ct, ex⟩ (ρ.set i (some (.fz (.lst ds))))) : aSeal i sa ⟨nx, rt, bk, ct, ex⟩ ρ := by unfold aSeal; rw [h]; exact q
theorem w_sealF (h : ρ[i]? = some (some (.fz d))) (q : sa ⟨nx, rt, bk, ct, ex⟩ ρ) : aSeal i sa ⟨nx, rt, bk, ct, ex⟩ ρ := by unfold aSeal; rw [h]; exact q
theorem w_rev (q : e ρ (lstQ fun ds => O (.ol ds.reverse)) X) : aRev e ρ O X := q
theorem w_sl {f : D → Option Int → Option Int → (D → Prop) → Prop} {lo hi : AP} (q : a ρ (fun d => lo ρ (fun l => hi ρ (fun h => f d l h Q) X) X) X) : aSl f a lo hi ρ Q X := q
theorem w_slO {f : D → Option Int → Option Int → (AV → Prop) → Prop} {lo hi : AP} (q : a ρ (fun d => lo ρ (fun l => hi ρ (fun h => f d l h O) X) X) X) : aSlO f a lo hi ρ O X := q
theorem w_noPart {P : Option Int → Prop} (q : P none) : aNoPart ρ P X := q
theorem w_part {P : Option Int → Prop} (q : e ρ (intQ fun i => P (some i)) X) : aPart e ρ P X := q
theorem w_slL {lo hi : Option Int} (q : O (.ol (cutD ds lo hi))) : oSlL (.lst ds) lo hi O := q
theorem w_slT {lo hi : Option Int} (q : Q (.tup (cutD ds lo hi))) : oSlT (.tup ds) lo hi Q := q
theorem w_eqD (h : okD 8 d = true) (h' : okD 8 d' = true) (q : Q (.bl (deq d d'))) : oEqD d d' Q := ⟨h, h', q⟩
theorem w_neD (h : okD 8 d = true) (h' : okD 8 d' = true) (q : Q (.bl (!deq d d'))) : oNeD d d' Q := ⟨h, h', q⟩
theorem w_inD (h : okD 8 d = true) (h' : okDs 7 ds = true) (q : Q (.bl (inD d ds))) : oInD d (.lst ds) Q := ⟨h, h', q⟩
theorem w_ninD (h : okD 8 d = true) (h' : okDs 7 ds = true) (q : Q (.bl (!inD d ds))) : oNotInD d (.lst ds) Q := ⟨h, h', q⟩
end
end SW

open PySem L2 SW
local macro_rules | `(tactic| walk_at "sw1") => `(tactic| first
  | with_reducible refine i_seq ?_
  | with_reducible refine i_set ?_
  | with_reducible refine i_asg ?_
  | with_reducible refine i_var rfl ?_
  | with_reducible refine i_c ?_
  | with_reducible refine i_op ?_
  | with_reducible refine i_rI0 ?_
  | with_reducible refine i_cons ?_
  | with_reducible refine i_nil ?_
  | with_reducible refine i_call ?_
  | with_reducible refine i_cb ?_
  | with_reducible refine i_if ?_
  | with_reducible refine i_test ?_
  | with_reducible refine i_B ?_
  | with_reducible refine i_bl ?_
  | with_reducible refine i_blV ?_
  | with_reducible refine i_itT ?_
  | with_reducible refine i_itF ?_
  | with_reducible refine i_iteNT ?_
  | with_reducible refine i_iteNF ?_
  | with_reducible refine i_iteNN ?_
  | with_reducible refine i_ret ?_
  | with_reducible refine i_drop ?_
  | with_reducible refine i_next ?_
  | with_reducible refine i_un ?_
  | with_reducible refine i_rU ?_
  | with_reducible refine i_eqI ?_
  | with_reducible refine i_neI ?_
  | with_reducible refine i_eqS ?_
  | with_reducible refine i_neS ?_
  | with_reducible refine i_not ?_
  | with_reducible refine i_and ?_
  | with_reducible refine i_or ?_
  | with_reducible refine i_andV ?_
  | with_reducible refine i_orV ?_
  | with_reducible refine i_notV ?_
  | with_reducible refine i_ifE ?_
  | with_reducible refine i_chain ?_
  | with_reducible refine i_sub ?_
  | with_reducible refine i_lst ?_
  | with_reducible refine i_tup ?_
  | with_reducible refine i_for1 ?_
  | with_reducible refine i_for2 ?_
  | with_reducible refine i_for3 ?_
  | with_reducible refine i_forL ?_
  | with_reducible refine i_forT ?_
  | with_reducible refine i_lc1 ?_
  | with_reducible refine i_lc2 ?_
  | with_reducible refine i_lcL ?_
  | with_reducible refine i_lcT ?_
  | with_reducible refine i_gname ?_
  | with_reducible refine i_yes ?_
  | with_reducible refine i_callN ?_
  | with_reducible refine i_callW ?_
  | with_reducible refine i_callS ?_
  | with_reducible refine i_par ?_
  | with_reducible refine i_sl ?_
  | with_reducible refine i_nopart ?_
  | with_reducible refine i_part ?_
  | with_reducible refine i_partE ?_
  | with_reducible refine i_parE ?_
  | with_reducible refine i_ipI ?_
  | with_reducible refine i_asg2 ?_
  | with_reducible refine i_gcons ?_
  | with_reducible refine i_gnil ?_
  | with_reducible refine i_retN ?_
  | with_reducible refine i_brk ?_
  | with_reducible refine i_cont ?_)
local macro_rules | `(tactic| walk_at "hp") => `(tactic| first | assumption | exact upd_same | (refine upd_get (by assumption) ?_; walk_at "hp") | ((rw [upd_ne (by assumption)]); walk_at "hp"))
local macro_rules | `(tactic| walk_at "cc") => `(tactic| first | omega | decide | exact ⟨by decide, by decide⟩ | exact ⟨by omega, by omega⟩ | exact ⟨by decide, by decide, by decide⟩ | exact Or.inr ⟨by decide, by decide⟩ | exact Or.inl ⟨by decide, by decide⟩ | exact Or.inr ⟨by omega, by omega⟩ | exact Or.inl ⟨by omega, by omega⟩ | assumption)
local macro_rules | `(tactic| walk_at "sw2") => `(tactic| first
  | walk_at "sw1"
  | ((with_reducible refine' i_rI ?c1 ?_); (case c1 => (dsimp only; walk_at "cc")))
  | ((with_reducible refine' i_rI ?c1 ?_); (case c1 => (walk_at "cc")))
  | ((with_reducible refine' i_ixL ?c1 ?c2 ?_); (case c1 => walk_at "hp"); (case c2 => exact rfl))
  | ((with_reducible refine' i_ixT ?c1 ?c2 ?_); (case c1 => walk_at "hp"); (case c2 => exact rfl))
  | with_reducible refine i_isI ?_
  | with_reducible refine i_isB ?_
  | with_reducible refine i_isBB ?_
  | ((with_reducible refine' i_isL ?c1 ?_); (case c1 => walk_at "hp"))
  | ((with_reducible refine' i_isT ?c1 ?_); (case c1 => walk_at "hp"))
  | ((with_reducible refine' i_setL ?c1 ?c2 ?_); (case c1 => walk_at "hp"); (case c2 => exact rfl))
  | ((with_reducible refine' i_rI ?c1 ?_); (case c1 => first | (apply_assumption; done) | exact wide_div (b := 200) (by omega) (by omega) (by decide) (by decide)))
  | ((with_reducible refine' Exists.intro _ (Exists.intro _ (And.intro rfl (And.intro (Or.inl (SqL.of ?c1)) ?_)))); (case c1 => walk_at "hp"))
  | ((with_reducible refine' Exists.intro _ (Exists.intro _ (And.intro rfl (And.intro (Or.inr (SqT.of ?c1)) ?_)))); (case c1 => walk_at "hp"))
  | ((with_reducible refine' Exists.intro _ (And.intro (rfl : [V.int _] = [V.int _]) ?_)))
  | ((with_reducible refine' Exists.intro _ (Exists.intro _ (And.intro (rfl : [V.int _, V.int _] = [V.int _, V.int _]) ?_))))
  | (with_reducible refine And.intro (Nat.le_of_ble_eq_true rfl : List.length _ ≤ sizeLine) ?_))
local macro_rules | `(tactic| walk_at "sw3") => `(tactic| first
  | walk_at "sw2"
  | with_reducible refine i_fld ?_
  | ((with_reducible refine' i_fldI ?c1 ?c2 ?c3 ?c4 ?_); (case c1 => walk_at "hp"); (case c2 => assumption); (case c3 => assumption); (case c4 => exact rfl))
  | with_reducible refine i_sfld ?_
  | ((with_reducible refine' i_sfldI ?c1 ?c2 ?c3 ?c4 ?c5 ?_); (case c1 => walk_at "hp"); (case c2 => assumption); (case c3 => assumption); (case c4 => exact rfl); (case c5 => exact (Nat.le_of_ble_eq_true rfl)))
  | with_reducible refine i_meS ?_
  | with_reducible refine i_meth ?_
  | ((with_reducible refine' i_recv ?c1 ?c2 ?_); (case c1 => walk_at "hp"); (case c2 => exact rfl))
  | with_reducible refine i_mkS ?_
  | with_reducible refine i_mkNS ?_
  | with_reducible refine i_callNS ?_
  | with_reducible refine i_callSD ?_
  | with_reducible refine i_forE ?_
  | with_reducible refine i_forZ ?_
  | with_reducible refine i_lcE ?_
  | with_reducible refine i_lcZ ?_
  | ((with_reducible refine' i_aug ?c1 ?_); (case c1 => exact rfl))
  | with_reducible refine And.intro (rfl : V.non = V.non) ?_
  | with_reducible refine i_bm ?_
  | with_reducible refine i_bm0 ?_
  | ((with_reducible refine' i_lenL ?c1 ?_); (case c1 => walk_at "hp"))
  | ((with_reducible refine' i_lenT ?c1 ?_); (case c1 => walk_at "hp"))
  | ((with_reducible refine' i_listL ?c1 ?_); (case c1 => walk_at "hp"))
  | ((with_reducible refine' i_listT ?c1 ?_); (case c1 => walk_at "hp"))
  | ((with_reducible refine' i_tupleL ?c1 ?_); (case c1 => walk_at "hp"))
  | ((with_reducible refine' i_tupleT ?c1 ?_); (case c1 => walk_at "hp"))
  | ((with_reducible refine' i_tyL ?c1 ?_); (case c1 => walk_at "hp"))
  | ((with_reducible refine' i_app ?c1 ?c2 ?_); (case c1 => walk_at "hp"); (case c2 => first | assumption | omega | (simp; done) | ((simp only [List.length_map, List.length_append, List.length_take]); omega)))
  | ((with_reducible refine' i_slL ?c1 ?_); (case c1 => walk_at "hp"))
  | ((with_reducible refine' i_gtup ?c1 ?c2 ?_); (case c1 => walk_at "hp"); (case c2 => exact rfl)))
local macro_rules | `(tactic| walk_at "sw") => `(tactic| ((try dsimp only); repeat walk_at "sw3"))
local macro_rules | `(tactic| walk_at "simop") => `(tactic| first
  | exact op_i0 (fun _ _ _ => rfl) | exact op_ic (fun _ _ _ => rfl) | exact op_eqS | exact op_neS | exact op_isND | exact op_notND | exact op_inS' | exact op_notInS' | exact op_ixL | exact op_ixT | exact op_ixS | exact op_catTD | exact op_ip | exact op_eqDD | exact op_neDD | exact op_inDD | exact op_notInDD)
local macro_rules | `(tactic| walk_at "simbu") => `(tactic| first
  | exact bu_len | exact bu_sum | exact bu_max | exact bu_min | exact bu_all | exact bu_any | exact bu_isi | exact bu_tuple)
local macro_rules | `(tactic| walk_at "simg") => `(tactic| first
  | with_reducible exact sim_gN rfl
  | with_reducible exact sim_gsNil
  | ((with_reducible refine' sim_gT ?g2); (case g2 => walk_at "simg"))
  | ((with_reducible refine' sim_gsCons ?g2 ?g3); (case g2 => walk_at "simg"); (case g3 => walk_at "simg")))
local macro_rules | `(tactic| walk_at "sim1") => `(tactic| first
  | exact sim_var | exact sim_int | exact sim_str | exact sim_bl | exact sim_non | exact sim_ty | exact sim_varW | exact sim_yes | exact sim_next | exact sim_retN | exact sim_brk | exact sim_cnt | exact sim_nil | exact sim_nilW | exact sim_args | exact sim_gsNil
  | ((with_reducible refine' sim_op ?c1 ?_ ?_); (case c1 => walk_at "simop"))
  | with_reducible refine sim_seq ?_ ?_
  | ((with_reducible refine' sim_seal ?c1 ?_); (case c1 => exact rfl))
  | ((with_reducible refine' sim_set ?c1 ?_); (case c1 => exact rfl))
  | ((with_reducible refine' sim_setO ?c1 ?_); (case c1 => exact rfl))
  | with_reducible refine sim_if ?_ ?_ ?_
  | with_reducible refine sim_test ?_
  | with_reducible refine sim_B ?_
  | with_reducible refine sim_not ?_
  | with_reducible refine sim_and ?_ ?_
  | with_reducible refine sim_or ?_ ?_
  | with_reducible refine sim_ret ?_
  | with_reducible refine sim_retO ?_
  | ((with_reducible refine' sim_retV ?c1); (case c1 => exact rfl))
  | with_reducible refine sim_fz ?_
  | with_reducible refine sim_up ?_
  | with_reducible refine sim_cons ?_ ?_
  | with_reducible refine sim_consW ?_ ?_
  | with_reducible refine sim_arg ?_ ?_
  | with_reducible refine sim_slot ?_
  | with_reducible refine sim_tup ?_
  | with_reducible refine sim_lst ?_
  | with_reducible refine sim_un (un_i fun _ _ => rfl) ?_
  | with_reducible refine sim_andV ?_ ?_
  | with_reducible refine sim_orV ?_ ?_
  | with_reducible refine sim_notV ?_
  | with_reducible refine sim_ifE ?_ ?_ ?_
  | ((with_reducible refine' sim_chain ?c1 ?c2 ?_ ?_ ?_); (case c1 => walk_at "simop"); (case c2 => walk_at "simop"))
  | ((with_reducible refine' sim_cb ?c1 ?_); (case c1 => walk_at "simbu"))
  | ((with_reducible refine' sim_cbO ?c1 ?_); (case c1 => exact bu_list))
  | ((with_reducible refine' sim_opO ?c1 ?_ ?_); (case c1 => first | exact op_catD | exact op_repD))
  | ((with_reducible refine' sim_fld ?c1 ?c2 ?_); (case c1 => assumption); (case c2 => assumption))
  | with_reducible refine sim_call ?_
  | ((with_reducible refine' sim_callS ?c1 ?_); (case c1 => exact fun _ => rfl))
  | refine sim_app ?_
  | with_reducible refine sim_put ?_ ?_
  | with_reducible refine sim_ext ?_
  | ((with_reducible refine' sim_aug ?c1 ?c2 ?_); (case c1 => walk_at "simop"); (case c2 => exact rfl))
  | ((with_reducible refine' sim_par ?c1 ?c2 ?_); (case c1 => exact rfl); (case c2 => exact rfl))
  | ((with_reducible refine' sim_for ?_ ?g1 ?_); (case g1 => walk_at "simg"))
  | with_reducible refine sim_while ?_ ?_
  | with_reducible refine sim_itL ?_
  | with_reducible refine sim_itT ?_
  | with_reducible refine sim_rng1 ?_
  | with_reducible refine sim_rng2 ?_
  | with_reducible refine sim_enum ?_
  | with_reducible refine sim_zip ?_
  | ((refine' sim_lc ?_ ?g1 ?_ ?_ ?c1 ?c2); (case g1 => walk_at "simg"); (case c1 => exact rfl); (case c2 => exact rfl))
  | ((with_reducible refine' sim_gN ?c1); (case c1 => exact rfl))
  | with_reducible refine sim_gT ?_
  | with_reducible refine sim_gsCons ?_ ?_
  | ((with_reducible refine' sim_asg ?_ ?g1); (case g1 => walk_at "simg"))
  | with_reducible refine sim_drop ?_
  | ((with_reducible refine' sim_raise ?c1); (case c1 => exact rfl))
  | refine sim_rev ?_
  | with_reducible exact sim_noPart
  | with_reducible refine sim_part ?_
  | with_reducible refine sim_sl sl_tD ?_ ?_ ?_
  | with_reducible refine sim_slO sl_lD ?_ ?_ ?_
  | with_reducible refine sim_itLW ?_
  | with_reducible refine SimI.w ?_
  | with_reducible refine SimE.w ?_)
local macro_rules | `(tactic| walk_at "sim") => `(tactic| repeat' walk_at "sim1")
local macro_rules | `(tactic| walk_at "aw1") => `(tactic| first
  | with_reducible refine w_seq ?_
  | with_reducible refine w_next ?_
  | with_reducible refine w_set ?_
  | with_reducible refine w_setO ?_
  | with_reducible refine w_drop ?_
  | with_reducible refine w_ret ?_
  | with_reducible refine w_retO ?_
  | with_reducible refine w_retN ?_
  | with_reducible refine w_if ?_
  | with_reducible refine w_brk ?_
  | with_reducible refine w_cnt ?_
  | with_reducible refine w_raise ?_
  | with_reducible refine w_c ?_
  | with_reducible refine w_op ?_
  | with_reducible refine w_opO ?_
  | with_reducible refine w_un ?_
  | with_reducible refine w_oI ?_
  | with_reducible refine w_oU ?_
  | with_reducible refine w_isN0 ?_
  | with_reducible refine w_isNi ?_
  | with_reducible refine w_isNl ?_
  | with_reducible refine w_isNt ?_
  | with_reducible refine w_isNs ?_
  | with_reducible refine w_isNo ?_
  | with_reducible refine w_notN0 ?_
  | with_reducible refine w_notNi ?_
  | with_reducible refine w_notNl ?_
  | with_reducible refine w_notNt ?_
  | with_reducible refine w_notNs ?_
  | with_reducible refine w_notNo ?_
  | with_reducible refine w_fz ?_
  | with_reducible refine w_frzL ?_
  | with_reducible refine w_frzF ?_
  | with_reducible refine w_up ?_
  | with_reducible refine w_call0 ?_
  | with_reducible refine w_call ?_
  | with_reducible refine w_arg ?_
  | with_reducible refine w_args ?_
  | with_reducible refine w_nil ?_
  | with_reducible refine w_cons ?_
  | with_reducible refine w_tup ?_
  | with_reducible refine w_lst ?_
  | with_reducible refine w_test ?_
  | with_reducible refine w_blQ ?_
  | with_reducible refine w_not ?_
  | with_reducible refine w_and ?_
  | with_reducible refine w_or ?_
  | with_reducible refine w_andV ?_
  | with_reducible refine w_orV ?_
  | with_reducible refine w_notV ?_
  | with_reducible refine w_ifE ?_
  | with_reducible refine w_chain ?_
  | with_reducible refine w_cT ?_
  | with_reducible refine w_cF ?_
  | with_reducible refine w_cNT ?_
  | with_reducible refine w_cNF ?_
  | with_reducible refine w_cN ?_
  | with_reducible refine w_cb ?_
  | with_reducible refine w_cbO ?_
  | with_reducible refine w_lenL ?_
  | with_reducible refine w_lenT ?_
  | with_reducible refine w_listL ?_
  | with_reducible refine w_listT ?_
  | with_reducible refine w_tupleL ?_
  | with_reducible refine w_tupleT ?_
  | with_reducible refine w_fld ?_
  | with_reducible refine w_lstQ ?_
  | with_reducible refine w_tupQ ?_
  | with_reducible refine w_intQ ?_
  | with_reducible refine w_oneQ ?_
  | with_reducible refine w_twoQ ?_
  | with_reducible refine w_for ?_
  | with_reducible refine w_itL ?_
  | with_reducible refine w_itT ?_
  | with_reducible refine w_rng1 ?_
  | with_reducible refine w_rng2 ?_
  | with_reducible refine w_enum ?_
  | with_reducible refine w_zip ?_
  | with_reducible refine w_asg ?_
  | with_reducible refine w_gN ?_
  | with_reducible refine w_gsCons ?_
  | with_reducible refine w_gsNil ?_
  | with_reducible refine w_par ?_
  | with_reducible refine w_lc ?_
  | with_reducible refine w_yes ?_
  | with_reducible refine w_rev ?_
  | with_reducible refine w_sl ?_
  | with_reducible refine w_slO ?_
  | with_reducible refine w_noPart ?_
  | with_reducible refine w_part ?_
  | with_reducible refine w_slL ?_
  | with_reducible refine w_slT ?_
  | ((with_reducible refine' w_slot ?c1 ?_); (case c1 => exact rfl))
  | ((with_reducible refine' w_app ?c1 ?_); (case c1 => exact rfl))
  | ((with_reducible refine' w_put ?c1 ?_); (case c1 => exact rfl))
  | ((with_reducible refine' w_ext ?c1 ?_); (case c1 => exact rfl))
  | ((with_reducible refine' w_aug ?c1 ?_); (case c1 => exact rfl))
  | ((with_reducible refine' w_olQ ?c1 ?_); (case c1 => exact rfl))
  | ((with_reducible refine' w_sealL ?c1 ?_); (case c1 => exact rfl))
  | ((with_reducible refine' w_sealF ?c1 ?_); (case c1 => exact rfl))
  | ((with_reducible refine' w_retV ?c1 ?_); (case c1 => exact rfl))
  | ((with_reducible refine' w_var ?c1 ?_); (case c1 => exact rfl))
  | ((with_reducible refine' w_varW ?c1 ?c2 ?_); (case c1 => exact rfl); (case c2 => exact rfl))
  | ((with_reducible refine' w_callQ ?c1 ?c2 ?_); (case c1 => exact (Nat.le_of_ble_eq_true rfl)); (case c2 => exact rfl))
  | ((with_reducible refine' w_oIC ?c1 ?_); (case c1 => (dsimp only; walk_at "cc")))
  | ((with_reducible refine' w_oIC ?c1 ?_); (case c1 => walk_at "cc"))
  | ((with_reducible refine' w_oEq ?c1 ?_); (case c1 => exact rfl))
  | ((with_reducible refine' w_oNe ?c1 ?_); (case c1 => exact rfl))
  | ((with_reducible refine' w_fldQ ?c1 ?_); (case c1 => exact rfl))
  | ((with_reducible refine' w_gT ?c1 ?_); (case c1 => exact rfl))
  | ((with_reducible refine' w_isiT ?c1 ?c2 ?c3 ?_); (case c1 => exact rfl); (case c2 => decide); (case c3 => decide))
  | ((with_reducible refine' w_isiF ?c1 ?c2 ?c3 ?_); (case c1 => exact rfl); (case c2 => decide); (case c3 => decide))
  | (with_reducible refine And.intro (Nat.le_of_ble_eq_true rfl : List.length _ ≤ 1000000) ?_)
  | (with_reducible refine And.intro (Nat.le_of_ble_eq_true rfl : List.length _ < 1000000) ?_))
local macro_rules | `(tactic| walk_at "aw") => `(tactic| ((repeat walk_at "aw1"); (try dsimp only [List.set_cons_zero, List.set_cons_succ])))
local macro_rules | `(tactic| walk_at "rg") => `(tactic| ((try rw [List.length_map]); (refine ⟨⟨by omega, by omega⟩, ?_⟩); (rw [Int.toNat_natCast])))

namespace SW
open PySem L2
def top (i : Nat) : Stmt := PySem.Challenge.pw_slotwright_k20_least_or_ring.main.body.getD i (.Pass ⟨0, 0, 0, 0⟩)
abbrev s_rounds : Stmt := top 1
abbrev s_least : Stmt := top 2
abbrev s_ring : Stmt := top 3
abbrev s_law_start : Stmt := top 5
abbrev s_law_draw : Stmt := top 6
abbrev s_law_whole : Stmt := top 7
abbrev s_law_wants : Stmt := top 8
abbrev s_law_ring : Stmt := top 9
abbrev s_law_held : Stmt := top 10
abbrev s_law : Stmt := top 11
theorem sc_rounds : FnScope ["count", "wants", "found", "cause", "raised", "turn", "want", "i", "j", "c"] ["count", "wants"] (defScope s_rounds) := ⟨rfl, rfl, rfl, by decide +kernel, rfl, by decide +kernel, by decide +kernel⟩
theorem sc_least : FnScope ["count", "wants", "found", "cause", "raised"] ["count", "wants"] (defScope s_least) := ⟨rfl, rfl, rfl, by decide +kernel, rfl, by decide +kernel, by decide +kernel⟩
theorem sc_ring : FnScope ["count", "wants", "found", "cause", "raised", "at", "turn", "first"] ["count", "wants"] (defScope s_ring) := ⟨rfl, rfl, rfl, by decide +kernel, rfl, by decide +kernel, by decide +kernel⟩
theorem sc_law_start : FnScope ["_law_script"] ["_law_script"] (defScope s_law_start) := ⟨rfl, rfl, rfl, by decide +kernel, rfl, by decide +kernel, by decide +kernel⟩
theorem sc_law_draw : FnScope ["_law_s", "_law_many", "_law_cell", "_law_found"] ["_law_s", "_law_many"] (defScope s_law_draw) := ⟨rfl, rfl, rfl, by decide +kernel, rfl, by decide +kernel, by decide +kernel⟩
theorem sc_law_whole : FnScope ["_law_x"] ["_law_x"] (defScope s_law_whole) := ⟨rfl, rfl, rfl, by decide +kernel, rfl, by decide +kernel, by decide +kernel⟩
theorem sc_law_wants : FnScope ["_law_s", "_law_count", "_law_wants_here", "_law_the_spots", "_law_k", "_law_i", "_law_j", "_law_top"] ["_law_s", "_law_count"] (defScope s_law_wants) := ⟨rfl, rfl, rfl, by decide +kernel, rfl, by decide +kernel, by decide +kernel⟩
theorem sc_law_ring : FnScope ["_law_found", "_law_wants_here", "_law_at", "_law_x", "_law_want"] ["_law_found", "_law_wants_here"] (defScope s_law_ring) := ⟨rfl, rfl, rfl, by decide +kernel, rfl, by decide +kernel, by decide +kernel⟩
theorem sc_law_held : FnScope ["_law_found", "_law_wants_here", "_law_sure", "_law_turn", "_law_i", "_law_j", "_law_c", "_law_one"] ["_law_found", "_law_wants_here"] (defScope s_law_held) := ⟨rfl, rfl, rfl, by decide +kernel, rfl, by decide +kernel, by decide +kernel⟩
theorem sc_law : FnScope ["_law_script", "_law_s", "_law_count", "_law_wants_here", "_law_handed", "_law_found", "_law_broken", "_law_x", "_law_i", "_law_j", "_law_c"] ["_law_script"] (defScope s_law) := ⟨rfl, rfl, rfl, by decide +kernel, rfl, by decide +kernel, by decide +kernel⟩
structure Tx (K : PySem.W.Frag) (mg : Str → Option Value) where
  f_rounds : Addr
  fd_rounds : FuncData
  F_rounds : Fun K "rounds" "rounds" s_rounds f_rounds fd_rounds
  b_rounds : Binds K fd_rounds ["count", "wants"] []
  g_rounds : mg "rounds" = some (.ref f_rounds)
  f_least : Addr
  fd_least : FuncData
  F_least : Fun K "least" "least" s_least f_least fd_least
  b_least : Binds K fd_least ["count", "wants"] []
  g_least : mg "least" = some (.ref f_least)
  f_ring : Addr
  fd_ring : FuncData
  F_ring : Fun K "ring" "ring" s_ring f_ring fd_ring
  b_ring : Binds K fd_ring ["count", "wants"] []
  g_ring : mg "ring" = some (.ref f_ring)
  f_law_start : Addr
  fd_law_start : FuncData
  F_law_start : Fun K "_law_start" "_law_start" s_law_start f_law_start fd_law_start
  b_law_start : Binds K fd_law_start ["_law_script"] []
  g_law_start : mg "_law_start" = some (.ref f_law_start)
  f_law_draw : Addr
  fd_law_draw : FuncData
  F_law_draw : Fun K "_law_draw" "_law_draw" s_law_draw f_law_draw fd_law_draw
  b_law_draw : Binds K fd_law_draw ["_law_s", "_law_many"] []
  g_law_draw : mg "_law_draw" = some (.ref f_law_draw)
  f_law_whole : Addr
  fd_law_whole : FuncData
  F_law_whole : Fun K "_law_whole" "_law_whole" s_law_whole f_law_whole fd_law_whole
  b_law_whole : Binds K fd_law_whole ["_law_x"] []
  g_law_whole : mg "_law_whole" = some (.ref f_law_whole)
  f_law_wants : Addr
  fd_law_wants : FuncData
  F_law_wants : Fun K "_law_wants" "_law_wants" s_law_wants f_law_wants fd_law_wants
  b_law_wants : Binds K fd_law_wants ["_law_s", "_law_count"] []
  g_law_wants : mg "_law_wants" = some (.ref f_law_wants)
  f_law_ring : Addr
  fd_law_ring : FuncData
  F_law_ring : Fun K "_law_ring" "_law_ring" s_law_ring f_law_ring fd_law_ring
  b_law_ring : Binds K fd_law_ring ["_law_found", "_law_wants_here"] []
  g_law_ring : mg "_law_ring" = some (.ref f_law_ring)
  f_law_held : Addr
  fd_law_held : FuncData
  F_law_held : Fun K "_law_held" "_law_held" s_law_held f_law_held fd_law_held
  b_law_held : Binds K fd_law_held ["_law_found", "_law_wants_here"] []
  g_law_held : mg "_law_held" = some (.ref f_law_held)
  f_law : Addr
  fd_law : FuncData
  F_law : Fun K "law" "law" s_law f_law fd_law
  b_law : Binds K fd_law ["_law_script"] []
  g_law : mg "law" = some (.ref f_law)
  z_abs : mg "abs" = none
  z_all : mg "all" = none
  z_bool : mg "bool" = none
  z_int : mg "int" = none
  z_isinstance : mg "isinstance" = none
  z_len : mg "len" = none
  z_list : mg "list" = none
  z_range : mg "range" = none
  z_sum : mg "sum" = none
  z_tuple : mg "tuple" = none

def spLaw (K : PySem.W.Frag) : Sp := fun vs H Q _ => ∃ (a : Addr) (ns : List Int), vs = [.ref a] ∧ SqL K H a (ns.map V.int) ∧ ns.length ≤ 63 ∧ (∀ z ∈ ns, Builtin.Int.intBits z ≤ 1048576) ∧ ∀ H', Q (.bl true) H'
section
variable {P : Program} {w : World} {K : PySem.W.Frag} {mg : Str → Option Value} {base : Heap}
theorem ok_law_start (T : Tx K mg) : FnOk P w K mg base CX0 1 T.f_law_start T.fd_law_start ["_law_script"] (spStart K) := by
  refine T.F_law_start.ok sc_law_start (fun vs H Q E h => ?_) (fun cdv A outer s H vs Q E hr h => ?_)
  · obtain ⟨a, ns, U, rfl, _⟩ := h
    rfl
  · obtain ⟨a, ns, U, rfl, hS, hU, q⟩ := h
    refine ⟨_, (pss_one (ps_ret (pe_lst (pa_cons (pe_callTy (call_listK (K := K) rfl) (by rfl) T.z_list bt_list (pa_cons (pe_slice (sl_listK (K := K) rfl) (pv 0) po_none (po_some pe_int)) pa_nil)) (pa_cons pe_int (pa_cons pe_int (pa_cons pe_int pa_nil))))))), ?_⟩
    walk_at "sw"
    refine ⟨a, _, rfl, hS, fun c nc => ?_⟩
    obtain ⟨ms, em⟩ := cut63 ns
    rw [em]
    have g1 : Gr [] U H U (upd H c (.lst (ms.map V.int))) := (Gr.refl hU).newM nc
    walk_at "sw"
    intro l nl
    have g2 := g1.new (o := .lst (ms.map V.int)) nl
    walk_at "sw"
    intro s ns'
    have g3 := g2.newM (o := .lst [.ref l, .int 0, .int 0, .int 90210]) ns'
    refine q s _ _ g3 ⟨⟨l, ms, 0, 0, 90210, upd_same, upd_same, Int.le_refl _, by omega, Int.le_refl _⟩, g2.vh.free ns'⟩ (g2.fresh ns')
theorem okh_law_draw (T : Tx K mg) : FnOk P w K mg base CX0 1 T.f_law_draw T.fd_law_draw ["_law_s", "_law_many"] spDraw := by
  refine T.F_law_draw.ok sc_law_draw (fun vs H Q E h => ?_) (fun cdv A outer s0 H vs Q E hr h => ?_)
  · obtain ⟨s, many, U, rfl, _⟩ := h
    rfl
  · obtain ⟨s, many, U, rfl, h0, h2, hU, D, q⟩ := h
    obtain ⟨⟨l, ns, i, b, e, hs, hl, hi, hi2, hb⟩, hn⟩ := D
    have hlU := hU _ _ hl
    have sl : s ≠ l := fun z => by
      subst z
      rw [hn] at hl
      cases hl
    refine ⟨_, (pss_cons (ps_if (pt_cmpR op_eq (pe_ix (ix_listK (K := K) rfl) (pv 0) pe_int (fun _ _ => rfl)) pe_int (nomark _))
      (pss_cons (ps_set (i := 2) sc_law_draw.nd rfl (Or.inl rfl) pe_int)
      (pss_cons (ps_if (pt_cmpR op_lt (pe_ix (ix_listK (K := K) rfl) (pv 0) pe_int (fun _ _ => rfl)) (pe_callB (call_lenK (K := K) rfl) (by rfl) T.z_len bt_len (pa_cons (pe_ix (ix_listK (K := K) rfl) (pv 0) pe_int (fun _ _ => rfl)) pa_nil)) (nomark _))
      (pss_cons (ps_set (i := 2) sc_law_draw.nd rfl (Or.inl rfl) (pe_ix (ix_listK (K := K) rfl) (pe_ix (ix_listK (K := K) rfl) (pv 0) pe_int (fun _ _ => rfl)) (pe_ix (ix_listK (K := K) rfl) (pv 0) pe_int (fun _ _ => rfl)) (fun _ _ => rfl)))
      (pss_one (ps_asg (pe_op op_add (pe_ix (ix_listK (K := K) rfl) (pv 0) pe_int (fun _ _ => rfl)) pe_int) (pg_sub (pv 0) pe_int set_list))))
      pss_nil)
      (pss_one (ps_if ((pw_or (pt_cmpR op_ge (pv 2) (pe_op op_pow pe_int pe_int) (nomark _)) (pw_or1 (pt_cmpR op_le (pv 2) (pe_un un_neg (pe_op op_pow pe_int pe_int)) (nomark _))))).pt
      (pss_one (ps_asg (pe_callB call_abs (by rfl) T.z_abs bt_abs (pa_cons (pv 2) pa_nil)) (pg_sub (pv 0) pe_int set_list)))
      (pss_cons (ps_asg (pe_op op_mod (pe_op op_add (pe_op op_add (pe_op op_mul (pe_ix (ix_listK (K := K) rfl) (pv 0) pe_int (fun _ _ => rfl)) pe_int) (pe_op op_mod (pv 2) pe_int)) pe_int) pe_int) (pg_sub (pv 0) pe_int set_list))
      (pss_one (ps_ret (pe_op op_mod (pe_op op_fdiv (pe_ix (ix_listK (K := K) rfl) (pv 0) pe_int (fun _ _ => rfl)) pe_int) (pv 1)))))))))
      pss_nil)
      (pss_cons (ps_set (i := 3) sc_law_draw.nd rfl (Or.inl rfl) (pe_op op_mod (pe_ix (ix_listK (K := K) rfl) (pv 0) pe_int (fun _ _ => rfl)) (pv 1)))
      (pss_cons (ps_asg (pe_op op_fdivW (pe_ix (ix_listK (K := K) rfl) (pv 0) pe_int (fun _ _ => rfl)) (pv 1)) (pg_sub (pv 0) pe_int set_list))
      (pss_one (ps_ret (pv 3)))))), ?_⟩
    have w3 : ∀ z : Int, CDivW z many := fun z => wide_div h0 (b := 200) (by omega) (by decide) (by decide)
    -- the end, from a heap that has changed at s alone
    have fin : ∀ (H1 : Hp) (i1 b1 e1 : Int) (r : Int), (∀ a, a ≠ s → H1 a = H a) → H1 s = some (.lst [.ref l, .int i1, .int b1, .int e1]) → 0 ≤ i1 → i1 ≤ ns.length → 0 ≤ b1 → 0 ≤ r → r < many → Q (.int r) H1 := by
      intro H1 i1 b1 e1 r ho h1 a1 a2 a3 a4 a5
      refine q r H1 a4 a5 (fun a o ha => ?_) ⟨⟨l, ns, i1, b1, e1, h1, hl, a1, a2, a3⟩, hn⟩ ho
      have ne : a ≠ s := fun z => by
        subst z
        rw [hn] at ha
        cases ha
      rw [ho a ne]
      exact hU a o ha
    have tail : ∀ (H1 : Hp) (i1 b1 e1 : Int), (∀ a, a ≠ s → H1 a = H a) → H1 s = some (.lst [.ref l, .int i1, .int b1, .int e1]) → 0 ≤ i1 → i1 ≤ ns.length → 0 ≤ b1 →
        Q (.int (b1 % many)) (upd H1 s (.lst [.ref l, .int i1, .int (b1 / many), .int e1])) := by
      intro H1 i1 b1 e1 ho h1 a1 a2 a3
      refine fin _ i1 (b1 / many) e1 _ (fun a ne => ?_) upd_same a1 a2 (Int.ediv_nonneg a3 (by omega)) (Int.emod_nonneg _ (by omega)) (Int.emod_lt_of_pos _ h0)
      rw [upd_ne ne]
      exact ho a ne
    have ab : ∀ c : Int, 0 ≤ (if c < 0 then -c else c) := fun c => by split <;> omega
    have md : ∀ c : Int, 0 ≤ c % many ∧ c % many < many := fun c => ⟨Int.emod_nonneg _ (by omega), Int.emod_lt_of_pos _ h0⟩
    have un : ∀ (o : HO) (a : Addr), a ≠ s → upd H s o a = H a := fun o a ne => upd_ne ne
    have un2 : ∀ (o o' : HO) (a : Addr), a ≠ s → upd (upd H s o) s o' a = H a := fun o o' a ne => by rw [upd_ne ne, upd_ne ne]
    walk_at "sw"
    refine i_ite (fun h => ?_) (fun h => ?_)
    · walk_at "sw"
      refine i_ite (fun h => ?_) (fun h => ?_)
      · obtain ⟨j, rfl⟩ : ∃ j : Nat, i = (j : Int) := ⟨i.toNat, by omega⟩
        rw [List.length_map] at h
        have hj : j < ns.length := by omega
        walk_at "sw"
        refine i_ixL hlU (at_of (j := j) (v := V.int ns[j]) rfl (by rw [List.getElem?_map, List.getElem?_eq_getElem hj]; rfl)) ?_
        walk_at "sw"
        refine i_ite (fun h => ?_) (fun h => ?_)
        · walk_at "sw"
          exact tail _ (j + 1) _ e (un2 _ _) upd_same (by omega) (by omega) (ab _)
        · walk_at "sw"
          refine i_ite (fun h => ?_) (fun h => ?_)
          · walk_at "sw"
            exact tail _ (j + 1) _ e (un2 _ _) upd_same (by omega) (by omega) (ab _)
          · walk_at "sw"
            exact fin _ (j + 1) b _ _ (un2 _ _) upd_same (by omega) (by omega) hb (md _).1 (md _).2
      · walk_at "sw"
        refine i_ite (fun h => ?_) (fun h => ?_)
        · walk_at "sw"
          exact tail _ i _ e (un _) upd_same hi hi2 (ab _)
        · walk_at "sw"
          refine i_ite (fun h => ?_) (fun h => ?_)
          · walk_at "sw"
            exact tail _ i _ e (un _) upd_same hi hi2 (ab _)
          · walk_at "sw"
            exact fin _ i b _ _ (un _) upd_same hi hi2 hb (md _).1 (md _).2
    · walk_at "sw"
      exact tail H i b e (fun a _ => rfl) hs hi hi2 hb
abbrev A_law_draw (T : Tx K mg) : AF := A_draw
theorem ok_law_draw (T : Tx K mg) : FnOk P w K mg base CX0 1 T.f_law_draw T.fd_law_draw ["_law_s", "_law_many"] (spD K (A_law_draw T)) := (okh_law_draw T).imp draw_imp

def b_rounds (T : Tx K mg) : AS := (aSeq (aSetO 2 (aOpO oRep (aFz (aLst (aCons (aC (.int 0)) aNil))) (aVar 0)))
    (aSeq (aSetO 3 (aOpO oRep (aFz (aLst (aCons (aC (.non)) aNil))) (aVar 0)))
    (aSeq (aSet 4 (aC (.non)))
    (aSeq (aFor (aRng1 (aCons (aVar 0) aNil)) (gN 5)
    (aSeq (aSet 4 (aC (.non)))
    (aSeq (aFor (aItL (aVar 1)) (gN 6)
    (aSeq (aAsg (aVar 6) (gT 3 (gsCons (gN 7) (gsCons (gN 8) (gsCons (gN 9) gsNil)))))
    (aIf (aTest (aOp oGt (aOp oAdd (aOp oIxL (aVarW 2) (aVar 7)) (aVar 9)) (aOp oIxL (aVarW 2) (aVar 8))))
    (aSeq (aPut 2 (aVar 8) (aOp oAdd (aOp oIxL (aVarW 2) (aVar 7)) (aVar 9)))
    (aSeq (aPut 3 (aVar 8) (aVar 6))
    (aSet 4 (aVar 8))))
    aNext)))
    (aIf (aTest (aOp oIsN (aVar 4) (aC (.non))))
    (aSeal 3 (aSeal 2 (aRet (aTup (aCons (aVar 2) (aCons (aVar 3) (aCons (aC (.non)) aNil)))))))
    aNext))))
    (aSeal 3 (aSeal 2 (aRet (aTup (aCons (aVar 2) (aCons (aVar 3) (aCons (aVar 4) aNil)))))))))))
abbrev A_rounds (T : Tx K mg) : AF := bodyA [false, false] 8 (b_rounds T)
theorem A_rounds_of (T : Tx K mg) {d0 d1 : D} {q : AV → Prop} {x : Exn → Prop} (h : b_rounds T ⟨fun _ => q (.fz .non), fun av _ => q av, fun _ => False, fun _ => False, x⟩ [some (.fz d0), some (.fz d1), none, none, none, none, none, none, none, none]) : A_rounds T [.fz d0, .fz d1] q x := ⟨rfl, h⟩
theorem ok_rounds (T : Tx K mg) : FnOk P w K mg base CX0 1 T.f_rounds T.fd_rounds ["count", "wants"] (spD K (A_rounds T)) := by
  refine T.F_rounds.ok sc_rounds (fun vs H Q E h => spD_len h) (fun cdv A outer s0 H vs Q E hr h => ?_)
  have hst : L2.start ["count", "wants", "found", "cause", "raised", "turn", "want", "i", "j", "c"] vs = vs.map some ++ List.replicate 8 none := by
    unfold L2.start
    rw [spD_len h]
    rfl
  refine ⟨_, (pss_cons (ps_set (i := 2) sc_rounds.nd rfl (Or.inl rfl) (pe_op op_rep (pe_lst (pa_cons pe_int pa_nil)) (pv 0)))
      (pss_cons (ps_set (i := 3) sc_rounds.nd rfl (Or.inl rfl) (pe_op op_rep (pe_lst (pa_cons pe_non pa_nil)) (pv 0)))
      (pss_cons (ps_set (i := 4) sc_rounds.nd rfl (Or.inl rfl) pe_non)
      (pss_cons (ps_for PassesOwn.never rfl (pi_range1 (by rfl) T.z_range (pa_cons (pv 0) pa_nil)) (pg_name (i := 5) sc_rounds.nd rfl (Or.inl rfl))
      (pss_cons (ps_set (i := 4) sc_rounds.nd rfl (Or.inl rfl) pe_non)
      (pss_cons (ps_for PassesOwn.never rfl (pi_listK (K := K) rfl (pv 1)) (pg_name (i := 6) sc_rounds.nd rfl (Or.inl rfl))
      (pss_cons (ps_asg (pv 6) (pg_tupK (K := K) (n := 3) rfl (by rfl) (pgs_cons (pg_name (i := 7) sc_rounds.nd rfl (Or.inl rfl)) (pgs_cons (pg_name (i := 8) sc_rounds.nd rfl (Or.inl rfl)) (pgs_cons (pg_name (i := 9) sc_rounds.nd rfl (Or.inl rfl)) pgs_nil)))))
      (pss_one (ps_if (pt_cmpR op_gt (pe_op op_add (pe_ix (ix_listK (K := K) rfl) (pv 2) (pv 7) (fun _ _ => rfl)) (pv 9)) (pe_ix (ix_listK (K := K) rfl) (pv 2) (pv 8) (fun _ _ => rfl)) (nomark _))
      (pss_cons (ps_asg (pe_op op_add (pe_ix (ix_listK (K := K) rfl) (pv 2) (pv 7) (fun _ _ => rfl)) (pv 9)) (pg_sub (pv 2) (pv 8) set_list))
      (pss_cons (ps_asg (pv 6) (pg_sub (pv 3) (pv 8) set_list))
      (pss_one (ps_set (i := 4) sc_rounds.nd rfl (Or.inl rfl) (pv 8)))))
      pss_nil))))
      (pss_one (ps_if (pt_cmpR op_isN (pv 4) pe_non (nomark _))
      (pss_one (ps_ret (pe_tup (pa_cons (pv 2) (pa_cons (pv 3) (pa_cons pe_non pa_nil))))))
      pss_nil)))))
      (pss_one (ps_ret (pe_tup (pa_cons (pv 2) (pa_cons (pv 3) (pa_cons (pv 4) pa_nil)))))))))), run_body h hst fun M U0 H0 X => ?_⟩
  unfold b_rounds
  walk_at "sim"
def b_least (T : Tx K mg) : AS := (aSeq (aAsg (aFz (aCall0 (A_rounds T) (aArg (aVar 0) (aArg (aVar 1) aArgs)))) (gT 3 (gsCons (gN 2) (gsCons (gN 3) (gsCons (gN 4) gsNil)))))
    (aSeq (aIf (aTest (aOp oNotN (aVar 4) (aC (.non))))
    (aRet (aC (.non)))
    aNext)
    (aRet (aVar 2))))
abbrev A_least (T : Tx K mg) : AF := bodyA [false, false] 3 (b_least T)
theorem A_least_of (T : Tx K mg) {d0 d1 : D} {q : AV → Prop} {x : Exn → Prop} (h : b_least T ⟨fun _ => q (.fz .non), fun av _ => q av, fun _ => False, fun _ => False, x⟩ [some (.fz d0), some (.fz d1), none, none, none]) : A_least T [.fz d0, .fz d1] q x := ⟨rfl, h⟩
theorem ok_least (T : Tx K mg) : FnOk P w K mg base CX0 2 T.f_least T.fd_least ["count", "wants"] (spD K (A_least T)) := by
  refine T.F_least.ok sc_least (fun vs H Q E h => spD_len h) (fun cdv A outer s0 H vs Q E hr h => ?_)
  have hst : L2.start ["count", "wants", "found", "cause", "raised"] vs = vs.map some ++ List.replicate 3 none := by
    unfold L2.start
    rw [spD_len h]
    rfl
  refine ⟨_, (pss_cons (ps_asg (pe_call (ok_rounds T) (hr.mono (by decide)) (by rfl) T.g_rounds T.F_rounds.kp T.b_rounds .nil pass0 (pa_cons (pv 0) (pa_cons (pv 1) pa_nil))) (pg_tupK (K := K) (n := 3) rfl (by rfl) (pgs_cons (pg_name (i := 2) sc_least.nd rfl (Or.inl rfl)) (pgs_cons (pg_name (i := 3) sc_least.nd rfl (Or.inl rfl)) (pgs_cons (pg_name (i := 4) sc_least.nd rfl (Or.inl rfl)) pgs_nil)))))
      (pss_cons (ps_if (pt_cmpR op_notN (pv 4) pe_non (nomark _))
      (pss_one (ps_ret pe_non))
      pss_nil)
      (pss_one (ps_ret (pv 2))))), run_body h hst fun M U0 H0 X => ?_⟩
  unfold b_least
  walk_at "sim"
def b_ring (T : Tx K mg) : AS := (aSeq (aAsg (aFz (aCall0 (A_rounds T) (aArg (aVar 0) (aArg (aVar 1) aArgs)))) (gT 3 (gsCons (gN 2) (gsCons (gN 3) (gsCons (gN 4) gsNil)))))
    (aSeq (aIf (aTest (aOp oIsN (aVar 4) (aC (.non))))
    (aRet (aC (.non)))
    aNext)
    (aSeq (aSet 5 (aVar 4))
    (aSeq (aFor (aRng1 (aCons (aVar 0) aNil)) (gN 6)
    (aSet 5 (aOp oIxT (aOp oIxL (aVar 3) (aVar 5)) (aC (.int 0)))))
    (aSeq (aSet 7 (aVar 5))
    (aSeq (aSetO 2 (aLst (aCons (aOp oIxL (aVar 3) (aVar 5)) aNil)))
    (aSeq (aSet 5 (aOp oIxT (aOp oIxL (aVar 3) (aVar 5)) (aC (.int 0))))
    (aSeq (aWhile (aTest (aOp oNe (aVar 5) (aVar 7)))
    (aSeq (aApp 2 (aOp oIxL (aVar 3) (aVar 5)))
    (aSet 5 (aOp oIxT (aOp oIxL (aVar 3) (aVar 5)) (aC (.int 0))))))
    (aRetO (aRev (aVarW 2)))))))))))
abbrev A_ring (T : Tx K mg) : AF := bodyA [false, false] 6 (b_ring T)
theorem A_ring_of (T : Tx K mg) {d0 d1 : D} {q : AV → Prop} {x : Exn → Prop} (h : b_ring T ⟨fun _ => q (.fz .non), fun av _ => q av, fun _ => False, fun _ => False, x⟩ [some (.fz d0), some (.fz d1), none, none, none, none, none, none]) : A_ring T [.fz d0, .fz d1] q x := ⟨rfl, h⟩
theorem ok_ring (T : Tx K mg) : FnOk P w K mg base CX0 2 T.f_ring T.fd_ring ["count", "wants"] (spD K (A_ring T)) := by
  refine T.F_ring.ok sc_ring (fun vs H Q E h => spD_len h) (fun cdv A outer s0 H vs Q E hr h => ?_)
  have hst : L2.start ["count", "wants", "found", "cause", "raised", "at", "turn", "first"] vs = vs.map some ++ List.replicate 6 none := by
    unfold L2.start
    rw [spD_len h]
    rfl
  refine ⟨_, (pss_cons (ps_asg (pe_call (ok_rounds T) (hr.mono (by decide)) (by rfl) T.g_rounds T.F_rounds.kp T.b_rounds .nil pass0 (pa_cons (pv 0) (pa_cons (pv 1) pa_nil))) (pg_tupK (K := K) (n := 3) rfl (by rfl) (pgs_cons (pg_name (i := 2) sc_ring.nd rfl (Or.inl rfl)) (pgs_cons (pg_name (i := 3) sc_ring.nd rfl (Or.inl rfl)) (pgs_cons (pg_name (i := 4) sc_ring.nd rfl (Or.inl rfl)) pgs_nil)))))
      (pss_cons (ps_if (pt_cmpR op_isN (pv 4) pe_non (nomark _))
      (pss_one (ps_ret pe_non))
      pss_nil)
      (pss_cons (ps_set (i := 5) sc_ring.nd rfl (Or.inl rfl) (pv 4))
      (pss_cons (ps_for PassesOwn.never rfl (pi_range1 (by rfl) T.z_range (pa_cons (pv 0) pa_nil)) (pg_name (i := 6) sc_ring.nd rfl (Or.inl rfl))
      (pss_one (ps_set (i := 5) sc_ring.nd rfl (Or.inl rfl) (pe_ix (ix_tupK (K := K) rfl) (pe_ix (ix_listK (K := K) rfl) (pv 3) (pv 5) (fun _ _ => rfl)) pe_int (fun _ _ => rfl)))))
      (pss_cons (ps_set (i := 7) sc_ring.nd rfl (Or.inl rfl) (pv 5))
      (pss_cons (ps_set (i := 2) sc_ring.nd rfl (Or.inl rfl) (pe_lst (pa_cons (pe_ix (ix_listK (K := K) rfl) (pv 3) (pv 5) (fun _ _ => rfl)) pa_nil)))
      (pss_cons (ps_set (i := 5) sc_ring.nd rfl (Or.inl rfl) (pe_ix (ix_tupK (K := K) rfl) (pe_ix (ix_listK (K := K) rfl) (pv 3) (pv 5) (fun _ _ => rfl)) pe_int (fun _ _ => rfl)))
      (pss_cons (ps_while PassesOwn.never (pt_cmpR op_ne (pv 5) (pv 7) (nomark _))
      (pss_cons (ps_expr (pe_bm PySem.F.plainAttrs_list PySem.F.slot_list_append PySem.F.type_list_append mt_append (pv 2) (pa_cons (pe_ix (ix_listK (K := K) rfl) (pv 3) (pv 5) (fun _ _ => rfl)) pa_nil)))
      (pss_one (ps_set (i := 5) sc_ring.nd rfl (Or.inl rfl) (pe_ix (ix_tupK (K := K) rfl) (pe_ix (ix_listK (K := K) rfl) (pv 3) (pv 5) (fun _ _ => rfl)) pe_int (fun _ _ => rfl))))))
      (pss_one (ps_ret (pe_revL (pv 2)))))))))))), run_body h hst fun M U0 H0 X => ?_⟩
  unfold b_ring
  walk_at "sim"
def b_law_whole (T : Tx K mg) : AS := (aRet (aAndV (aCB oIsi (aCons (aVar 0) (aCons (aC (.ty "int")) aNil))) (aNotV (aCB oIsi (aCons (aVar 0) (aCons (aC (.ty "bool")) aNil))))))
abbrev A_law_whole (T : Tx K mg) : AF := bodyA [false] 0 (b_law_whole T)
theorem A_law_whole_of (T : Tx K mg) {d0 : D} {q : AV → Prop} {x : Exn → Prop} (h : b_law_whole T ⟨fun _ => q (.fz .non), fun av _ => q av, fun _ => False, fun _ => False, x⟩ [some (.fz d0)]) : A_law_whole T [.fz d0] q x := ⟨rfl, h⟩
theorem ok_law_whole (T : Tx K mg) : FnOk P w K mg base CX0 1 T.f_law_whole T.fd_law_whole ["_law_x"] (spD K (A_law_whole T)) := by
  refine T.F_law_whole.ok sc_law_whole (fun vs H Q E h => spD_len h) (fun cdv A outer s0 H vs Q E hr h => ?_)
  have hst : L2.start ["_law_x"] vs = vs.map some ++ List.replicate 0 none := by
    unfold L2.start
    rw [spD_len h]
    rfl
  refine ⟨_, (pss_one (ps_ret (pe_and (pe_callB (call_isiKK (K := K) rfl) (by rfl) T.z_isinstance bt_isinstance (pa_cons (pv 0) (pa_cons (pe_bltn (v := .ty "int") (by rfl) T.z_int bt_int rfl) pa_nil))) (pe_one (pe_not (pe_callB (call_isiKK (K := K) rfl) (by rfl) T.z_isinstance bt_isinstance (pa_cons (pv 0) (pa_cons (pe_bltn (v := .ty "bool") (by rfl) T.z_bool bt_bool rfl) pa_nil)))))))), run_body h hst fun M U0 H0 X => ?_⟩
  unfold b_law_whole
  walk_at "sim"
def b_law_wants_1 (T : Tx K mg) : AS := (aSeq (aFor (aRng1 (aCons (aFz (aCall0 (A_law_draw T) (aSlot 0 (aArg (aOp oAdd (aVar 1) (aC (.int 2))) aArgs)))) aNil)) (gN 4)
    (aSeq (aSet 7 (aOp oIxL (aFz (aLst (aCons (aC (.int 20)) (aCons (aC (.int 20)) (aCons (aOp oPow (aC (.int 10)) (aC (.int 30))) aNil))))) (aFz (aCall0 (A_law_draw T) (aSlot 0 (aArg (aC (.int 3)) aArgs))))))
    (aApp 2 (aTup (aCons (aFz (aCall0 (A_law_draw T) (aSlot 0 (aArg (aVar 1) aArgs)))) (aCons (aFz (aCall0 (A_law_draw T) (aSlot 0 (aArg (aVar 1) aArgs)))) (aCons (aOp oSub (aFz (aCall0 (A_law_draw T) (aSlot 0 (aArg (aVar 7) aArgs)))) (aOp oDiv (aOp oMul (aVar 7) (aC (.int 3))) (aC (.int 4)))) aNil)))))))
    (aRetV 2))
def b_law_wants (T : Tx K mg) : AS := (aSeq (aSetO 2 (aLst aNil))
    (aSeq (aIf (aTest (aOp oEq (aFz (aCall0 (A_law_draw T) (aSlot 0 (aArg (aC (.int 2)) aArgs)))) (aC (.int 0))))
    (aSeq (aSet 3 (aFz (aLc (aRng1 (aCons (aVar 1) aNil)) (gN 4) aYes (aFz (aCall0 (A_law_draw T) (aSlot 0 (aArg (aC (.int 60)) aArgs)))) [4])))
    (aFor (aRng1 (aCons (aFz (aCall0 (A_law_draw T) (aSlot 0 (aArg (aOp oAdd (aOp oMul (aC (.int 3)) (aVar 1)) (aC (.int 1))) aArgs)))) aNil)) (gN 4)
    (aSeq (aSet 5 (aFz (aCall0 (A_law_draw T) (aSlot 0 (aArg (aVar 1) aArgs)))))
    (aSeq (aSet 6 (aFz (aCall0 (A_law_draw T) (aSlot 0 (aArg (aVar 1) aArgs)))))
    (aApp 2 (aTup (aCons (aVar 5) (aCons (aVar 6) (aCons (aOp oSub (aOp oSub (aOp oIxL (aVar 3) (aVar 6)) (aOp oIxL (aVar 3) (aVar 5))) (aFz (aCall0 (A_law_draw T) (aSlot 0 (aArg (aC (.int 4)) aArgs))))) aNil)))))))))
    aNext)
    (b_law_wants_1 T)))
abbrev A_law_wants (T : Tx K mg) : AF := bodyA [true, false] 6 (b_law_wants T)
theorem A_law_wants_of (T : Tx K mg) {d1 : D} {q : AV → Prop} {x : Exn → Prop} (h : b_law_wants T ⟨fun _ => q (.fz .non), fun av _ => q av, fun _ => False, fun _ => False, x⟩ [some (.dr), some (.fz d1), none, none, none, none, none, none]) : A_law_wants T [.dr, .fz d1] q x := ⟨rfl, h⟩
theorem ok_law_wants (T : Tx K mg) : FnOk P w K mg base CX0 2 T.f_law_wants T.fd_law_wants ["_law_s", "_law_count"] (spD K (A_law_wants T)) := by
  refine T.F_law_wants.ok sc_law_wants (fun vs H Q E h => spD_len h) (fun cdv A outer s0 H vs Q E hr h => ?_)
  have hst : L2.start ["_law_s", "_law_count", "_law_wants_here", "_law_the_spots", "_law_k", "_law_i", "_law_j", "_law_top"] vs = vs.map some ++ List.replicate 6 none := by
    unfold L2.start
    rw [spD_len h]
    rfl
  refine ⟨_, (pss_cons (ps_set (i := 2) sc_law_wants.nd rfl (Or.inl rfl) (pe_lst pa_nil))
      (pss_cons (ps_if (pt_cmpR op_eq (pe_call (ok_law_draw T) (hr.mono (by decide)) (by rfl) T.g_law_draw T.F_law_draw.kp T.b_law_draw .nil pass0 (pa_cons (pv 0) (pa_cons pe_int pa_nil))) pe_int (nomark _))
      (pss_cons (ps_setLc (i := 3) (own := [("_law_k", 4)]) (by rfl) sc_law_wants.nd rfl rfl (sw_true rfl rfl rfl (by decide +kernel)) (pi_range1 (by rfl) T.z_range (pa_cons (pv 1) pa_nil)) (blkOk_by (own := [("_law_k", 4)]) (N := ["_law_s", "_law_count", "_law_wants_here", "_law_the_spots", "_law_k", "_law_i", "_law_j", "_law_top"]) (sc := defScope s_law_wants) (by decide +kernel)) (fun _ _ _ _ _ => (pg_name (i := 4) sc_law_wants.nd rfl (Or.inl rfl))) (fun _ _ _ _ _ => pts_nil) (fun _ _ _ _ _ => (pe_call (ok_law_draw T) (hr.mono (by decide)) (by rfl) T.g_law_draw T.F_law_draw.kp T.b_law_draw .nil pass0 (pa_cons (pv 0) (pa_cons pe_int pa_nil)))))
      (pss_one (ps_for PassesOwn.never rfl (pi_range1 (by rfl) T.z_range (pa_cons (pe_call (ok_law_draw T) (hr.mono (by decide)) (by rfl) T.g_law_draw T.F_law_draw.kp T.b_law_draw .nil pass0 (pa_cons (pv 0) (pa_cons (pe_op op_add (pe_op op_mul pe_int (pv 1)) pe_int) pa_nil))) pa_nil)) (pg_name (i := 4) sc_law_wants.nd rfl (Or.inl rfl))
      (pss_cons (ps_set (i := 5) sc_law_wants.nd rfl (Or.inl rfl) (pe_call (ok_law_draw T) (hr.mono (by decide)) (by rfl) T.g_law_draw T.F_law_draw.kp T.b_law_draw .nil pass0 (pa_cons (pv 0) (pa_cons (pv 1) pa_nil))))
      (pss_cons (ps_set (i := 6) sc_law_wants.nd rfl (Or.inl rfl) (pe_call (ok_law_draw T) (hr.mono (by decide)) (by rfl) T.g_law_draw T.F_law_draw.kp T.b_law_draw .nil pass0 (pa_cons (pv 0) (pa_cons (pv 1) pa_nil))))
      (pss_one (ps_expr (pe_bm PySem.F.plainAttrs_list PySem.F.slot_list_append PySem.F.type_list_append mt_append (pv 2) (pa_cons (pe_tup (pa_cons (pv 5) (pa_cons (pv 6) (pa_cons (pe_op op_sub (pe_op op_sub (pe_ix (ix_listK (K := K) rfl) (pv 3) (pv 6) (fun _ _ => rfl)) (pe_ix (ix_listK (K := K) rfl) (pv 3) (pv 5) (fun _ _ => rfl))) (pe_call (ok_law_draw T) (hr.mono (by decide)) (by rfl) T.g_law_draw T.F_law_draw.kp T.b_law_draw .nil pass0 (pa_cons (pv 0) (pa_cons pe_int pa_nil)))) pa_nil)))) pa_nil)))))))))
      pss_nil)
      (pss_cons (ps_for PassesOwn.never rfl (pi_range1 (by rfl) T.z_range (pa_cons (pe_call (ok_law_draw T) (hr.mono (by decide)) (by rfl) T.g_law_draw T.F_law_draw.kp T.b_law_draw .nil pass0 (pa_cons (pv 0) (pa_cons (pe_op op_add (pv 1) pe_int) pa_nil))) pa_nil)) (pg_name (i := 4) sc_law_wants.nd rfl (Or.inl rfl))
      (pss_cons (ps_set (i := 7) sc_law_wants.nd rfl (Or.inl rfl) (pe_ix (ix_listK (K := K) rfl) (pe_lst (pa_cons pe_int (pa_cons pe_int (pa_cons (pe_op op_pow pe_int pe_int) pa_nil)))) (pe_call (ok_law_draw T) (hr.mono (by decide)) (by rfl) T.g_law_draw T.F_law_draw.kp T.b_law_draw .nil pass0 (pa_cons (pv 0) (pa_cons pe_int pa_nil))) (fun _ _ => rfl)))
      (pss_one (ps_expr (pe_bm PySem.F.plainAttrs_list PySem.F.slot_list_append PySem.F.type_list_append mt_append (pv 2) (pa_cons (pe_tup (pa_cons (pe_call (ok_law_draw T) (hr.mono (by decide)) (by rfl) T.g_law_draw T.F_law_draw.kp T.b_law_draw .nil pass0 (pa_cons (pv 0) (pa_cons (pv 1) pa_nil))) (pa_cons (pe_call (ok_law_draw T) (hr.mono (by decide)) (by rfl) T.g_law_draw T.F_law_draw.kp T.b_law_draw .nil pass0 (pa_cons (pv 0) (pa_cons (pv 1) pa_nil))) (pa_cons (pe_op op_sub (pe_call (ok_law_draw T) (hr.mono (by decide)) (by rfl) T.g_law_draw T.F_law_draw.kp T.b_law_draw .nil pass0 (pa_cons (pv 0) (pa_cons (pv 7) pa_nil))) (pe_op op_fdiv (pe_op op_mul (pv 7) pe_int) pe_int)) pa_nil)))) pa_nil))))))
      (pss_one (ps_ret (pv 2)))))), run_body h hst fun M U0 H0 X => ?_⟩
  unfold b_law_wants b_law_wants_1
  walk_at "sim"
def b_law_ring (T : Tx K mg) : AS := (aSeq (aIf (aOr (aNot (aTest (aCB oIsi (aCons (aVar 0) (aCons (aC (.ty "list")) aNil))))) (aOr (aTest (aOp oEq (aCB oLen (aCons (aVar 0) aNil)) (aC (.int 0)))) (aNot (aTest (aCB oAll (aCons (aFz (aLc (aItL (aVar 0)) (gN 3) aYes (aCB oIsi (aCons (aVar 3) (aCons (aC (.ty "tuple")) aNil))) [3])) aNil))))))
    (aRet (aC (.bl false)))
    aNext)
    (aSeq (aIf (aNot (aTest (aCB oAll (aCons (aFz (aLc (aItL (aVar 0)) (gN 4) aYes (aOp oInD (aVar 4) (aVar 1)) [4])) aNil))))
    (aRet (aC (.bl false)))
    aNext)
    (aSeq (aFor (aRng1 (aCons (aCB oLen (aCons (aVar 0) aNil)) aNil)) (gN 2)
    (aIf (aTest (aOp oNe (aOp oIxT (aOp oIxL (aVar 0) (aVar 2)) (aC (.int 0))) (aOp oIxT (aOp oIxL (aVar 0) (aOp oSub (aVar 2) (aC (.int 1)))) (aC (.int 1)))))
    (aRet (aC (.bl false)))
    aNext))
    (aRet (aOp oGt (aCB oSum (aCons (aFz (aLc (aItL (aVar 0)) (gN 4) aYes (aOp oIxT (aVar 4) (aC (.int 2))) [4])) aNil)) (aC (.int 0)))))))
abbrev A_law_ring (T : Tx K mg) : AF := bodyA [false, false] 3 (b_law_ring T)
theorem A_law_ring_of (T : Tx K mg) {d0 d1 : D} {q : AV → Prop} {x : Exn → Prop} (h : b_law_ring T ⟨fun _ => q (.fz .non), fun av _ => q av, fun _ => False, fun _ => False, x⟩ [some (.fz d0), some (.fz d1), none, none, none]) : A_law_ring T [.fz d0, .fz d1] q x := ⟨rfl, h⟩
theorem ok_law_ring (T : Tx K mg) : FnOk P w K mg base CX0 1 T.f_law_ring T.fd_law_ring ["_law_found", "_law_wants_here"] (spD K (A_law_ring T)) := by
  refine T.F_law_ring.ok sc_law_ring (fun vs H Q E h => spD_len h) (fun cdv A outer s0 H vs Q E hr h => ?_)
  have hst : L2.start ["_law_found", "_law_wants_here", "_law_at", "_law_x", "_law_want"] vs = vs.map some ++ List.replicate 3 none := by
    unfold L2.start
    rw [spD_len h]
    rfl
  refine ⟨_, (pss_cons (ps_if ((pw_or (pt_not (pt_val (pe_callB (call_isiKK (K := K) rfl) (by rfl) T.z_isinstance bt_isinstance (pa_cons (pv 0) (pa_cons (pe_bltn (v := .ty "list") (by rfl) T.z_list bt_list rfl) pa_nil))))) (pw_or (pt_cmpR op_eq (pe_callB (call_lenK (K := K) rfl) (by rfl) T.z_len bt_len (pa_cons (pv 0) pa_nil)) pe_int (nomark _)) (pw_or1 (pt_not (pt_val (pe_callB (cr_allK (K := K) rfl (by rfl)) (by rfl) T.z_all bt_all (pa_cons (pe_lc (own := [("_law_x", 3)]) (by rfl) sc_law_ring.nd (pi_listK (K := K) rfl (pv 0)) (blkOk_by (own := [("_law_x", 3)]) (N := ["_law_found", "_law_wants_here", "_law_at", "_law_x", "_law_want"]) (sc := defScope s_law_ring) (by decide +kernel)) (fun _ _ _ _ _ => (pg_name (i := 3) sc_law_ring.nd rfl (Or.inl rfl))) (fun _ _ _ _ _ => pts_nil) (fun _ _ _ _ _ => (pe_callB (call_isiKK (K := K) rfl) (by rfl) T.z_isinstance bt_isinstance (pa_cons (pv 3) (pa_cons (pe_bltn (v := .ty "tuple") (by rfl) T.z_tuple bt_tuple rfl) pa_nil))))) pa_nil)))))))).pt
      (pss_one (ps_ret pe_bl))
      pss_nil)
      (pss_cons (ps_if (pt_not (pt_val (pe_callB (cr_allK (K := K) rfl (by rfl)) (by rfl) T.z_all bt_all (pa_cons (pe_lc (own := [("_law_want", 4)]) (by rfl) sc_law_ring.nd (pi_listK (K := K) rfl (pv 0)) (blkOk_by (own := [("_law_want", 4)]) (N := ["_law_found", "_law_wants_here", "_law_at", "_law_x", "_law_want"]) (sc := defScope s_law_ring) (by decide +kernel)) (fun _ _ _ _ _ => (pg_name (i := 4) sc_law_ring.nd rfl (Or.inl rfl))) (fun _ _ _ _ _ => pts_nil) (fun _ _ _ _ _ => (pe_cmpR (op_inDK (K := K) rfl (units65 hr)) (pv 4) (pv 1) (by with_unfolding_all rfl)))) pa_nil))))
      (pss_one (ps_ret pe_bl))
      pss_nil)
      (pss_cons (ps_for PassesOwn.never rfl (pi_range1 (by rfl) T.z_range (pa_cons (pe_callB (call_lenK (K := K) rfl) (by rfl) T.z_len bt_len (pa_cons (pv 0) pa_nil)) pa_nil)) (pg_name (i := 2) sc_law_ring.nd rfl (Or.inl rfl))
      (pss_one (ps_if (pt_cmpR op_ne (pe_ix (ix_tupK (K := K) rfl) (pe_ix (ix_listK (K := K) rfl) (pv 0) (pv 2) (fun _ _ => rfl)) pe_int (fun _ _ => rfl)) (pe_ix (ix_tupK (K := K) rfl) (pe_ix (ix_listK (K := K) rfl) (pv 0) (pe_op op_sub (pv 2) pe_int) (fun _ _ => rfl)) pe_int (fun _ _ => rfl)) (nomark _))
      (pss_one (ps_ret pe_bl))
      pss_nil)))
      (pss_one (ps_ret (pe_cmpR op_gt (pe_callB (cr_sumK (K := K) rfl (by rfl)) (by rfl) T.z_sum bt_sum (pa_cons (pe_lc (own := [("_law_want", 4)]) (by rfl) sc_law_ring.nd (pi_listK (K := K) rfl (pv 0)) (blkOk_by (own := [("_law_want", 4)]) (N := ["_law_found", "_law_wants_here", "_law_at", "_law_x", "_law_want"]) (sc := defScope s_law_ring) (by decide +kernel)) (fun _ _ _ _ _ => (pg_name (i := 4) sc_law_ring.nd rfl (Or.inl rfl))) (fun _ _ _ _ _ => pts_nil) (fun _ _ _ _ _ => (pe_ix (ix_tupK (K := K) rfl) (pv 4) pe_int (fun _ _ => rfl)))) pa_nil)) pe_int (nomark _))))))), run_body h hst fun M U0 H0 X => ?_⟩
  unfold b_law_ring
  walk_at "sim"
def b_law_held (T : Tx K mg) : AS := (aSeq (aSetO 2 (aLc (aItL (aVar 0)) (gN 7) aYes (aOp oEq (aVar 7) (aC (.int 0))) [7]))
    (aSeq (aFor (aRng1 (aCons (aCB oLen (aCons (aVar 0) aNil)) aNil)) (gN 3)
    (aFor (aItL (aVar 1)) (gT 3 (gsCons (gN 4) (gsCons (gN 5) (gsCons (gN 6) gsNil))))
    (aIf (aAnd (aTest (aOp oIxL (aVarW 2) (aVar 4))) (aTest (aOp oEq (aOp oAdd (aOp oIxL (aVar 0) (aVar 4)) (aVar 6)) (aOp oIxL (aVar 0) (aVar 5)))))
    (aPut 2 (aVar 5) (aC (.bl true)))
    aNext)))
    (aRet (aCB oAll (aCons (aVarW 2) aNil)))))
abbrev A_law_held (T : Tx K mg) : AF := bodyA [false, false] 6 (b_law_held T)
theorem A_law_held_of (T : Tx K mg) {d0 d1 : D} {q : AV → Prop} {x : Exn → Prop} (h : b_law_held T ⟨fun _ => q (.fz .non), fun av _ => q av, fun _ => False, fun _ => False, x⟩ [some (.fz d0), some (.fz d1), none, none, none, none, none, none]) : A_law_held T [.fz d0, .fz d1] q x := ⟨rfl, h⟩
theorem ok_law_held (T : Tx K mg) : FnOk P w K mg base CX0 1 T.f_law_held T.fd_law_held ["_law_found", "_law_wants_here"] (spD K (A_law_held T)) := by
  refine T.F_law_held.ok sc_law_held (fun vs H Q E h => spD_len h) (fun cdv A outer s0 H vs Q E hr h => ?_)
  have hst : L2.start ["_law_found", "_law_wants_here", "_law_sure", "_law_turn", "_law_i", "_law_j", "_law_c", "_law_one"] vs = vs.map some ++ List.replicate 6 none := by
    unfold L2.start
    rw [spD_len h]
    rfl
  refine ⟨_, (pss_cons (ps_setLc (i := 2) (own := [("_law_one", 7)]) (by rfl) sc_law_held.nd rfl rfl (sw_true rfl rfl rfl (by decide +kernel)) (pi_listK (K := K) rfl (pv 0)) (blkOk_by (own := [("_law_one", 7)]) (N := ["_law_found", "_law_wants_here", "_law_sure", "_law_turn", "_law_i", "_law_j", "_law_c", "_law_one"]) (sc := defScope s_law_held) (by decide +kernel)) (fun _ _ _ _ _ => (pg_name (i := 7) sc_law_held.nd rfl (Or.inl rfl))) (fun _ _ _ _ _ => pts_nil) (fun _ _ _ _ _ => (pe_cmpR op_eq (pv 7) pe_int (nomark _))))
      (pss_cons (ps_for PassesOwn.never rfl (pi_range1 (by rfl) T.z_range (pa_cons (pe_callB (call_lenK (K := K) rfl) (by rfl) T.z_len bt_len (pa_cons (pv 0) pa_nil)) pa_nil)) (pg_name (i := 3) sc_law_held.nd rfl (Or.inl rfl))
      (pss_one (ps_for PassesOwn.never rfl (pi_listK (K := K) rfl (pv 1)) (pg_tupK (K := K) (n := 3) rfl (by rfl) (pgs_cons (pg_name (i := 4) sc_law_held.nd rfl (Or.inl rfl)) (pgs_cons (pg_name (i := 5) sc_law_held.nd rfl (Or.inl rfl)) (pgs_cons (pg_name (i := 6) sc_law_held.nd rfl (Or.inl rfl)) pgs_nil))))
      (pss_one (ps_if ((pw_and (pt_val (pe_ix (ix_listK (K := K) rfl) (pv 2) (pv 4) (fun _ _ => rfl))) (pw_and1 (pt_cmpR op_eq (pe_op op_add (pe_ix (ix_listK (K := K) rfl) (pv 0) (pv 4) (fun _ _ => rfl)) (pv 6)) (pe_ix (ix_listK (K := K) rfl) (pv 0) (pv 5) (fun _ _ => rfl)) (nomark _))))).pt
      (pss_one (ps_asg pe_bl (pg_sub (pv 2) (pv 5) set_list)))
      pss_nil)))))
      (pss_one (ps_ret (pe_callB (cr_allK (K := K) rfl (by rfl)) (by rfl) T.z_all bt_all (pa_cons (pv 2) pa_nil)))))), run_body h hst fun M U0 H0 X => ?_⟩
  unfold b_law_held
  walk_at "sim"
def b_law (T : Tx K mg) : AS := (aSeq (aSet 2 (aOp oAdd (aC (.int 1)) (aFz (aCall0 (A_law_draw T) (aSlot 1 (aArg (aC (.int 9)) aArgs))))))
    (aSeq (aSet 3 (aFz (aCall0 (A_law_wants T) (aSlot 1 (aArg (aVar 2) aArgs)))))
    (aSeq (aSet 4 (aFz (aCBO oList (aCons (aVar 3) aNil))))
    (aSeq (aSet 5 (aFz (aCall0 (A_least T) (aArg (aVar 2) (aArg (aVar 4) aArgs)))))
    (aSeq (aSet 6 (aFz (aCall0 (A_ring T) (aArg (aVar 2) (aArg (aVar 4) aArgs)))))
    (aSeq (aIf (aTest (aOp oNeD (aVar 4) (aVar 3)))
    (aRet (aC (.bl false)))
    aNext)
    (aSeq (aIf (aTest (aOp oIsN (aVar 5) (aC (.non))))
    (aRetO (aCall0 (A_law_ring T) (aArg (aVar 6) (aArg (aVar 3) aArgs))))
    aNext)
    (aSeq (aIf (aOr (aTest (aOp oNotN (aVar 6) (aC (.non)))) (aOr (aNot (aTest (aCB oIsi (aCons (aVar 5) (aCons (aC (.ty "list")) aNil))))) (aTest (aOp oNe (aCB oLen (aCons (aVar 5) aNil)) (aVar 2)))))
    (aRet (aC (.bl false)))
    aNext)
    (aSeq (aIf (aNot (aTest (aCB oAll (aCons (aFz (aLc (aItL (aVar 5)) (gN 7) aYes (aAndV (aFz (aCall0 (A_law_whole T) (aArg (aVar 7) aArgs))) (aOp oGe (aVar 7) (aC (.int 0)))) [7])) aNil))))
    (aRet (aC (.bl false)))
    aNext)
    (aSeq (aIf (aNot (aTest (aCB oAll (aCons (aFz (aLc (aItL (aVar 3)) (gT 3 (gsCons (gN 8) (gsCons (gN 9) (gsCons (gN 10) gsNil)))) aYes (aOp oGe (aOp oIxL (aVar 5) (aVar 9)) (aOp oAdd (aOp oIxL (aVar 5) (aVar 8)) (aVar 10))) [8, 9, 10])) aNil))))
    (aRet (aC (.bl false)))
    aNext)
    (aRetO (aCall0 (A_law_held T) (aArg (aVar 5) (aArg (aVar 3) aArgs))))))))))))))
/-! ### wants: numbers raised round by round (plain) -/
abbrev Wt := Nat × Nat × Int
structure BS where
  f : List Int
  k : List (Option Wt)
  r : Option Nat
def stepW (s : BS) (w : Wt) : BS :=
  if s.f.getD w.2.1 0 < s.f.getD w.1 0 + w.2.2 then ⟨s.f.set w.2.1 (s.f.getD w.1 0 + w.2.2), s.k.set w.2.1 (some w), some w.2.1⟩ else s
def roundW (ws : List Wt) (s : BS) : BS := ws.foldl stepW ⟨s.f, s.k, none⟩
def loopW (ws : List Wt) : Nat → BS → BS
  | 0, s => s
  | m + 1, s => if (roundW ws s).r = none then roundW ws s else loopW ws m (roundW ws s)
def bf (n : Nat) (ws : List Wt) : BS := loopW ws n ⟨List.replicate n 0, List.replicate n none, none⟩
structure BI (n : Nat) (ws : List Wt) (t p : Nat) (s : BS) (L τ : Nat → Nat) (now : Nat) : Prop where
  lf : s.f.length = n
  lk : s.k.length = n
  f0 : ∀ j, 0 ≤ s.f.getD j 0
  none' : ∀ j, s.k.getD j none = none → s.f.getD j 0 = 0 ∧ L j = 0
  some' : ∀ j w, s.k.getD j none = some w → w ∈ ws ∧ w.2.1 = j ∧ s.f.getD j 0 ≤ s.f.getD w.1 0 + w.2.2 ∧ 1 ≤ L j ∧ L j ≤ L w.1 + 1 ∧ (s.f.getD j 0 = s.f.getD w.1 0 + w.2.2 → τ w.1 < τ j)
  Lt : ∀ j, L j ≤ t + 1
  tn : ∀ j, τ j < now
  done : ∀ m w, m < p → ws[m]? = some w → s.f.getD w.1 0 + w.2.2 ≤ s.f.getD w.2.1 0 ∨ t + 1 ≤ L w.1
  todo : ∀ m w, p ≤ m → ws[m]? = some w → s.f.getD w.1 0 + w.2.2 ≤ s.f.getD w.2.1 0 ∨ t ≤ L w.1
  rs : ∀ j, s.r = some j → L j = t + 1 ∧ j < n
  rn : s.r = none → ∀ m w, m < p → ws[m]? = some w → s.f.getD w.1 0 + w.2.2 ≤ s.f.getD w.2.1 0
def InW (n : Nat) (ws : List Wt) : Prop := ∀ w ∈ ws, w.1 < n ∧ w.2.1 < n
theorem getD_set {α : Type} (xs : List α) (i j : Nat) (x d : α) : (xs.set i x).getD j d = if i = j ∧ i < xs.length then x else xs.getD j d := by
  rw [List.getD, List.getD, List.getElem?_set]
  by_cases h : i = j
  · subst h
    by_cases h2 : i < xs.length
    · simp [h2]
    · simp [h2]
  · simp [h]
theorem BI.step {n t p now : Nat} {ws : List Wt} {s : BS} {L τ : Nat → Nat} {w : Wt} (hw : InW n ws) (h : BI n ws t p s L τ now) (e : ws[p]? = some w) : ∃ L' τ' now', BI n ws t (p + 1) (stepW s w) L' τ' now' := by
  obtain ⟨wi, wj, wc⟩ := w
  obtain ⟨hi, hj⟩ := hw _ (List.mem_of_getElem? e)
  have hi' : wi < n := hi
  have hj' : wj < n := hj
  unfold stepW
  dsimp only
  by_cases hc : s.f.getD wj 0 < s.f.getD wi 0 + wc
  · rw [if_pos hc]
    have hL : t ≤ L wi := by
      rcases h.todo p (wi, wj, wc) (Nat.le_refl _) e with z | z
      · have z' : s.f.getD wi 0 + wc ≤ s.f.getD wj 0 := z
        omega
      · exact z
    have gf : ∀ x, (s.f.set wj (s.f.getD wi 0 + wc)).getD x 0 = if x = wj then s.f.getD wi 0 + wc else s.f.getD x 0 := fun x => by
      rw [getD_set, h.lf]
      by_cases hx : x = wj
      · subst hx; rw [if_pos ⟨rfl, hj'⟩, if_pos rfl]
      · rw [if_neg (fun z => hx z.1.symm), if_neg hx]
    have gk : ∀ x, (s.k.set wj (some (wi, wj, wc))).getD x none = if x = wj then some (wi, wj, wc) else s.k.getD x none := fun x => by
      rw [getD_set, h.lk]
      by_cases hx : x = wj
      · subst hx; rw [if_pos ⟨rfl, hj'⟩, if_pos rfl]
      · rw [if_neg (fun z => hx z.1.symm), if_neg hx]
    have up : ∀ x, s.f.getD x 0 ≤ (s.f.set wj (s.f.getD wi 0 + wc)).getD x 0 := fun x => by
      rw [gf]
      by_cases hx : x = wj
      · rw [if_pos hx, hx]; omega
      · rw [if_neg hx]; exact Int.le_refl _
    refine ⟨fun x => if x = wj then t + 1 else L x, fun x => if x = wj then now else τ x, now + 1, ⟨by rw [List.length_set]; exact h.lf, by rw [List.length_set]; exact h.lk, fun x => ?_, fun x hx => ?_, fun x w' hx => ?_, fun x => ?_, fun x => ?_, fun m w' hm em => ?_, fun m w' hm em => ?_, fun x hx => ?_, fun hx => ?_⟩⟩
    · have := h.f0 x
      have := up x
      dsimp only at this ⊢
      omega
    · dsimp only at hx ⊢
      rw [gk] at hx
      by_cases hxj : x = wj
      · rw [if_pos hxj] at hx; cases hx
      · rw [if_neg hxj] at hx
        rw [gf, if_neg hxj, if_neg hxj]
        exact h.none' x hx
    · dsimp only at hx ⊢
      rw [gk] at hx
      by_cases hxj : x = wj
      · rw [if_pos hxj] at hx
        cases hx
        subst hxj
        refine ⟨List.mem_of_getElem? e, rfl, ?_, ?_, ?_, ?_⟩
        · rw [gf, if_pos rfl]
          have := up wi
          show _ ≤ (s.f.set x (s.f.getD wi 0 + wc)).getD wi 0 + wc
          omega
        · rw [if_pos rfl]; omega
        · rw [if_pos rfl]
          show t + 1 ≤ (if wi = x then t + 1 else L wi) + 1
          split <;> omega
        · intro ht
          rw [gf, if_pos rfl] at ht
          have ht' : s.f.getD wi 0 + wc = (s.f.set x (s.f.getD wi 0 + wc)).getD wi 0 + wc := ht
          rw [gf] at ht'
          show (if wi = x then now else τ wi) < (if x = x then now else τ x)
          rw [if_pos rfl]
          by_cases hw' : wi = x
          · rw [if_pos hw'] at ht'
            rw [hw'] at hc ht'
            omega
          · rw [if_neg hw']
            exact h.tn wi
      · rw [if_neg hxj] at hx
        obtain ⟨a1, a2, a3, a4, a5, a6⟩ := h.some' x w' hx
        refine ⟨a1, a2, ?_, by rw [if_neg hxj]; exact a4, ?_, ?_⟩
        · rw [gf, if_neg hxj]
          have := up w'.1
          omega
        · rw [if_neg hxj]
          split
          · have := h.Lt x
            omega
          · exact a5
        · intro ht
          rw [gf, if_neg hxj, gf] at ht
          rw [if_neg hxj]
          by_cases hw' : w'.1 = wj
          · rw [if_pos hw'] at ht
            rw [hw'] at a3
            omega
          · rw [if_neg hw'] at ht ⊢
            exact a6 ht
    · split
      · exact Nat.le_refl _
      · exact h.Lt x
    · split
      · omega
      · have := h.tn x
        omega
    · dsimp only
      by_cases hmp : m = p
      · subst hmp
        rw [e] at em
        cases em
        by_cases hij : wi = wj
        · exact .inr (by rw [if_pos hij]; exact Nat.le_refl _)
        · refine .inl ?_
          show (s.f.set wj _).getD wi 0 + wc ≤ (s.f.set wj _).getD wj 0
          rw [gf, gf, if_neg hij, if_pos rfl]
          exact Int.le_refl _
      · by_cases hx : w'.1 = wj
        · exact .inr (by rw [if_pos hx]; exact Nat.le_refl _)
        · rw [if_neg hx, gf, if_neg hx]
          rcases h.done m w' (by omega) em with z | z
          · have := up w'.2.1
            exact .inl (by omega)
          · exact .inr z
    · dsimp only
      by_cases hx : w'.1 = wj
      · exact .inr (by rw [if_pos hx]; omega)
      · rw [if_neg hx, gf, if_neg hx]
        rcases h.todo m w' (by omega) em with z | z
        · have := up w'.2.1
          exact .inl (by omega)
        · exact .inr z
    · dsimp only at hx ⊢
      cases hx
      rw [if_pos rfl]
      exact ⟨rfl, hj'⟩
    · cases hx
  · rw [if_neg hc]
    refine ⟨L, τ, now, ⟨h.lf, h.lk, h.f0, h.none', h.some', h.Lt, h.tn, fun m w' hm em => ?_, fun m w' hm em => h.todo m w' (by omega) em, h.rs, fun hx m w' hm em => ?_⟩⟩
    · by_cases hmp : m = p
      · subst hmp
        rw [e] at em
        cases em
        exact .inl (by show s.f.getD wi 0 + wc ≤ s.f.getD wj 0; omega)
      · exact h.done m w' (by omega) em
    · by_cases hmp : m = p
      · subst hmp
        rw [e] at em
        cases em
        show s.f.getD wi 0 + wc ≤ s.f.getD wj 0
        omega
      · exact h.rn hx m w' (by omega) em
theorem foldl_take {α β : Type} (g : α → β → α) (s : α) {ws : List β} {p : Nat} {w : β} (e : ws[p]? = some w) : (ws.take (p + 1)).foldl g s = g ((ws.take p).foldl g s) w := by
  rw [List.take_add_one, e, List.foldl_append]
  rfl
theorem BI.round {n t now : Nat} {ws : List Wt} {s : BS} {L τ : Nat → Nat} (hw : InW n ws) (h : BI n ws t 0 ⟨s.f, s.k, none⟩ L τ now) : ∃ L' τ' now', BI n ws t ws.length (roundW ws s) L' τ' now' := by
  have go : ∀ p, p ≤ ws.length → ∃ L' τ' now', BI n ws t p ((ws.take p).foldl stepW ⟨s.f, s.k, none⟩) L' τ' now' := by
    intro p
    induction p with
    | zero => exact fun _ => ⟨L, τ, now, h⟩
    | succ p ih =>
      intro hp
      obtain ⟨L', τ', now', h'⟩ := ih (by omega)
      have e : ws[p]? = some ws[p] := List.getElem?_eq_getElem (by omega)
      rw [foldl_take stepW _ e]
      exact h'.step hw e
  have := go ws.length (Nat.le_refl _)
  rwa [List.take_length] at this
theorem BI.again {n t now : Nat} {ws : List Wt} {s : BS} {L τ : Nat → Nat} (h : BI n ws t ws.length s L τ now) : BI n ws (t + 1) 0 ⟨s.f, s.k, none⟩ L τ now :=
  ⟨h.lf, h.lk, h.f0, h.none', h.some', fun j => by have := h.Lt j; omega, h.tn, fun m w hm => absurd hm (Nat.not_lt_zero _), fun m w _ em => h.done m w (List.getElem?_eq_some_iff.mp em).1 em, fun j hj => (by cases hj), fun _ m w hm => absurd hm (Nat.not_lt_zero _)⟩
/-- the end: nothing raised in the last round, or something in each of them -/
theorem loopW_end {n : Nat} {ws : List Wt} (hw : InW n ws) : ∀ (m t now : Nat) (s : BS) (L τ : Nat → Nat), BI n ws t 0 ⟨s.f, s.k, none⟩ L τ now → (m = 0 → ∃ L τ now, 0 < t ∧ BI n ws (t - 1) ws.length s L τ now) →
    ∃ t' L' τ' now', BI n ws t' ws.length (loopW ws m s) L' τ' now' ∧ ((loopW ws m s).r ≠ none → t' + 1 = t + m)
  | 0, t, now, s, L, τ, _, h => by
    obtain ⟨L', τ', now', h1, h2⟩ := h rfl
    exact ⟨t - 1, L', τ', now', h2, fun _ => by omega⟩
  | m + 1, t, now, s, L, τ, h, _ => by
    obtain ⟨L', τ', now', h'⟩ := h.round hw
    unfold loopW
    by_cases hr : (roundW ws s).r = none
    · rw [if_pos hr]
      exact ⟨t, L', τ', now', h', fun z => absurd hr z⟩
    · rw [if_neg hr]
      obtain ⟨t', L2, τ2, now2, h2, h3⟩ := loopW_end hw m (t + 1) now' (roundW ws s) L' τ' h'.again (fun _ => ⟨L', τ', now', Nat.succ_pos t, h'⟩)
      exact ⟨t', L2, τ2, now2, h2, fun z => by have := h3 z; omega⟩
theorem getD_rep {α : Type} (n j : Nat) (x : α) : (List.replicate n x).getD j x = x := by
  rw [List.getD, List.getElem?_replicate]
  split <;> rfl
theorem bf_end {n : Nat} {ws : List Wt} (hw : InW n ws) (hn : 0 < n) : ∃ t L τ now, BI n ws t ws.length (bf n ws) L τ now ∧ ((bf n ws).r ≠ none → t + 1 = n) := by
  obtain ⟨t, L, τ, now, h1, h2⟩ := loopW_end hw n 0 1 ⟨List.replicate n 0, List.replicate n none, none⟩ (fun _ => 0) (fun _ => 0) ⟨List.length_replicate, List.length_replicate, fun j => by rw [getD_rep]; exact Int.le_refl _, fun j _ => ⟨getD_rep n j 0, rfl⟩, fun j w hj => (by
      have : (List.replicate n (none : Option Wt)).getD j none = none := getD_rep n j none
      rw [this] at hj
      cases hj), fun j => Nat.zero_le _, fun j => Nat.one_pos, fun m w hm => absurd hm (Nat.not_lt_zero _), fun m w _ em => .inr (Nat.zero_le _), fun j hj => (by cases hj), fun _ m w hm => absurd hm (Nat.not_lt_zero _)⟩ (fun z => by omega)
  exact ⟨t, L, τ, now, h1, fun z => by have := h2 z; omega⟩

/-! ### rings of causes -/
def srcW (s : BS) (v : Nat) : Nat := match s.k.getD v none with
  | some w => w.1
  | none => v
def cW (s : BS) (v : Nat) : Int := match s.k.getD v none with
  | some w => w.2.2
  | none => 0
def itW (s : BS) (v : Nat) : Nat → Nat
  | 0 => v
  | m + 1 => srcW s (itW s v m)
def sumW (s : BS) (v : Nat) : Nat → Int
  | 0 => 0
  | m + 1 => sumW s v m + cW s (itW s v m)
theorem itW_add (s : BS) (v m : Nat) : ∀ l, itW s v (m + l) = itW s (itW s v m) l
  | 0 => rfl
  | l + 1 => congrArg (srcW s) (itW_add s v m l)
section
variable {n t p now : Nat} {ws : List Wt} {s : BS} {L τ : Nat → Nat}
theorem BI.src (h : BI n ws t p s L τ now) {v : Nat} (hk : s.k.getD v none ≠ none) : ∃ w, s.k.getD v none = some w ∧ w ∈ ws ∧ w = (srcW s v, v, cW s v) := by
  cases e : s.k.getD v none with
  | none => exact absurd e hk
  | some w =>
    obtain ⟨h1, h2, _⟩ := h.some' v w e
    refine ⟨w, rfl, h1, ?_⟩
    unfold srcW cW
    rw [e]
    show w = (w.1, v, w.2.2)
    rw [← h2]
theorem BI.lt (hw : InW n ws) (h : BI n ws t p s L τ now) {v : Nat} (hk : s.k.getD v none ≠ none) : srcW s v < n := by
  obtain ⟨w, _, h2, h3⟩ := h.src hk
  have := (hw w h2).1
  rw [h3] at this
  exact this
theorem BI.sum (h : BI n ws t p s L τ now) (v : Nat) : ∀ m, (∀ l, l < m → s.k.getD (itW s v l) none ≠ none) → s.f.getD v 0 - s.f.getD (itW s v m) 0 ≤ sumW s v m ∧ (s.f.getD v 0 - s.f.getD (itW s v m) 0 = sumW s v m → m = 0 ∨ τ (itW s v m) < τ v)
  | 0, _ => ⟨by show s.f.getD v 0 - s.f.getD v 0 ≤ 0; omega, fun _ => .inl rfl⟩
  | m + 1, hd => by
    obtain ⟨h1, h2⟩ := BI.sum h v m (fun l hl => hd l (by omega))
    obtain ⟨w, e, _, ew⟩ := h.src (hd m (Nat.lt_succ_self m))
    obtain ⟨_, _, a3, _, _, a6⟩ := h.some' _ w e
    have e1 : w.1 = srcW s (itW s v m) := by rw [ew]
    have e2 : w.2.2 = cW s (itW s v m) := by rw [ew]
    rw [e1, e2] at a3 a6
    have e3 : itW s v (m + 1) = srcW s (itW s v m) := rfl
    have e4 : sumW s v (m + 1) = sumW s v m + cW s (itW s v m) := rfl
    rw [e3, e4]
    refine ⟨by omega, fun z => .inr ?_⟩
    have t1 := a6 (by omega)
    rcases h2 (by omega) with rfl | t2
    · exact t1
    · exact Nat.lt_trans t1 t2
theorem BI.ring (h : BI n ws t p s L τ now) {v m : Nat} (hm : 0 < m) (hd : ∀ l, l < m → s.k.getD (itW s v l) none ≠ none) (hc : itW s v m = v) : 0 < sumW s v m := by
  obtain ⟨h1, h2⟩ := h.sum v m hd
  rw [hc] at h1 h2
  by_cases z : s.f.getD v 0 - s.f.getD v 0 = sumW s v m
  · rcases h2 z with z | z
    · omega
    · exact absurd z (Nat.lt_irrefl _)
  · omega
end
/-- more pigeons than holes -/
theorem pigeon : ∀ (n : Nat) (f : Nat → Nat), (∀ i, i ≤ n → f i < n) → ∃ a b, a < b ∧ b ≤ n ∧ f a = f b
  | 0, f, h => absurd (h 0 (Nat.le_refl _)) (Nat.not_lt_zero _)
  | n + 1, f, h => by
    by_cases hz : ∃ a, a ≤ n ∧ f a = f (n + 1)
    · obtain ⟨a, h1, h2⟩ := hz
      exact ⟨a, n + 1, by omega, Nat.le_refl _, h2⟩
    · have h3 : ∀ i, i ≤ n → f i ≠ f (n + 1) := fun i hi z => hz ⟨i, hi, z⟩
      obtain ⟨a, b, h4, h5, h6⟩ := pigeon n (fun i => if f i < f (n + 1) then f i else f i - 1) (fun i hi => by
        have := h i (by omega)
        have := h (n + 1) (Nat.le_refl _)
        have := h3 i hi
        split <;> omega)
      refine ⟨a, b, h4, by omega, ?_⟩
      have := h3 a (by omega)
      have := h3 b h5
      split at h6 <;> split at h6 <;> omega
/-- from what was raised in the last round, as many steps as there are numbers lead to a ring -/
theorem bf_ring {n : Nat} {ws : List Wt} (hw : InW n ws) (hn : 0 < n) {j : Nat} (hr : (bf n ws).r = some j) : j < n ∧ (∀ l, (bf n ws).k.getD (itW (bf n ws) j l) none ≠ none ∧ itW (bf n ws) j l < n) ∧ ∃ m, 0 < m ∧ m ≤ n ∧ itW (bf n ws) (itW (bf n ws) j n) m = itW (bf n ws) j n := by
  obtain ⟨t, L, τ, now, h, ht⟩ := bf_end hw hn
  have ht' := ht (by rw [hr]; intro z; cases z)
  obtain ⟨hL, hj⟩ := h.rs j hr
  generalize bf n ws = s at h hr
  have ch : ∀ m, m ≤ n → n ≤ L (itW s j m) + m ∧ itW s j m < n := by
    intro m
    induction m with
    | zero => exact fun _ => ⟨by show n ≤ L j + 0; omega, hj⟩
    | succ m ih =>
      intro hm
      obtain ⟨h1, h2⟩ := ih (by omega)
      have hk : s.k.getD (itW s j m) none ≠ none := fun z => by
        have := (h.none' _ z).2
        omega
      obtain ⟨w, e, _, ew⟩ := h.src hk
      obtain ⟨_, _, _, _, a5, _⟩ := h.some' _ w e
      rw [ew] at a5
      have a5' : L (itW s j m) ≤ L (srcW s (itW s j m)) + 1 := a5
      have e3 : itW s j (m + 1) = srcW s (itW s j m) := rfl
      rw [e3]
      exact ⟨by omega, h.lt hw hk⟩
  have dk : ∀ m, m < n → s.k.getD (itW s j m) none ≠ none := fun m hm z => by
    have := (h.none' _ z).2
    have := (ch m (by omega)).1
    omega
  obtain ⟨a, b, hab, hbn, heq⟩ := pigeon n (itW s j) (fun i hi => (ch i hi).2)
  have per : ∀ l, itW s j (a + (b - a) + l) = itW s j (a + l) := fun l => by
    rw [itW_add, itW_add s j a l, show a + (b - a) = b by omega, heq]
  have all : ∀ q, s.k.getD (itW s j q) none ≠ none ∧ itW s j q < n := by
    intro q
    induction q using Nat.strongRecOn with
    | ind q ih =>
      by_cases hq : q < n
      · exact ⟨dk q hq, (ch q (by omega)).2⟩
      · have e : itW s j q = itW s j (q - (b - a)) := by
          have := per (q - b)
          rw [show a + (b - a) + (q - b) = q by omega, show a + (q - b) = q - (b - a) by omega] at this
          exact this
        rw [e]
        exact ih _ (by omega)
  refine ⟨hj, all, b - a, by omega, by omega, ?_⟩
  rw [← itW_add]
  have := per (n - a)
  rw [show a + (b - a) + (n - a) = n + (b - a) by omega, show a + (n - a) = n by omega] at this
  exact this
/-! ### all held -/
theorem bf_keeps {n : Nat} {ws : List Wt} (hw : InW n ws) (hn : 0 < n) (hr : (bf n ws).r = none) : (∀ w ∈ ws, (bf n ws).f.getD w.1 0 + w.2.2 ≤ (bf n ws).f.getD w.2.1 0) ∧ (∀ j, 0 ≤ (bf n ws).f.getD j 0) ∧ (bf n ws).f.length = n ∧
    ∃ τ : Nat → Nat, ∀ x, (bf n ws).f.getD x 0 ≠ 0 → ∃ w ∈ ws, w.2.1 = x ∧ (bf n ws).f.getD w.1 0 + w.2.2 = (bf n ws).f.getD x 0 ∧ τ w.1 < τ x := by
  obtain ⟨t, L, τ, now, h, _⟩ := bf_end hw hn
  have all : ∀ w ∈ ws, (bf n ws).f.getD w.1 0 + w.2.2 ≤ (bf n ws).f.getD w.2.1 0 := fun w hw' => by
    obtain ⟨m, hm, e⟩ := List.getElem_of_mem hw'
    exact h.rn hr m w hm (by rw [List.getElem?_eq_getElem hm, e])
  refine ⟨all, h.f0, h.lf, τ, fun x hx => ?_⟩
  cases e : (bf n ws).k.getD x none with
  | none => exact absurd (h.none' x e).1 hx
  | some w =>
    obtain ⟨a1, a2, a3, _, _, a6⟩ := h.some' x w e
    have := all w a1
    rw [a2] at this
    have eq : (bf n ws).f.getD x 0 = (bf n ws).f.getD w.1 0 + w.2.2 := by omega
    exact ⟨w, a1, a2, eq.symm, a6 eq⟩
def stepH (f : List Int) (b : List Bool) (w : Wt) : List Bool := if b.getD w.1 false = true ∧ f.getD w.1 0 + w.2.2 = f.getD w.2.1 0 then b.set w.2.1 true else b
def roundH (f : List Int) (ws : List Wt) (b : List Bool) : List Bool := ws.foldl (stepH f) b
theorem stepH_len (f : List Int) (b : List Bool) (w : Wt) : (stepH f b w).length = b.length := by
  unfold stepH
  split
  · exact List.length_set
  · rfl
theorem stepH_up (f : List Int) (b : List Bool) (w : Wt) (x : Nat) (h : b.getD x false = true) : (stepH f b w).getD x false = true := by
  unfold stepH
  split
  · rw [getD_set]
    split
    · rfl
    · exact h
  · exact h
theorem foldH (f : List Int) : ∀ (ws : List Wt) (b : List Bool), (ws.foldl (stepH f) b).length = b.length ∧ (∀ x, b.getD x false = true → (ws.foldl (stepH f) b).getD x false = true) ∧
    ∀ w ∈ ws, b.getD w.1 false = true → f.getD w.1 0 + w.2.2 = f.getD w.2.1 0 → w.2.1 < b.length → (ws.foldl (stepH f) b).getD w.2.1 false = true
  | [], b => ⟨rfl, fun x h => h, fun w h => by cases h⟩
  | w0 :: ws, b => by
    obtain ⟨h1, h2, h3⟩ := foldH f ws (stepH f b w0)
    rw [List.foldl_cons]
    refine ⟨h1.trans (stepH_len f b w0), fun x hx => h2 x (stepH_up f b w0 x hx), fun w hw hb ht hl => ?_⟩
    rcases List.mem_cons.mp hw with rfl | hw
    · refine h2 _ ?_
      unfold stepH
      rw [if_pos ⟨hb, ht⟩, getD_set, if_pos ⟨rfl, hl⟩]
    · exact h3 w hw (stepH_up f b w0 _ hb) ht (by rw [stepH_len]; exact hl)
def falses : List Bool → Nat
  | [] => 0
  | b :: bs => (if b = true then 0 else 1) + falses bs
theorem falses_le : ∀ (bs cs : List Bool), bs.length = cs.length → (∀ x : Nat, bs.getD x false = true → cs.getD x false = true) → falses cs ≤ falses bs ∧ ((∃ x : Nat, x < bs.length ∧ bs.getD x false = false ∧ cs.getD x false = true) → falses cs < falses bs)
  | [], [], _, _ => ⟨Nat.le_refl _, fun ⟨x, h, _⟩ => absurd h (Nat.not_lt_zero _)⟩
  | b :: bs, c :: cs, hl, h => by
    obtain ⟨h1, h2⟩ := falses_le bs cs (Nat.succ.inj hl) (fun x hx => h (x + 1) hx)
    have h0 : b = true → c = true := h 0
    show (if c = true then 0 else 1) + falses cs ≤ (if b = true then 0 else 1) + falses bs ∧ (_ → (if c = true then 0 else 1) + falses cs < (if b = true then 0 else 1) + falses bs)
    refine ⟨?_, fun ⟨x, hx, hb, hc⟩ => ?_⟩
    · cases b with
      | true => rw [h0 rfl]; simp; exact h1
      | false => cases c <;> simp <;> omega
    · cases x with
      | zero =>
        have hb' : b = false := hb
        have hc' : c = true := hc
        subst hb' hc'
        simp
        omega
      | succ x =>
        have := h2 ⟨x, Nat.lt_of_succ_lt_succ hx, hb, hc⟩
        cases b with
        | true => rw [h0 rfl]; simp; exact this
        | false => cases c <;> simp <;> omega
theorem falses_zero : ∀ (bs : List Bool), falses bs = 0 → bs.all id = true
  | [], _ => rfl
  | b :: bs, h => by
    have h' : (if b = true then 0 else 1) + falses bs = 0 := h
    cases b with
    | true => rw [List.all_cons]; exact falses_zero bs (by simp at h'; exact h')
    | false => simp at h'
theorem falses_len : ∀ (bs : List Bool), falses bs ≤ bs.length
  | [] => Nat.le_refl _
  | b :: bs => by
    have := falses_len bs
    show (if b = true then 0 else 1) + falses bs ≤ bs.length + 1
    split <;> omega
theorem falses_pos : ∀ (bs : List Bool), 0 < falses bs → ∃ x : Nat, x < bs.length ∧ bs.getD x false = false
  | [], h => absurd h (Nat.not_lt_zero _)
  | b :: bs, h => by
    cases b with
    | false => exact ⟨0, Nat.succ_pos _, rfl⟩
    | true =>
      have h' : 0 < (if true = true then 0 else 1) + falses bs := h
      obtain ⟨x, h1, h2⟩ := falses_pos bs (by simpa using h')
      exact ⟨x + 1, Nat.succ_lt_succ h1, h2⟩
/-- a round makes one more sure, where one is left -/
theorem roundH_less {n : Nat} {ws : List Wt} {f : List Int} (hw : InW n ws) (τ : Nat → Nat) (hτ : ∀ x, f.getD x 0 ≠ 0 → ∃ w ∈ ws, w.2.1 = x ∧ f.getD w.1 0 + w.2.2 = f.getD x 0 ∧ τ w.1 < τ x) {b : List Bool} (hl : b.length = n) (hb : ∀ x, x < n → f.getD x 0 = 0 → b.getD x false = true) :
    falses (roundH f ws b) ≤ falses b - 1 ∧ (roundH f ws b).length = n ∧ ∀ x, x < n → f.getD x 0 = 0 → (roundH f ws b).getD x false = true := by
  obtain ⟨h1, h2, h3⟩ := foldH f ws b
  have hle := falses_le b (roundH f ws b) h1.symm h2
  refine ⟨?_, h1.trans hl, fun x hx h0 => h2 x (hb x hx h0)⟩
  by_cases hz : falses b = 0
  · omega
  · obtain ⟨x0, hx0, hf0⟩ := falses_pos b (by omega)
    have least : ∀ k x, τ x ≤ k → x < b.length → b.getD x false = false → ∃ y, y < b.length ∧ b.getD y false = false ∧ (roundH f ws b).getD y false = true := by
      intro k
      induction k with
      | zero =>
        intro x hk hx hf
        obtain ⟨w, _, _, _, a4⟩ := hτ x (fun z => by rw [hb x (by omega) z] at hf; cases hf)
        omega
      | succ k ih =>
        intro x hk hx hf
        obtain ⟨w, a1, a2, a3, a4⟩ := hτ x (fun z => by rw [hb x (by omega) z] at hf; cases hf)
        cases hs : b.getD w.1 false with
        | false => exact ih w.1 (by omega) (by rw [hl]; exact (hw w a1).1) hs
        | true => exact ⟨x, hx, hf, by have := h3 w a1 hs (by rw [a2]; exact a3) (by rw [a2]; exact hx); rwa [a2] at this⟩
    have := hle.2 (least (τ x0) x0 (Nat.le_refl _) hx0 hf0)
    omega

def encW (w : Wt) : D := .tup [.int w.1, .int w.2.1, .int w.2.2]
def encK : Option Wt → D
  | some w => encW w
  | none => .non
def encR : Option Nat → D
  | some j => .int j
  | none => .non
theorem ints_at {ns : List Int} {j : Nat} (h : j < ns.length) : atI (ns.map D.int) (j : Int) = some (.int (ns.getD j 0)) := atI_map (by rw [List.getElem?_eq_getElem h, List.getD, List.getElem?_eq_getElem h]; rfl)
theorem encK_at {ks : List (Option Wt)} {j : Nat} (h : j < ks.length) : atI (ks.map encK) (j : Int) = some (encK (ks.getD j none)) := atI_map (by rw [List.getElem?_eq_getElem h, List.getD, List.getElem?_eq_getElem h]; rfl)
theorem stepW_len (s : BS) (w : Wt) : (stepW s w).f.length = s.f.length ∧ (stepW s w).k.length = s.k.length := by
  unfold stepW
  split
  · exact ⟨List.length_set, List.length_set⟩
  · exact ⟨rfl, rfl⟩
theorem foldW_len (ws : List Wt) : ∀ s : BS, (ws.foldl stepW s).f.length = s.f.length ∧ (ws.foldl stepW s).k.length = s.k.length := by
  induction ws with
  | nil => exact fun s => ⟨rfl, rfl⟩
  | cons w ws ih => exact fun s => ⟨(ih _).1.trans (stepW_len s w).1, (ih _).2.trans (stepW_len s w).2⟩
theorem rounds_A (T : Tx K mg) {n : Nat} {ws : List Wt} {q : AV → Prop} {x : Exn → Prop} (hw : InW n ws) (hn : n ≤ 1000) (h : q (.fz (.tup [.lst ((bf n ws).f.map .int), .lst ((bf n ws).k.map encK), encR (bf n ws).r]))) :
    A_rounds T [.fz (.int n), .fz (.lst (ws.map encW))] q x := by
  refine A_rounds_of T ?_
  unfold b_rounds
  walk_at "aw"
  refine w_rep (by omega) ?_
  walk_at "aw"
  refine w_rep (by omega) ?_
  walk_at "aw"
  refine ⟨⟨by omega, by omega⟩, ?_⟩
  rw [Int.toNat_natCast]
  refine loop_rng (fun i ρ => ∃ (s : BS) (v5 v6 v7 v8 v9 : Option AV), ρ = [some (.fz (.int n)), some (.fz (.lst (ws.map encW))), some (.ol (s.f.map .int)), some (.ol (s.k.map encK)), some (.fz (encR s.r)), v5, v6, v7, v8, v9] ∧ i ≤ n ∧ bf n ws = loopW ws (n - i) s ∧ s.f.length = n ∧ s.k.length = n) ?_ ?_ ?_
  · exact ⟨⟨List.replicate n 0, List.replicate n none, none⟩, none, none, none, none, none, by simp [List.map_replicate, encK, encR], Nat.zero_le _, rfl, List.length_replicate, List.length_replicate⟩
  · rintro i ρ K' hi ⟨s, v5, v6, v7, v8, v9, rfl, _, hb, lf, lk⟩ hK
    walk_at "aw"
    refine loop_map (fun m ρ => ∃ (v6 v7 v8 v9 : Option AV), ρ = [some (.fz (.int n)), some (.fz (.lst (ws.map encW))), some (.ol (((ws.take m).foldl stepW ⟨s.f, s.k, none⟩).f.map .int)), some (.ol (((ws.take m).foldl stepW ⟨s.f, s.k, none⟩).k.map encK)), some (.fz (encR ((ws.take m).foldl stepW ⟨s.f, s.k, none⟩).r)), some (.fz (.int (0 + (i : Nat)))), v6, v7, v8, v9]) ?_ ?_ ?_
    · exact ⟨v6, v7, v8, v9, rfl⟩
    · rintro m w ρ K2 em ⟨v6, v7, v8, v9, rfl⟩ hK2
      obtain ⟨hwi, hwj⟩ := hw w (List.mem_of_getElem? em)
      have lz := foldW_len (ws.take m) ⟨s.f, s.k, none⟩
      have e1 := foldl_take stepW ⟨s.f, s.k, none⟩ em
      generalize (ws.take m).foldl stepW ⟨s.f, s.k, none⟩ = z at lz e1
      have lf' : z.f.length = n := lz.1.trans lf
      have lk' : z.k.length = n := lz.2.trans lk
      have ai := ints_at (ns := z.f) (j := w.1) (by omega)
      have aj := ints_at (ns := z.f) (j := w.2.1) (by omega)
      unfold encW
      walk_at "aw"
      refine w_ixL ai ?_
      walk_at "aw"
      refine w_ixL aj ?_
      walk_at "aw"
      refine cond_dec (fun hc => ?_) (fun hc => ?_)
      · walk_at "aw"
        refine w_ixL ai ?_
        walk_at "aw"
        refine w_ixQ (by rw [List.length_map]; exact ixN_nat (by omega)) ?_
        walk_at "aw"
        refine w_ixQ (by rw [List.length_map]; exact ixN_nat (by omega)) ?_
        walk_at "aw"
        refine hK2 _ ?_
        have es : stepW z w = ⟨z.f.set w.2.1 (z.f.getD w.1 0 + w.2.2), z.k.set w.2.1 (some w), some w.2.1⟩ := if_pos hc
        rw [e1, es]
        simp only [List.map_set]
        exact ⟨_, _, _, _, rfl⟩
      · walk_at "aw"
        refine hK2 _ ?_
        have es : stepW z w = z := if_neg hc
        rw [e1, es]
        exact ⟨_, _, _, _, rfl⟩
    · rintro ρ ⟨v6, v7, v8, v9, rfl⟩
      rw [List.take_length]
      have er : ws.foldl stepW ⟨s.f, s.k, none⟩ = roundW ws s := rfl
      have lz := foldW_len ws ⟨s.f, s.k, none⟩
      rw [er] at lz ⊢
      have hb' : bf n ws = if (roundW ws s).r = none then roundW ws s else loopW ws (n - (i + 1)) (roundW ws s) := by
        rw [hb, show n - i = (n - (i + 1)) + 1 by omega]
        rfl
      cases hr : (roundW ws s).r with
      | none =>
        rw [if_pos hr] at hb'
        rw [hb', hr] at h
        unfold encR
        walk_at "aw"
        exact h
      | some j =>
        rw [if_neg (by rw [hr]; intro z; cases z)] at hb'
        unfold encR
        walk_at "aw"
        exact hK _ ⟨roundW ws s, _, _, _, _, _, by rw [hr]; rfl, by omega, hb', lz.1.trans lf, lz.2.trans lk⟩
  · rintro ρ ⟨s, v5, v6, v7, v8, v9, rfl, _, hb, lf, lk⟩
    rw [Nat.sub_self] at hb
    have hb' : bf n ws = s := hb
    rw [hb'] at h
    walk_at "aw"
    exact h
theorem least_A (T : Tx K mg) {n : Nat} {ws : List Wt} {q : AV → Prop} {x : Exn → Prop} (hw : InW n ws) (hn : n ≤ 1000) (h0 : (bf n ws).r ≠ none → q (.fz .non)) (h1 : (bf n ws).r = none → q (.fz (.lst ((bf n ws).f.map .int)))) :
    A_least T [.fz (.int n), .fz (.lst (ws.map encW))] q x := by
  refine A_least_of T ?_
  unfold b_least
  walk_at "aw"
  refine rounds_A T hw hn ?_
  cases hr : (bf n ws).r with
  | none =>
    unfold encR
    walk_at "aw"
    exact h1 hr
  | some j =>
    unfold encR
    walk_at "aw"
    exact h0 (by rw [hr]; intro z; cases z)
theorem getD_of {α : Type} {xs : List α} {j : Nat} {d x : α} (h : xs.getD j d = x) (hx : x ≠ d) : j < xs.length := by
  cases Nat.lt_or_ge j xs.length with
  | inl h => exact h
  | inr h' => rw [List.getD, List.getElem?_eq_none h'] at h; exact absurd h.symm hx
/-- the causes from v on -/
def causes (s : BS) (v m : Nat) : List Wt := (List.range m).map fun l => (srcW s (itW s v l), itW s v l, cW s (itW s v l))
theorem causes_succ (s : BS) (v m : Nat) : causes s v (m + 1) = causes s v m ++ [(srcW s (itW s v m), itW s v m, cW s (itW s v m))] := by
  unfold causes
  rw [List.range_succ, List.map_append]
  rfl
theorem ring_A (T : Tx K mg) {n : Nat} {ws : List Wt} {q : AV → Prop} {x : Exn → Prop} (hw : InW n ws) (h0' : 0 < n) (hn : n ≤ 1000) (h0 : (bf n ws).r = none → q (.fz .non))
    (h1 : ∀ j m, (bf n ws).r = some j → 0 < m → m ≤ n → itW (bf n ws) (itW (bf n ws) j n) m = itW (bf n ws) j n → q (.ol ((causes (bf n ws) (itW (bf n ws) j n) m).reverse.map encW))) :
    A_ring T [.fz (.int n), .fz (.lst (ws.map encW))] q x := by
  refine A_ring_of T ?_
  unfold b_ring
  walk_at "aw"
  refine rounds_A T hw hn ?_
  cases hr : (bf n ws).r with
  | none =>
    unfold encR
    walk_at "aw"
    exact h0 hr
  | some j =>
    obtain ⟨hj, hall, m0, hm0, hm1, hc⟩ := bf_ring hw h0' hr
    obtain ⟨t, L, τ, now, hB, _⟩ := bf_end hw h0'
    have h1 := h1 j
    generalize bf n ws = s at *
    have cat : ∀ l, atI (s.k.map encK) ((itW s j l : Nat) : Int) = some (.tup [.int (itW s j (l + 1)), .int (itW s j l), .int (cW s (itW s j l))]) := fun l => by
      obtain ⟨w, e, _, ew⟩ := hB.src (hall l).1
      rw [encK_at (by rw [hB.lk]; exact (hall l).2), e, ew]
      rfl
    unfold encR
    walk_at "aw"
    refine ⟨⟨by omega, by omega⟩, ?_⟩
    rw [Int.toNat_natCast]
    refine loop_rng (fun i ρ => ∃ v6 : Option AV, ρ = [some (.fz (.int n)), some (.fz (.lst (ws.map encW))), some (.fz (.lst (s.f.map .int))), some (.fz (.lst (s.k.map encK))), some (.fz (.int j)), some (.fz (.int (itW s j i))), v6, none]) ⟨_, rfl⟩ ?_ ?_
    · rintro i ρ K' hi ⟨v6, rfl⟩ hK
      walk_at "aw"
      refine w_ixL (cat i) ?_
      walk_at "aw"
      refine w_ixT rfl ?_
      walk_at "aw"
      exact hK _ ⟨_, rfl⟩
    · rintro ρ ⟨v6, rfl⟩
      have ct2 : ∀ l, atI (s.k.map encK) ((itW s (itW s j n) l : Nat) : Int) = some (.tup [.int (itW s (itW s j n) (l + 1)), .int (itW s (itW s j n) l), .int (cW s (itW s (itW s j n) l))]) := fun l => by
        have := cat (n + l)
        rw [show n + l + 1 = n + (l + 1) by omega, itW_add, itW_add] at this
        exact this
      walk_at "aw"
      refine w_ixL (cat n) ?_
      walk_at "aw"
      refine w_ixL (cat n) ?_
      walk_at "aw"
      refine w_ixT rfl ?_
      walk_at "aw"
      refine ⟨fun k ρ => ∃ (m : Nat) (v6 : Option AV), ρ = [some (.fz (.int n)), some (.fz (.lst (ws.map encW))), some (.ol ((causes s (itW s j n) m).map encW)), some (.fz (.lst (s.k.map encK))), some (.fz (.int j)), some (.fz (.int (itW s (itW s j n) m))), v6, some (.fz (.int (itW s j n)))] ∧ 0 < m ∧ m ≤ m0 ∧ k = m0 - m, ⟨_, 1, _, rfl, Nat.one_pos, hm0, rfl⟩, ?_⟩
      rintro k ρ ⟨m, v6, rfl, hm, hmm, rfl⟩
      walk_at "aw"
      by_cases hz : itW s (itW s j n) m = itW s j n
      · rw [decide_eq_true (by rw [hz])]
        walk_at "aw"
        rw [← List.map_reverse]
        exact h1 m hr hm (by omega) hz
      · rw [decide_eq_false (fun z => hz (by omega))]
        walk_at "aw"
        have hlt : m < m0 := by
          rcases Nat.lt_or_ge m m0 with h | h
          · exact h
          · exact absurd (by rw [show m = m0 by omega]; exact hc) hz
        refine ⟨fun ρ => ∃ (v6 : Option AV), ρ = [some (.fz (.int n)), some (.fz (.lst (ws.map encW))), some (.ol ((causes s (itW s j n) (m + 1)).map encW)), some (.fz (.lst (s.k.map encK))), some (.fz (.int j)), some (.fz (.int (itW s (itW s j n) (m + 1)))), v6, some (.fz (.int (itW s j n)))], fun ρ' ⟨v, e⟩ => ⟨m0 - (m + 1), by omega, m + 1, v, e, by omega, by omega, rfl⟩, ?_⟩
        walk_at "aw"
        refine w_ixL (ct2 m) ?_
        walk_at "aw"
        refine ⟨by rw [List.length_map]; unfold causes; rw [List.length_map, List.length_range]; omega, ?_⟩
        walk_at "aw"
        refine w_ixL (ct2 m) ?_
        walk_at "aw"
        refine w_ixT rfl ?_
        walk_at "aw"
        rw [causes_succ]
        simp only [List.map_append]
        exact ⟨_, rfl⟩
theorem whole_A (T : Tx K mg) {i : Int} {q : AV → Prop} {x : Exn → Prop} (h : q (.fz (.bl true))) : A_law_whole T [.fz (.int i)] q x := by
  refine A_law_whole_of T ?_
  unfold b_law_whole
  walk_at "aw"
  exact h
theorem InW.snoc {n : Nat} {ws : List Wt} {w : Wt} (h : InW n ws) (h1 : w.1 < n) (h2 : w.2.1 < n) : InW n (ws ++ [w]) := fun z hz => by
  rcases List.mem_append.mp hz with hz | hz
  · exact h z hz
  · rw [List.mem_singleton.mp hz]
    exact ⟨h1, h2⟩
theorem encW_snoc (ws : List Wt) (a b : Nat) (c : Int) : ws.map encW ++ [.tup [.int a, .int b, .int c]] = (ws ++ [(a, b, c)]).map encW := by rw [List.map_append]; rfl
theorem wants_A (T : Tx K mg) {n : Nat} {q : AV → Prop} {x : Exn → Prop} (h0 : 0 < n) (hn : n ≤ 9) (h : ∀ ws : List Wt, InW n ws → ws.length ≤ 100 → q (.ol (ws.map encW))) : A_law_wants T [.dr, .fz (.int n)] q x := by
  refine A_law_wants_of T ?_
  unfold b_law_wants
  have rest : ∀ (ws : List Wt) (v3 v4 v5 v6 v7 : Option AV), InW n ws → ws.length ≤ 30 → b_law_wants_1 T ⟨fun _ => q (.fz .non), fun av _ => q av, fun _ => False, fun _ => False, x⟩ [some .dr, some (.fz (.int n)), some (.ol (ws.map encW)), v3, v4, v5, v6, v7] := by
    intro ws v3 v4 v5 v6 v7 hw hl
    unfold b_law_wants_1
    walk_at "aw"
    refine w_draw (by omega) (by omega) fun r r0 r1 => ?_
    obtain ⟨k, rfl⟩ : ∃ k : Nat, r = k := ⟨r.toNat, by omega⟩
    walk_at "aw"
    walk_at "rg"
    refine loop_rng (fun i ρ => ∃ (ws : List Wt) (v4 v7 : Option AV), ρ = [some .dr, some (.fz (.int n)), some (.ol (ws.map encW)), v3, v4, v5, v6, v7] ∧ InW n ws ∧ ws.length ≤ 30 + i) ⟨ws, _, _, rfl, hw, by omega⟩ ?_ ?_
    · rintro i ρ K' hi ⟨ws, v4, v7, rfl, hw, hl⟩ hK
      walk_at "aw"
      refine w_draw (by decide) (by decide) fun c c0 c1 => ?_
      obtain ⟨top, ht, t0, t1⟩ : ∃ top : Int, atI [D.int 20, D.int 20, D.int (10 ^ (30 : Int).toNat)] c = some (.int top) ∧ 0 < top ∧ top < 2 ^ 200 := by
        have : c = 0 ∨ c = 1 ∨ c = 2 := by omega
        rcases this with rfl | rfl | rfl
        · exact ⟨_, rfl, by decide, by decide⟩
        · exact ⟨_, rfl, by decide, by decide⟩
        · exact ⟨_, rfl, by decide, by decide⟩
      walk_at "aw"
      refine w_ixL ht ?_
      walk_at "aw"
      refine w_draw (by omega) (by omega) fun a a0 a1 => ?_
      obtain ⟨a, rfl⟩ : ∃ k : Nat, a = k := ⟨a.toNat, by omega⟩
      walk_at "aw"
      refine w_draw (by omega) (by omega) fun b b0 b1 => ?_
      obtain ⟨b, rfl⟩ : ∃ k : Nat, b = k := ⟨b.toNat, by omega⟩
      walk_at "aw"
      refine w_draw t0 t1 fun c' _ _ => ?_
      walk_at "aw"
      refine ⟨by rw [List.length_map]; omega, ?_⟩
      rw [encW_snoc]
      exact hK _ ⟨_, _, _, rfl, hw.snoc (show a < n by omega) (show b < n by omega), by rw [List.length_append]; show _ + 1 ≤ _; omega⟩
    · rintro ρ ⟨ws, v4, v7, rfl, hw, hl⟩
      walk_at "aw"
      exact h ws hw (by omega)
  walk_at "aw"
  refine w_draw (by decide) (by decide) fun r r0 r1 => ?_
  walk_at "aw"
  refine cond_dec (fun hc => ?_) (fun hc => ?_)
  · walk_at "aw"
    refine ⟨⟨by omega, by omega⟩, ?_⟩
    rw [Int.toNat_natCast]
    refine comp_rel (fun _ y => ∃ i, y = .int i ∧ 0 ≤ i) (by rw [rngD_len]; show 0 + n ≤ _; omega) (fun d _ Q k => ?_) (fun ys hys => ?_)
    · unfold wipeA wipeA
      walk_at "aw"
      refine w_draw (by decide) (by decide) fun r r0 r1 => ?_
      walk_at "aw"
      exact k _ ⟨r, rfl, r0⟩
    · obtain ⟨sp, rfl, ls, _⟩ := paired_ints hys
      rw [rngD_len] at ls
      rw [List.nil_append]
      walk_at "aw"
      refine w_draw (by omega) (by omega) fun r r0 r1 => ?_
      obtain ⟨k, rfl⟩ : ∃ k : Nat, r = k := ⟨r.toNat, by omega⟩
      walk_at "aw"
      walk_at "rg"
      refine loop_rng (fun i ρ => ∃ (ws : List Wt) (v4 v5 v6 : Option AV), ρ = [some .dr, some (.fz (.int n)), some (.ol (ws.map encW)), some (.fz (.lst (sp.map .int))), v4, v5, v6, none] ∧ InW n ws ∧ ws.length ≤ i) ⟨[], _, _, _, rfl, fun w hw => (by cases hw), Nat.le_refl _⟩ ?_ ?_
      · rintro i ρ K' hi ⟨ws, v4, v5, v6, rfl, hw, hl⟩ hK
        walk_at "aw"
        refine w_draw (by omega) (by omega) fun a a0 a1 => ?_
        obtain ⟨a, rfl⟩ : ∃ k : Nat, a = k := ⟨a.toNat, by omega⟩
        walk_at "aw"
        refine w_draw (by omega) (by omega) fun b b0 b1 => ?_
        obtain ⟨b, rfl⟩ : ∃ k : Nat, b = k := ⟨b.toNat, by omega⟩
        walk_at "aw"
        refine w_ixL (ints_at (by omega)) ?_
        walk_at "aw"
        refine w_ixL (ints_at (by omega)) ?_
        walk_at "aw"
        refine w_draw (by decide) (by decide) fun c' _ _ => ?_
        walk_at "aw"
        refine ⟨by rw [List.length_map]; omega, ?_⟩
        rw [encW_snoc]
        exact hK _ ⟨_, _, _, _, rfl, hw.snoc (show a < n by omega) (show b < n by omega), by rw [List.length_append]; show _ + 1 ≤ _; omega⟩
      · rintro ρ ⟨ws, v4, v5, v6, rfl, hw, hl⟩
        walk_at "aw"
        exact rest ws _ _ _ _ _ hw (by omega)
  · walk_at "aw"
    exact rest [] _ _ _ _ _ (fun w hw => by cases hw) (by decide)
theorem encW_ok (w : Wt) : okD 7 (encW w) = true := rfl
theorem encWs_ok (ws : List Wt) : okDs 7 (ws.map encW) = true := by
  induction ws with
  | nil => rfl
  | cons w ws ih => show (okD 7 (encW w) && okDs 7 (ws.map encW)) = true; rw [ih]; rfl
theorem deq_W (w : Wt) : deq (encW w) (encW w) = true := by
  show ((w.1 : Int) == (w.1 : Int) && ((w.2.1 : Int) == (w.2.1 : Int) && (w.2.2 == w.2.2 && true))) = true
  simp
theorem deqs_W (ws : List Wt) : deqs (ws.map encW) (ws.map encW) = true := by
  induction ws with
  | nil => rfl
  | cons w ws ih => show (deq (encW w) (encW w) && deqs (ws.map encW) (ws.map encW)) = true; rw [ih, deq_W]; rfl
theorem in_W {w : Wt} {ws : List Wt} (h : w ∈ ws) : inD (encW w) (ws.map encW) = true := by
  unfold inD
  rw [List.any_eq_true]
  exact ⟨encW w, List.mem_map.mpr ⟨w, h, rfl⟩, deq_W w⟩
theorem map_const {α : Type} (xs : List α) (f : α → D) (c : D) (h : ∀ x ∈ xs, f x = c) : xs.map f = (xs.map fun _ => c) := List.map_congr_left h
theorem all_true {α : Type} (xs : List α) : (xs.map fun _ => true).all id = true := by
  rw [List.all_eq_true]
  intro x hx
  obtain ⟨_, _, rfl⟩ := List.mem_map.mp hx
  rfl
theorem ringL_A (T : Tx K mg) {rs ws : List Wt} {q : AV → Prop} {x : Exn → Prop} (h0 : rs ≠ []) (hl : rs.length ≤ 1000) (hin : ∀ w ∈ rs, w ∈ ws) (hc : ∀ (i : Nat) (w v : Wt), rs[i]? = some w → atI rs ((i : Int) - 1) = some v → w.1 = v.2.1) (hs : 0 < (rs.map (·.2.2)).sum) (h : q (.fz (.bl true))) :
    A_law_ring T [.fz (.lst (rs.map encW)), .fz (.lst (ws.map encW))] q x := by
  have hp : 0 < rs.length := List.length_pos_iff.mpr h0
  refine A_law_ring_of T ?_
  unfold b_law_ring
  walk_at "aw"
  rw [List.length_map, decide_eq_false (by omega)]
  walk_at "aw"
  refine comp_map (fun _ => .bl true) (by rw [List.length_map]; show 0 + _ ≤ _; omega) (fun d hd Q hQ => ?_) ?_
  · obtain ⟨w, _, rfl⟩ := List.mem_map.mp hd
    unfold wipeA wipeA encW
    walk_at "aw"
    exact hQ
  rw [List.nil_append, List.map_map]
  walk_at "aw"
  refine w_bls (ns := rs.map fun _ => true) (by rw [← blsOf_map, List.map_map]; rfl) ?_
  rw [all_true]
  walk_at "aw"
  refine comp_map (fun _ => .bl true) (by rw [List.length_map]; show 0 + _ ≤ _; omega) (fun d hd Q hQ => ?_) ?_
  · obtain ⟨w, hw, rfl⟩ := List.mem_map.mp hd
    unfold wipeA wipeA
    walk_at "aw"
    refine w_inD (encW_ok w) (encWs_ok ws) ?_
    rw [in_W (hin w hw)]
    exact hQ
  rw [List.nil_append, List.map_map]
  walk_at "aw"
  refine w_bls (ns := rs.map fun _ => true) (by rw [← blsOf_map, List.map_map]; rfl) ?_
  rw [all_true]
  walk_at "aw"
  walk_at "rg"
  refine loop_rng (fun i ρ => ∃ v2 : Option AV, ρ = [some (.fz (.lst (rs.map encW))), some (.fz (.lst (ws.map encW))), v2, none, none]) ⟨_, rfl⟩ ?_ ?_
  · rintro i ρ K' hi ⟨v2, rfl⟩ hK
    have e1 : rs[i]? = some rs[i] := List.getElem?_eq_getElem hi
    obtain ⟨v, e2⟩ : ∃ v, atI rs ((i : Int) - 1) = some v := by
      unfold atI
      cases i with
      | zero =>
        refine ⟨rs[rs.length - 1], ?_⟩
        have : ixN rs.length ((0 : Nat) - 1 : Int) = some (rs.length - 1) := by
          unfold ixN
          rw [if_neg (by decide), if_pos (by omega)]
          congr 1
          omega
        rw [this]
        exact List.getElem?_eq_getElem _
      | succ i =>
        refine ⟨rs[i], ?_⟩
        rw [show (((i + 1 : Nat) : Int) - 1) = ((i : Nat) : Int) by omega, ixN_nat (by omega)]
        exact List.getElem?_eq_getElem _
    have a1 : atI (rs.map encW) (0 + (i : Int)) = some (encW rs[i]) := by rw [Int.zero_add]; exact atI_map e1
    have a2 : atI (rs.map encW) (0 + (i : Int) - 1) = some (encW v) := by
      rw [Int.zero_add]
      unfold atI at e2 ⊢
      rw [List.length_map]
      cases ez : ixN rs.length ((i : Int) - 1) with
      | none => rw [ez] at e2; cases e2
      | some j =>
        rw [ez] at e2
        show (rs.map encW)[j]? = _
        rw [List.getElem?_map, show rs[j]? = some v from e2]
        rfl
    have hcc := hc i _ v e1 e2
    walk_at "aw"
    refine w_ixL a1 ?_
    walk_at "aw"
    refine w_ixT rfl ?_
    walk_at "aw"
    refine w_ixL a2 ?_
    walk_at "aw"
    refine w_ixT rfl ?_
    walk_at "aw"
    rw [decide_eq_true (by rw [hcc])]
    walk_at "aw"
    exact hK _ ⟨_, rfl⟩
  · rintro ρ ⟨v2, rfl⟩
    walk_at "aw"
    refine comp_rel (fun d y => ∃ w, d = encW w ∧ y = .int w.2.2) (by rw [List.length_map]; show 0 + _ ≤ _; omega) (fun d hd Q hQ => ?_) (fun ys hys => ?_)
    · obtain ⟨w, hw, rfl⟩ := List.mem_map.mp hd
      unfold wipeA wipeA
      walk_at "aw"
      refine w_ixT rfl ?_
      walk_at "aw"
      exact hQ _ ⟨w, rfl, rfl⟩
    · have ey : ys = (rs.map (·.2.2)).map D.int := by
        clear hs h hc hin hl hp h0
        have hys' := paired_map hys
        clear hys
        induction hys' with
        | nil => rfl
        | @cons a b l1 l2 h t ih =>
          obtain ⟨w, e1, e2⟩ := h
          unfold encW at e1
          simp at e1
          rw [e2, ih, List.map_cons, List.map_cons, e1.2.2]
      rw [List.nil_append, ey]
      walk_at "aw"
      refine w_ints (intsOf_map _) ?_
      walk_at "aw"
      rw [decide_eq_true hs]
      exact h
theorem held_A (T : Tx K mg) {n : Nat} {f : List Int} {ws : List Wt} {q : AV → Prop} {x : Exn → Prop} (hw : InW n ws) (hn : n ≤ 1000) (lf : f.length = n) (τ : Nat → Nat) (hτ : ∀ x, f.getD x 0 ≠ 0 → ∃ w ∈ ws, w.2.1 = x ∧ f.getD w.1 0 + w.2.2 = f.getD x 0 ∧ τ w.1 < τ x) (h : q (.fz (.bl true))) :
    A_law_held T [.fz (.lst (f.map .int)), .fz (.lst (ws.map encW))] q x := by
  refine A_law_held_of T ?_
  unfold b_law_held
  walk_at "aw"
  refine comp_rel (fun d y => ∃ i, d = .int i ∧ y = .bl (decide (i = 0))) (by rw [List.length_map]; show 0 + _ ≤ _; omega) (fun d hd Q hQ => ?_) (fun ys hys => ?_)
  · obtain ⟨i, hi, rfl⟩ := List.mem_map.mp hd
    unfold wipeA wipeA
    walk_at "aw"
    exact hQ _ ⟨i, rfl, rfl⟩
  · have ey : ys = (f.map fun i => decide (i = 0)).map D.bl := by
      have hys' := paired_map hys
      clear hys hτ lf
      induction hys' with
      | nil => rfl
      | @cons a b l1 l2 h t ih =>
        obtain ⟨i, e1, e2⟩ := h
        cases e1
        rw [e2, ih]
        rfl
    rw [List.nil_append, ey]
    have atB : ∀ {b : List Bool} {j : Nat}, j < b.length → atI (b.map D.bl) (j : Int) = some (.bl (b.getD j false)) := fun {b j} hj => atI_map (by rw [List.getElem?_eq_getElem hj, List.getD, List.getElem?_eq_getElem hj]; rfl)
    walk_at "aw"
    walk_at "rg"
    rw [lf]
    refine loop_rng (fun i ρ => ∃ (b : List Bool) (v3 v4 v5 v6 : Option AV), ρ = [some (.fz (.lst (f.map .int))), some (.fz (.lst (ws.map encW))), some (.ol (b.map .bl)), v3, v4, v5, v6, none] ∧ b.length = n ∧ (∀ x, x < n → f.getD x 0 = 0 → b.getD x false = true) ∧ falses b ≤ n - i) ?_ ?_ ?_
    · refine ⟨_, _, _, _, _, rfl, by rw [List.length_map, lf], fun x hx h0 => ?_, ?_⟩
      · rw [List.getD, List.getElem?_map, List.getElem?_eq_getElem (by omega)]
        rw [List.getD, List.getElem?_eq_getElem (by omega)] at h0
        have h0' : f[x] = 0 := h0
        simp [h0']
      · have := falses_len (f.map fun i => decide (i = 0))
        rw [List.length_map] at this
        omega
    · rintro i ρ K' hi ⟨b, v3, v4, v5, v6, rfl, lb, hb, hf⟩ hK
      obtain ⟨g1, g2, g3⟩ := roundH_less hw τ hτ lb hb
      walk_at "aw"
      refine loop_map (fun m ρ => ∃ (v4 v5 v6 : Option AV), ρ = [some (.fz (.lst (f.map .int))), some (.fz (.lst (ws.map encW))), some (.ol (((ws.take m).foldl (stepH f) b).map .bl)), some (.fz (.int (0 + (i : Nat)))), v4, v5, v6, none]) ⟨_, _, _, rfl⟩ ?_ ?_
      · rintro m w ρ K2 em ⟨v4, v5, v6, rfl⟩ hK2
        obtain ⟨hwi, hwj⟩ := hw w (List.mem_of_getElem? em)
        have lz := (foldH f (ws.take m) b).1
        have e1 := foldl_take (stepH f) b em
        generalize (ws.take m).foldl (stepH f) b = z at lz e1
        unfold encW
        walk_at "aw"
        refine w_ixL (atB (by omega)) ?_
        walk_at "aw"
        cases hz : z.getD w.1 false with
        | false =>
          walk_at "aw"
          refine hK2 _ ?_
          have es : stepH f z w = z := if_neg (by rw [hz]; simp)
          rw [e1, es]
          exact ⟨_, _, _, rfl⟩
        | true =>
          walk_at "aw"
          refine w_ixL (ints_at (by omega)) ?_
          walk_at "aw"
          refine w_ixL (ints_at (by omega)) ?_
          walk_at "aw"
          refine cond_dec (fun hc => ?_) (fun hc => ?_)
          · walk_at "aw"
            refine w_ixQ (by rw [List.length_map]; exact ixN_nat (by omega)) ?_
            walk_at "aw"
            refine hK2 _ ?_
            have es : stepH f z w = z.set w.2.1 true := if_pos ⟨hz, hc⟩
            rw [e1, es]
            simp only [List.map_set]
            exact ⟨_, _, _, rfl⟩
          · walk_at "aw"
            refine hK2 _ ?_
            have es : stepH f z w = z := if_neg (fun z' => hc z'.2)
            rw [e1, es]
            exact ⟨_, _, _, rfl⟩
      · rintro ρ ⟨v4, v5, v6, rfl⟩
        rw [List.take_length]
        exact hK _ ⟨roundH f ws b, _, _, _, _, rfl, g2, g3, by omega⟩
    · rintro ρ ⟨b, v3, v4, v5, v6, rfl, lb, hb, hf⟩
      walk_at "aw"
      refine w_bls (blsOf_map b) ?_
      rw [falses_zero b (by omega)]
      exact h
theorem law_math (T : Tx K mg) : b_law T ⟨fun _ => False, fun av _ => av = .fz (.bl true), fun _ => False, fun _ => False, fun _ => False⟩ (none :: some .dr :: List.replicate 9 none) := by
  unfold b_law
  walk_at "aw"
  refine w_draw (by decide) (by decide) fun r r0 r1 => ?_
  obtain ⟨n, en⟩ : ∃ k : Nat, 1 + r = k := ⟨(1 + r).toNat, by omega⟩
  walk_at "aw"
  rw [en]
  walk_at "aw"
  refine wants_A T (n := n) (by omega) (by omega) fun ws hw hl => ?_
  have n0 : 0 < n := by omega
  have n9 : n ≤ 1000 := by omega
  walk_at "aw"
  refine least_A T hw n9 (fun hr => ?_) (fun hr => ?_)
  · obtain ⟨j, hj⟩ : ∃ j, (bf n ws).r = some j := by
      cases e : (bf n ws).r with
      | none => exact absurd e hr
      | some j => exact ⟨j, rfl⟩
    walk_at "aw"
    refine ring_A T hw n0 n9 (fun z => absurd z hr) (fun j' m hr' hm hmn hc => ?_)
    rw [hj] at hr'
    cases hr'
    obtain ⟨_, hall, _⟩ := bf_ring hw n0 hj
    obtain ⟨t, L, τ, now, hB, _⟩ := bf_end hw n0
    generalize bf n ws = s at *
    walk_at "aw"
    refine w_neD (encWs_ok ws) (encWs_ok ws) ?_
    rw [show deq (.lst (ws.map encW)) (.lst (ws.map encW)) = true from deqs_W ws]
    walk_at "aw"
    have lc : (causes s (itW s j n) m).length = m := by unfold causes; rw [List.length_map, List.length_range]
    have ha : ∀ l, s.k.getD (itW s (itW s j n) l) none ≠ none := fun l => by rw [← itW_add]; exact (hall (n + l)).1
    have cat : ∀ l, l < m → (causes s (itW s j n) m)[l]? = some (itW s (itW s j n) (l + 1), itW s (itW s j n) l, cW s (itW s (itW s j n) l)) := fun l hl => by
      unfold causes
      rw [List.getElem?_map, List.getElem?_range hl]
      rfl
    have rat : ∀ l, l < m → (causes s (itW s j n) m).reverse[l]? = some (itW s (itW s j n) (m - l), itW s (itW s j n) (m - 1 - l), cW s (itW s (itW s j n) (m - 1 - l))) := fun l hl => by
      rw [List.getElem?_reverse (by rw [lc]; exact hl), lc, cat _ (by omega), show m - 1 - l + 1 = m - l by omega]
    refine ringL_A T (fun z => ?_) ?_ (fun w hw' => ?_) (fun i w v e1 e2 => ?_) ?_ rfl
    · have : (causes s (itW s j n) m).reverse.length = 0 := by rw [z]; rfl
      rw [List.length_reverse, lc] at this
      omega
    · rw [List.length_reverse, lc]
      omega
    · rw [List.mem_reverse] at hw'
      obtain ⟨l, hl, rfl⟩ := List.mem_map.mp hw'
      obtain ⟨w, _, hm', ew⟩ := hB.src (ha l)
      rw [ew] at hm'
      exact hm'
    · have hi : i < m := by
        have := (List.getElem?_eq_some_iff.mp e1).1
        rw [List.length_reverse, lc] at this
        exact this
      rw [rat i hi] at e1
      cases e1
      unfold atI at e2
      rw [List.length_reverse, lc] at e2
      cases i with
      | zero =>
        have : ixN m (((0 : Nat) : Int) - 1) = some (m - 1) := by
          unfold ixN
          rw [if_neg (by decide), if_pos (by omega)]
          congr 1
          omega
        rw [this] at e2
        have e3 : (causes s (itW s j n) m).reverse[m - 1]? = some v := e2
        rw [rat _ (by omega)] at e3
        cases e3
        show itW s (itW s j n) (m - 0) = itW s (itW s j n) (m - 1 - (m - 1))
        rw [Nat.sub_zero, Nat.sub_self, hc]
        rfl
      | succ i =>
        rw [show (((i + 1 : Nat) : Int) - 1) = ((i : Nat) : Int) by omega, ixN_nat (by omega)] at e2
        have e3 : (causes s (itW s j n) m).reverse[i]? = some v := e2
        rw [rat _ (by omega)] at e3
        cases e3
        show itW s (itW s j n) (m - (i + 1)) = itW s (itW s j n) (m - 1 - i)
        rw [show m - (i + 1) = m - 1 - i by omega]
    · have hs : ∀ m, ((causes s (itW s j n) m).map (·.2.2)).sum = sumW s (itW s j n) m := fun m => by
        induction m with
        | zero => rfl
        | succ m ih =>
          rw [causes_succ, List.map_append, List.sum_append, ih]
          show _ + (_ + 0) = _
          rw [Int.add_zero]
          rfl
      rw [List.map_reverse, List.sum_reverse, hs]
      exact hB.ring hm (fun l _ => ha l) hc
  · walk_at "aw"
    refine ring_A T hw n0 n9 (fun _ => ?_) (fun j' m hr' _ _ _ => by rw [hr] at hr'; cases hr')
    obtain ⟨h1, h2, h3, τ, h4⟩ := bf_keeps hw n0 hr
    generalize bf n ws = s at *
    walk_at "aw"
    refine w_neD (encWs_ok ws) (encWs_ok ws) ?_
    rw [show deq (.lst (ws.map encW)) (.lst (ws.map encW)) = true from deqs_W ws]
    walk_at "aw"
    rw [List.length_map, h3, decide_eq_true rfl]
    walk_at "aw"
    refine comp_map (fun _ => .bl true) (by rw [List.length_map]; show 0 + _ ≤ _; omega) (fun d hd Q hQ => ?_) ?_
    · obtain ⟨i, hi, rfl⟩ := List.mem_map.mp hd
      obtain ⟨l, hl, e⟩ := List.getElem_of_mem hi
      have := h2 l
      rw [List.getD, List.getElem?_eq_getElem hl] at this
      have h0 : 0 ≤ i := by rw [← e]; exact this
      unfold wipeA wipeA
      walk_at "aw"
      refine whole_A T ?_
      walk_at "aw"
      rw [decide_eq_true h0]
      exact hQ
    rw [List.nil_append, List.map_map]
    walk_at "aw"
    refine w_bls (ns := s.f.map fun _ => true) (by rw [← blsOf_map, List.map_map]; rfl) ?_
    rw [all_true]
    walk_at "aw"
    refine comp_map (fun _ => .bl true) (by rw [List.length_map]; show 0 + _ ≤ _; omega) (fun d hd Q hQ => ?_) ?_
    · obtain ⟨w, hw', rfl⟩ := List.mem_map.mp hd
      obtain ⟨hwi, hwj⟩ := hw w hw'
      have := h1 w hw'
      unfold wipeA wipeA wipeA wipeA encW
      walk_at "aw"
      refine w_ixL (ints_at (by omega)) ?_
      walk_at "aw"
      refine w_ixL (ints_at (by omega)) ?_
      walk_at "aw"
      rw [decide_eq_true this]
      exact hQ
    rw [List.nil_append, List.map_map]
    walk_at "aw"
    refine w_bls (ns := ws.map fun _ => true) (by rw [← blsOf_map, List.map_map]; rfl) ?_
    rw [all_true]
    walk_at "aw"
    exact held_A T hw n9 h3 τ h4 rfl

theorem ok_law (T : Tx K mg) : FnOk P w K mg base CX0 3 T.f_law T.fd_law ["_law_script"] (spLaw K) := by
  refine T.F_law.ok sc_law (fun vs H Q E h => ?_) (fun cdv A outer s0 H vs Q E hr h => ?_)
  · obtain ⟨a, ns, rfl, _⟩ := h
    rfl
  · obtain ⟨a, ns, rfl, hS, hlen, hbits, q⟩ := h
    refine ⟨_, (pss_cons (ps_set (i := 1) sc_law.nd rfl (Or.inl rfl) (pe_call (ok_law_start T) (hr.mono (by decide)) (by rfl) T.g_law_start T.F_law_start.kp T.b_law_start .nil pass0 (pa_cons (pv 0) pa_nil)))
      (pss_cons (ps_set (i := 2) sc_law.nd rfl (Or.inl rfl) (pe_op op_add pe_int (pe_call (ok_law_draw T) (hr.mono (by decide)) (by rfl) T.g_law_draw T.F_law_draw.kp T.b_law_draw .nil pass0 (pa_cons (pv 1) (pa_cons pe_int pa_nil)))))
      (pss_cons (ps_set (i := 3) sc_law.nd rfl (Or.inl rfl) (pe_call (ok_law_wants T) (hr.mono (by decide)) (by rfl) T.g_law_wants T.F_law_wants.kp T.b_law_wants .nil pass0 (pa_cons (pv 1) (pa_cons (pv 2) pa_nil))))
      (pss_cons (ps_set (i := 4) sc_law.nd rfl (Or.inl rfl) (pe_callTy (call_listK (K := K) rfl) (by rfl) T.z_list bt_list (pa_cons (pv 3) pa_nil)))
      (pss_cons (ps_set (i := 5) sc_law.nd rfl (Or.inr rfl) (pe_call (ok_least T) (hr.mono (by decide)) (by rfl) T.g_least T.F_least.kp T.b_least .nil pass0 (pa_cons (pv 2) (pa_cons (pv 4) pa_nil))))
      (pss_cons (ps_set (i := 6) sc_law.nd rfl (Or.inl rfl) (pe_call (ok_ring T) (hr.mono (by decide)) (by rfl) T.g_ring T.F_ring.kp T.b_ring .nil pass0 (pa_cons (pv 2) (pa_cons (pv 4) pa_nil))))
      (pss_cons (ps_if (pt_cmpR (op_neDK (K := K) rfl hr.units) (pv 4) (pv 3) (nomark _))
      (pss_one (ps_ret pe_bl))
      pss_nil)
      (pss_cons (ps_if (pt_cmpR op_isN (pv 5) pe_non (nomark _))
      (pss_one (ps_ret (pe_call (ok_law_ring T) (hr.mono (by decide)) (by rfl) T.g_law_ring T.F_law_ring.kp T.b_law_ring .nil pass0 (pa_cons (pv 6) (pa_cons (pv 3) pa_nil)))))
      pss_nil)
      (pss_cons (ps_if ((pw_or (pt_cmpR op_notN (pv 6) pe_non (nomark _)) (pw_or (pt_not (pt_val (pe_callB (call_isiKK (K := K) rfl) (by rfl) T.z_isinstance bt_isinstance (pa_cons (pv 5) (pa_cons (pe_bltn (v := .ty "list") (by rfl) T.z_list bt_list rfl) pa_nil))))) (pw_or1 (pt_cmpR op_ne (pe_callB (call_lenK (K := K) rfl) (by rfl) T.z_len bt_len (pa_cons (pv 5) pa_nil)) (pv 2) (nomark _)))))).pt
      (pss_one (ps_ret pe_bl))
      pss_nil)
      (pss_cons (ps_if (pt_not (pt_val (pe_callB (cr_allK (K := K) rfl (by rfl)) (by rfl) T.z_all bt_all (pa_cons (pe_lc (own := [("_law_x", 7)]) (by rfl) sc_law.nd (pi_listK (K := K) rfl (pv 5)) (blkOk_by (own := [("_law_x", 7)]) (N := ["_law_script", "_law_s", "_law_count", "_law_wants_here", "_law_handed", "_law_found", "_law_broken", "_law_x", "_law_i", "_law_j", "_law_c"]) (sc := defScope s_law) (by decide +kernel)) (fun _ _ _ _ _ => (pg_name (i := 7) sc_law.nd rfl (Or.inl rfl))) (fun _ _ _ _ _ => pts_nil) (fun _ _ _ _ _ => (pe_and (pe_call (ok_law_whole T) (hr.mono (by decide)) (by rfl) T.g_law_whole T.F_law_whole.kp T.b_law_whole .nil pass0 (pa_cons (pv 7) pa_nil)) (pe_one (pe_cmpR op_ge (pv 7) pe_int (nomark _)))))) pa_nil))))
      (pss_one (ps_ret pe_bl))
      pss_nil)
      (pss_cons (ps_if (pt_not (pt_val (pe_callB (cr_allK (K := K) rfl (by rfl)) (by rfl) T.z_all bt_all (pa_cons (pe_lc (own := [("_law_i", 8), ("_law_j", 9), ("_law_c", 10)]) (by rfl) sc_law.nd (pi_listK (K := K) rfl (pv 3)) (blkOk_by (own := [("_law_i", 8), ("_law_j", 9), ("_law_c", 10)]) (N := ["_law_script", "_law_s", "_law_count", "_law_wants_here", "_law_handed", "_law_found", "_law_broken", "_law_x", "_law_i", "_law_j", "_law_c"]) (sc := defScope s_law) (by decide +kernel)) (fun _ _ _ _ _ => (pg_tupK (K := K) (n := 3) rfl (by rfl) (pgs_cons (pg_name (i := 8) sc_law.nd rfl (Or.inl rfl)) (pgs_cons (pg_name (i := 9) sc_law.nd rfl (Or.inl rfl)) (pgs_cons (pg_name (i := 10) sc_law.nd rfl (Or.inl rfl)) pgs_nil))))) (fun _ _ _ _ _ => pts_nil) (fun _ _ _ _ _ => (pe_cmpR op_ge (pe_ix (ix_listK (K := K) rfl) (pv 5) (pv 9) (fun _ _ => rfl)) (pe_op op_add (pe_ix (ix_listK (K := K) rfl) (pv 5) (pv 8) (fun _ _ => rfl)) (pv 10)) (nomark _)))) pa_nil))))
      (pss_one (ps_ret pe_bl))
      pss_nil)
      (pss_one (ps_ret (pe_call (ok_law_held T) (hr.mono (by decide)) (by rfl) T.g_law_held T.F_law_held.kp T.b_law_held .nil pass0 (pa_cons (pv 5) (pa_cons (pv 3) pa_nil)))))))))))))))), ?_⟩
    refine i_seq (i_set (i_call (i_cons (i_var rfl (i_nil ?_)))))
    refine ⟨a, ns, H, rfl, hS, Same.refl H, fun s U H1 g D n0 => ?_⟩
    refine law_run (K := K) (nl := 9) (x := a) g D n0 q (fun U0 H0 X E => ?_) (law_math T)
    unfold b_law
    walk_at "sim"
end
theorem all_mk {l : PySem.W.OpenLaw} {w : World} {K : PySem.W.Frag} {h : Heap} {mg : Str → Option Value} {fa : Addr} (X : K.In h) (G : h.Ns mainGlobals mg) (hfa : mg "law" = some (.ref fa))
    {f0 : Addr} {od0 an0 : Option Addr} {sl0 : Array (Option Value)} {oc0 kV0 dc0 pm0 cd0 ct0 : Value}
    {f1 : Addr} {od1 an1 : Option Addr} {sl1 : Array (Option Value)} {oc1 kV1 dc1 pm1 cd1 ct1 : Value}
    {f2 : Addr} {od2 an2 : Option Addr} {sl2 : Array (Option Value)} {oc2 kV2 dc2 pm2 cd2 ct2 : Value}
    {f3 : Addr} {od3 an3 : Option Addr} {sl3 : Array (Option Value)} {oc3 kV3 dc3 pm3 cd3 ct3 : Value}
    {f4 : Addr} {od4 an4 : Option Addr} {sl4 : Array (Option Value)} {oc4 kV4 dc4 pm4 cd4 ct4 : Value}
    {f5 : Addr} {od5 an5 : Option Addr} {sl5 : Array (Option Value)} {oc5 kV5 dc5 pm5 cd5 ct5 : Value}
    {f6 : Addr} {od6 an6 : Option Addr} {sl6 : Array (Option Value)} {oc6 kV6 dc6 pm6 cd6 ct6 : Value}
    {f7 : Addr} {od7 an7 : Option Addr} {sl7 : Array (Option Value)} {oc7 kV7 dc7 pm7 cd7 ct7 : Value}
    {f8 : Addr} {od8 an8 : Option Addr} {sl8 : Array (Option Value)} {oc8 kV8 dc8 pm8 cd8 ct8 : Value}
    {f9 : Addr} {od9 an9 : Option Addr} {sl9 : Array (Option Value)} {oc9 kV9 dc9 pm9 cd9 ct9 : Value}
    (a0 : PySem.W.nsIn K mainGlobals "rounds" = some (some (.ref f0))) (l0 : K.lookup f0 = some ⟨oc0, od0, .func (PySem.W.fnOf "rounds" "rounds" (defArgs s_rounds) (defBody s_rounds) (defScope s_rounds) .none kV0 dc0 pm0 an0 cd0 ct0), sl0⟩) (c0 : PySem.W.codeIn K cd0 "rounds" = true) (k0 : PySem.W.keepIn K (.ref f0) = true)
    (a1 : PySem.W.nsIn K mainGlobals "least" = some (some (.ref f1))) (l1 : K.lookup f1 = some ⟨oc1, od1, .func (PySem.W.fnOf "least" "least" (defArgs s_least) (defBody s_least) (defScope s_least) .none kV1 dc1 pm1 an1 cd1 ct1), sl1⟩) (c1 : PySem.W.codeIn K cd1 "least" = true) (k1 : PySem.W.keepIn K (.ref f1) = true)
    (a2 : PySem.W.nsIn K mainGlobals "ring" = some (some (.ref f2))) (l2 : K.lookup f2 = some ⟨oc2, od2, .func (PySem.W.fnOf "ring" "ring" (defArgs s_ring) (defBody s_ring) (defScope s_ring) .none kV2 dc2 pm2 an2 cd2 ct2), sl2⟩) (c2 : PySem.W.codeIn K cd2 "ring" = true) (k2 : PySem.W.keepIn K (.ref f2) = true)
    (a3 : PySem.W.nsIn K mainGlobals "_law_start" = some (some (.ref f3))) (l3 : K.lookup f3 = some ⟨oc3, od3, .func (PySem.W.fnOf "_law_start" "_law_start" (defArgs s_law_start) (defBody s_law_start) (defScope s_law_start) .none kV3 dc3 pm3 an3 cd3 ct3), sl3⟩) (c3 : PySem.W.codeIn K cd3 "_law_start" = true) (k3 : PySem.W.keepIn K (.ref f3) = true)
    (a4 : PySem.W.nsIn K mainGlobals "_law_draw" = some (some (.ref f4))) (l4 : K.lookup f4 = some ⟨oc4, od4, .func (PySem.W.fnOf "_law_draw" "_law_draw" (defArgs s_law_draw) (defBody s_law_draw) (defScope s_law_draw) .none kV4 dc4 pm4 an4 cd4 ct4), sl4⟩) (c4 : PySem.W.codeIn K cd4 "_law_draw" = true) (k4 : PySem.W.keepIn K (.ref f4) = true)
    (a5 : PySem.W.nsIn K mainGlobals "_law_whole" = some (some (.ref f5))) (l5 : K.lookup f5 = some ⟨oc5, od5, .func (PySem.W.fnOf "_law_whole" "_law_whole" (defArgs s_law_whole) (defBody s_law_whole) (defScope s_law_whole) .none kV5 dc5 pm5 an5 cd5 ct5), sl5⟩) (c5 : PySem.W.codeIn K cd5 "_law_whole" = true) (k5 : PySem.W.keepIn K (.ref f5) = true)
    (a6 : PySem.W.nsIn K mainGlobals "_law_wants" = some (some (.ref f6))) (l6 : K.lookup f6 = some ⟨oc6, od6, .func (PySem.W.fnOf "_law_wants" "_law_wants" (defArgs s_law_wants) (defBody s_law_wants) (defScope s_law_wants) .none kV6 dc6 pm6 an6 cd6 ct6), sl6⟩) (c6 : PySem.W.codeIn K cd6 "_law_wants" = true) (k6 : PySem.W.keepIn K (.ref f6) = true)
    (a7 : PySem.W.nsIn K mainGlobals "_law_ring" = some (some (.ref f7))) (l7 : K.lookup f7 = some ⟨oc7, od7, .func (PySem.W.fnOf "_law_ring" "_law_ring" (defArgs s_law_ring) (defBody s_law_ring) (defScope s_law_ring) .none kV7 dc7 pm7 an7 cd7 ct7), sl7⟩) (c7 : PySem.W.codeIn K cd7 "_law_ring" = true) (k7 : PySem.W.keepIn K (.ref f7) = true)
    (a8 : PySem.W.nsIn K mainGlobals "_law_held" = some (some (.ref f8))) (l8 : K.lookup f8 = some ⟨oc8, od8, .func (PySem.W.fnOf "_law_held" "_law_held" (defArgs s_law_held) (defBody s_law_held) (defScope s_law_held) .none kV8 dc8 pm8 an8 cd8 ct8), sl8⟩) (c8 : PySem.W.codeIn K cd8 "_law_held" = true) (k8 : PySem.W.keepIn K (.ref f8) = true)
    (a9 : PySem.W.nsIn K mainGlobals "law" = some (some (.ref f9))) (l9 : K.lookup f9 = some ⟨oc9, od9, .func (PySem.W.fnOf "law" "law" (defArgs s_law) (defBody s_law) (defScope s_law) .none kV9 dc9 pm9 an9 cd9 ct9), sl9⟩) (c9 : PySem.W.codeIn K cd9 "law" = true) (k9 : PySem.W.keepIn K (.ref f9) = true)
    (z_abs : PySem.W.nsIn K mainGlobals "abs" = some none)
    (z_all : PySem.W.nsIn K mainGlobals "all" = some none)
    (z_bool : PySem.W.nsIn K mainGlobals "bool" = some none)
    (z_int : PySem.W.nsIn K mainGlobals "int" = some none)
    (z_isinstance : PySem.W.nsIn K mainGlobals "isinstance" = some none)
    (z_len : PySem.W.nsIn K mainGlobals "len" = some none)
    (z_list : PySem.W.nsIn K mainGlobals "list" = some none)
    (z_range : PySem.W.nsIn K mainGlobals "range" = some none)
    (z_sum : PySem.W.nsIn K mainGlobals "sum" = some none)
    (z_tuple : PySem.W.nsIn K mainGlobals "tuple" = some none) :
    ∃ fd : FuncData, (∀ (s : Shared) (v : Value), BindsTo s fd ⟨[v], []⟩ [("_law_script", v)]) ∧ ∀ base : Heap, K.In base → base.Ns mainGlobals mg → FnOk l.prog w K mg base CX0 3 fa fd ["_law_script"] (spLaw K) := by
  have e := hfa.symm.trans (PySem.W.mg_of X G a9)
  cases e
  have F0 := fun_mk (st := s_rounds) l0 c0 k0
  have b0 := F0.binds (ps := ["count", "wants"]) fun _ _ _ _ _ _ us hl => match us, hl with | [_, _], _ => rfl
  have F1 := fun_mk (st := s_least) l1 c1 k1
  have b1 := F1.binds (ps := ["count", "wants"]) fun _ _ _ _ _ _ us hl => match us, hl with | [_, _], _ => rfl
  have F2 := fun_mk (st := s_ring) l2 c2 k2
  have b2 := F2.binds (ps := ["count", "wants"]) fun _ _ _ _ _ _ us hl => match us, hl with | [_, _], _ => rfl
  have F3 := fun_mk (st := s_law_start) l3 c3 k3
  have b3 := F3.binds (ps := ["_law_script"]) fun _ _ _ _ _ _ us hl => match us, hl with | [_], _ => rfl
  have F4 := fun_mk (st := s_law_draw) l4 c4 k4
  have b4 := F4.binds (ps := ["_law_s", "_law_many"]) fun _ _ _ _ _ _ us hl => match us, hl with | [_, _], _ => rfl
  have F5 := fun_mk (st := s_law_whole) l5 c5 k5
  have b5 := F5.binds (ps := ["_law_x"]) fun _ _ _ _ _ _ us hl => match us, hl with | [_], _ => rfl
  have F6 := fun_mk (st := s_law_wants) l6 c6 k6
  have b6 := F6.binds (ps := ["_law_s", "_law_count"]) fun _ _ _ _ _ _ us hl => match us, hl with | [_, _], _ => rfl
  have F7 := fun_mk (st := s_law_ring) l7 c7 k7
  have b7 := F7.binds (ps := ["_law_found", "_law_wants_here"]) fun _ _ _ _ _ _ us hl => match us, hl with | [_, _], _ => rfl
  have F8 := fun_mk (st := s_law_held) l8 c8 k8
  have b8 := F8.binds (ps := ["_law_found", "_law_wants_here"]) fun _ _ _ _ _ _ us hl => match us, hl with | [_, _], _ => rfl
  have F9 := fun_mk (st := s_law) l9 c9 k9
  have b9 := F9.binds (ps := ["_law_script"]) fun _ _ _ _ _ _ us hl => match us, hl with | [_], _ => rfl
  refine ⟨PySem.W.fnOf "law" "law" (defArgs s_law) (defBody s_law) (defScope s_law) .none kV9 dc9 pm9 an9 cd9 ct9, fun s v => .of_eq rfl, fun base _ _ => ?_⟩
  exact ok_law (T := ({ f_rounds := f0, fd_rounds := _, F_rounds := F0, b_rounds := b0, g_rounds := PySem.W.mg_of X G a0, f_least := f1, fd_least := _, F_least := F1, b_least := b1, g_least := PySem.W.mg_of X G a1, f_ring := f2, fd_ring := _, F_ring := F2, b_ring := b2, g_ring := PySem.W.mg_of X G a2, f_law_start := f3, fd_law_start := _, F_law_start := F3, b_law_start := b3, g_law_start := PySem.W.mg_of X G a3, f_law_draw := f4, fd_law_draw := _, F_law_draw := F4, b_law_draw := b4, g_law_draw := PySem.W.mg_of X G a4, f_law_whole := f5, fd_law_whole := _, F_law_whole := F5, b_law_whole := b5, g_law_whole := PySem.W.mg_of X G a5, f_law_wants := f6, fd_law_wants := _, F_law_wants := F6, b_law_wants := b6, g_law_wants := PySem.W.mg_of X G a6, f_law_ring := f7, fd_law_ring := _, F_law_ring := F7, b_law_ring := b7, g_law_ring := PySem.W.mg_of X G a7, f_law_held := f8, fd_law_held := _, F_law_held := F8, b_law_held := b8, g_law_held := PySem.W.mg_of X G a8, f_law := fa, fd_law := _, F_law := F9, b_law := b9, g_law := PySem.W.mg_of X G a9, z_abs := PySem.W.mg_none_of X G z_abs, z_all := PySem.W.mg_none_of X G z_all, z_bool := PySem.W.mg_none_of X G z_bool, z_int := PySem.W.mg_none_of X G z_int, z_isinstance := PySem.W.mg_none_of X G z_isinstance, z_len := PySem.W.mg_none_of X G z_len, z_list := PySem.W.mg_none_of X G z_list, z_range := PySem.W.mg_none_of X G z_range, z_sum := PySem.W.mg_none_of X G z_sum, z_tuple := PySem.W.mg_none_of X G z_tuple } : Tx K mg))

end SW
open PySem PySem.W PyProof.Rows
set_option maxRecDepth 100000 in
set_option maxHeartbeats 0 in
theorem PySem.Challenge.cw_slotwright_k20_least_or_ring_holds : PySem.Challenge.rw_slotwright_k20_least_or_ring.Holds := by
  w_on; o_law; k_head; (case hw => w_witness2)
  k_fill
  refine L2.walk_ofB (l := PySem.Challenge.rw_slotwright_k20_least_or_ring) (n := 63) (k := 3) (x := "_law_script") (CX := fun _ => L2.CX0) (sp := fun w => SW.spLaw _) rfl (by decide) rfl ⟨rfl, by decide, by decide⟩ (fun w h Y => PySem.W.kIn_of Y) ?F (fun _ _ a ns hl hb _ hS => ⟨a, ns, rfl, hS, hl, hb, fun _ => rfl⟩) (fun _ _ _ _ _ h => h)
  case F =>
    intro w mg fa h KX G hmg
    refine' SW.all_mk KX G hmg ?a0 ?l0 ?c0 ?k0 ?a1 ?l1 ?c1 ?k1 ?a2 ?l2 ?c2 ?k2 ?a3 ?l3 ?c3 ?k3 ?a4 ?l4 ?c4 ?k4 ?a5 ?l5 ?c5 ?k5 ?a6 ?l6 ?c6 ?k6 ?a7 ?l7 ?c7 ?k7 ?a8 ?l8 ?c8 ?k8 ?a9 ?l9 ?c9 ?k9 ?z_abs ?z_all ?z_bool ?z_int ?z_isinstance ?z_len ?z_list ?z_range ?z_sum ?z_tuple
    (case a0 => k_is)
    (case l0 => k_is)
    (case c0 => k_is)
    (case k0 => k_is)
    (case a1 => k_is)
    (case l1 => k_is)
    (case c1 => k_is)
    (case k1 => k_is)
    (case a2 => k_is)
    (case l2 => k_is)
    (case c2 => k_is)
    (case k2 => k_is)
    (case a3 => k_is)
    (case l3 => k_is)
    (case c3 => k_is)
    (case k3 => k_is)
    (case a4 => k_is)
    (case l4 => k_is)
    (case c4 => k_is)
    (case k4 => k_is)
    (case a5 => k_is)
    (case l5 => k_is)
    (case c5 => k_is)
    (case k5 => k_is)
    (case a6 => k_is)
    (case l6 => k_is)
    (case c6 => k_is)
    (case k6 => k_is)
    (case a7 => k_is)
    (case l7 => k_is)
    (case c7 => k_is)
    (case k7 => k_is)
    (case a8 => k_is)
    (case l8 => k_is)
    (case c8 => k_is)
    (case k8 => k_is)
    (case a9 => k_is)
    (case l9 => k_is)
    (case c9 => k_is)
    (case k9 => k_is)
    (case z_abs => k_is)
    (case z_all => k_is)
    (case z_bool => k_is)
    (case z_int => k_is)
    (case z_isinstance => k_is)
    (case z_len => k_is)
    (case z_list => k_is)
    (case z_range => k_is)
    (case z_sum => k_is)
    (case z_tuple => k_is)
#print axioms PySem.Challenge.cw_slotwright_k20_least_or_ring_holds

