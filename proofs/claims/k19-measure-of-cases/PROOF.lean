import PyProof.Rows.All
import Wide.All
import OpenK.AllK
import Wide.FinOn
import HandS.ForMost
import HandS.Wide
import HandS.IsInst
import HandS.EndBits
import HandS.Flow
import PySem.Challenge.RW_slotwright_k19_measure_of_cases
set_option Elab.async false
set_option linter.all false
set_option maxRecDepth 100000
set_option maxHeartbeats 4000000

namespace SW
open PySem L2
/-! ### heaps by a view: U is what never changes, H is all -/
theorem same_new {U : Hp} {p : Addr} {o : HO} (h : U p = none) : Same U (upd U p o) := fun b x e => by
  rw [upd_ne (ne_of_none e h)]
  exact e
theorem same_mut {U H : Hp} {p : Addr} {o : HO} (e : Same U H) (h : U p = none) : Same U (upd H p o) := fun a u ha => by
  rw [upd_ne (ne_of_none ha h)]
  exact e a u ha
theorem same_back {U H : Hp} {p : Addr} (e : Same U H) (h : H p = none) : U p = none := e.free h
theorem upd_get {H : Hp} {p a : Addr} {o x : HO} (n : H p = none) (h : H a = some x) : upd H p o a = some x := by
  rw [upd_ne (ne_of_none h n)]
  exact h
structure Gr (M : List Addr) (U H U' H' : Hp) : Prop where
  vv : Same U U'
  vh : Same U' H'
  hh : ∀ a o, a ∉ M → H a = some o → H' a = some o
  dom : ∀ a, H a ≠ none → H' a ≠ none
  fr : ∀ a, U a = none → H a ≠ none → U' a = none
theorem Gr.refl {M : List Addr} {U H : Hp} (e : Same U H) : Gr M U H U H := ⟨Same.refl _, e, fun _ _ _ h => h, fun _ h => h, fun _ h _ => h⟩
theorem Gr.trans {M : List Addr} {U0 H0 U1 H1 U2 H2 : Hp} (a : Gr M U0 H0 U1 H1) (b : Gr M U1 H1 U2 H2) : Gr M U0 H0 U2 H2 :=
  ⟨a.vv.trans b.vv, b.vh, fun x o m h => b.hh x o m (a.hh x o m h), fun x h => b.dom x (a.dom x h), fun x h k => b.fr x (a.fr x h k) (a.dom x k)⟩
theorem Gr.weak {M N : List Addr} {U0 H0 U1 H1 : Hp} (a : Gr M U0 H0 U1 H1) (s : ∀ x, x ∈ M → x ∈ N) : Gr N U0 H0 U1 H1 :=
  ⟨a.vv, a.vh, fun x o m h => a.hh x o (fun z => m (s x z)) h, a.dom, a.fr⟩
theorem Gr.any {N : List Addr} {U0 H0 U1 H1 : Hp} (a : Gr [] U0 H0 U1 H1) : Gr N U0 H0 U1 H1 := a.weak fun _ h => nomatch h
/-- a new object that never changes -/
theorem Gr.new {M : List Addr} {U0 H0 U H : Hp} {p : Addr} {o : HO} (g : Gr M U0 H0 U H) (n : H p = none) : Gr M U0 H0 (upd U p o) (upd H p o) := by
  have nu : U p = none := g.vh.free n
  have n0 : H0 p = none := by
    cases e : H0 p with
    | none => rfl
    | some x => exact absurd n (g.dom p (by rw [e]; intro z; cases z))
  refine ⟨g.vv.trans (same_new nu), fun a x h => ?_, fun a x m h => ?_, fun a h => ?_, fun a h k => ?_⟩
  · by_cases e : a = p
    · subst e
      rw [upd_same] at h ⊢
      exact h
    · rw [upd_ne e] at h ⊢
      exact g.vh a x h
  · rw [upd_ne (ne_of_none h n0)]
    exact g.hh a x m h
  · by_cases e : a = p
    · subst e
      rw [upd_same]
      intro z
      cases z
    · rw [upd_ne e]
      exact g.dom a h
  · have e : a ≠ p := fun z => by
      subst z
      exact k n0
    rw [upd_ne e]
    exact g.fr a h k
/-- a new object that will change -/
theorem Gr.newM {M : List Addr} {U0 H0 U H : Hp} {p : Addr} {o : HO} (g : Gr M U0 H0 U H) (n : H p = none) : Gr M U0 H0 U (upd H p o) := by
  have nu : U p = none := g.vh.free n
  refine ⟨g.vv, same_mut g.vh nu, fun a x m h => ?_, fun a h => ?_, g.fr⟩
  · rw [upd_ne (ne_of_none (g.hh a x m h) n)]
    exact g.hh a x m h
  · by_cases e : a = p
    · subst e
      rw [upd_same]
      intro z
      cases z
    · rw [upd_ne e]
      exact g.dom a h
/-- an object outside of the view changes: one of M, or one that is newer than H0 -/
theorem Gr.mut {M : List Addr} {U0 H0 U H : Hp} {p : Addr} {o : HO} (g : Gr M U0 H0 U H) (nu : U p = none) (n0 : p ∈ M ∨ H0 p = none) : Gr M U0 H0 U (upd H p o) := by
  refine ⟨g.vv, same_mut g.vh nu, fun a x m h => ?_, fun a h => ?_, g.fr⟩
  · have e : a ≠ p := fun z => by
      subst z
      rcases n0 with n0 | n0
      · exact m n0
      · rw [n0] at h
        cases h
    rw [upd_ne e]
    exact g.hh a x m h
  · by_cases e : a = p
    · subst e
      rw [upd_same]
      intro z
      cases z
    · rw [upd_ne e]
      exact g.dom a h
/-- what will change no more comes into the view -/
theorem Gr.seal {M : List Addr} {U0 H0 U H : Hp} {p : Addr} {o : HO} (g : Gr M U0 H0 U H) (h : H p = some o) (nu : U p = none) (n0 : H0 p = none) : Gr M U0 H0 (upd U p o) H := by
  refine ⟨g.vv.trans (same_new nu), fun a x e => ?_, g.hh, g.dom, fun a e k => ?_⟩
  · by_cases z : a = p
    · subst z
      rw [upd_same] at e
      rw [h]
      exact e
    · rw [upd_ne z] at e
      exact g.vh a x e
  · have z : a ≠ p := fun z => by
      subst z
      exact k n0
    rw [upd_ne z]
    exact g.fr a e k
theorem Gr.fresh {M : List Addr} {U0 H0 U H : Hp} {p : Addr} (g : Gr M U0 H0 U H) (n : H p = none) : H0 p = none := by
  cases e : H0 p with
  | none => rfl
  | some x => exact absurd n (g.dom p (by rw [e]; intro z; cases z))
/-! ### the readings, step by step -/
section
variable {σ : L2.St} {H : Hp} {Q : VK} {te ta tb tc : TE} {i : Nat} {v x y : V} {K : PySem.W.Frag} {n bk ct : L2.St → Hp → Prop} {rt : VK} {t u : TS} {g : TG}
theorem i_var (h : σ[i]? = some (some v)) (q : Q v H) : tVar i σ H Q := ⟨v, h, q⟩
theorem i_c (q : Q v H) : tC v σ H Q := q
theorem i_op {r : R2} (q : ta σ H (fun x H1 => tb σ H1 fun y H2 => r x y H2 Q)) : tOp r ta tb σ H Q := q
theorem i_un {r : V → Hp → VK → Prop} (q : ta σ H (fun x H1 => r x H1 Q)) : tUn r ta σ H Q := q
theorem i_rI0 {f : Int → Int → V} {a b : Int} (q : Q (f a b) H) : rI0 f (.int a) (.int b) H Q := ⟨a, b, rfl, rfl, q⟩
theorem i_rI {C : Int → Int → Prop} {f : Int → Int → V} {a b : Int} (c : C a b) (q : Q (f a b) H) : rI C f (.int a) (.int b) H Q := ⟨a, b, rfl, rfl, c, q⟩
theorem i_mulR {f : Int → Int → V} {a b : Int} (h0 : -(2 ^ 64) < b) (h1 : b < 2 ^ 64) (q : Q (f a b) H) : rI CMul f (.int a) (.int b) H Q := ⟨a, b, rfl, rfl, .inr ⟨h0, h1⟩, q⟩
theorem i_mulL {f : Int → Int → V} {a b : Int} (h0 : -(2 ^ 64) < a) (h1 : a < 2 ^ 64) (q : Q (f a b) H) : rI CMul f (.int a) (.int b) H Q := ⟨a, b, rfl, rfl, .inl ⟨h0, h1⟩, q⟩
theorem i_rU {f : Int → V} {a : Int} (q : Q (f a) H) : rU f (.int a) H Q := ⟨a, rfl, q⟩
theorem i_eqI {a b : Int} (q : Q (.bl (decide (a = b))) H) : rEq (.int a) (.int b) H Q := ⟨rfl, by
  have e : decide (V.int a = V.int b) = decide (a = b) := by
    by_cases h : a = b
    · rw [decide_eq_true h, decide_eq_true (congrArg V.int h)]
    · rw [decide_eq_false h, decide_eq_false (fun z => h (V.int.inj z))]
  show Q (.bl (decide (V.int a = V.int b))) H
  rw [e]
  exact q⟩
theorem i_neI {a b : Int} (q : Q (.bl (!decide (a = b))) H) : rNe (.int a) (.int b) H Q := ⟨rfl, by
  have e : decide (V.int a = V.int b) = decide (a = b) := by
    by_cases h : a = b
    · rw [decide_eq_true h, decide_eq_true (congrArg V.int h)]
    · rw [decide_eq_false h, decide_eq_false (fun z => h (V.int.inj z))]
  show Q (.bl (!decide (V.int a = V.int b))) H
  rw [e]
  exact q⟩
theorem i_eqS {a b : Str} (q : Q (.bl (decide (a = b))) H) : rEq (.str a) (.str b) H Q := ⟨rfl, by
  have e : decide (V.str a = V.str b) = decide (a = b) := by
    by_cases h : a = b
    · rw [decide_eq_true h, decide_eq_true (congrArg V.str h)]
    · rw [decide_eq_false h, decide_eq_false (fun z => h (V.str.inj z))]
  show Q (.bl (decide (V.str a = V.str b))) H
  rw [e]
  exact q⟩
theorem i_neS {a b : Str} (q : Q (.bl (!decide (a = b))) H) : rNe (.str a) (.str b) H Q := ⟨rfl, by
  have e : decide (V.str a = V.str b) = decide (a = b) := by
    by_cases h : a = b
    · rw [decide_eq_true h, decide_eq_true (congrArg V.str h)]
    · rw [decide_eq_false h, decide_eq_false (fun z => h (V.str.inj z))]
  show Q (.bl (!decide (V.str a = V.str b))) H
  rw [e]
  exact q⟩
theorem i_nil {R : List V → Hp → Prop} (q : R [] H) : tNil σ H R := q
theorem i_cons {R : List V → Hp → Prop} {tr : TA} (q : ta σ H (fun x H1 => tr σ H1 fun xs H2 => R (x :: xs) H2)) : tCons ta tr σ H R := q
theorem i_cb {r : List V → Hp → VK → Prop} {tr : TA} (q : tr σ H (fun vs H1 => r vs H1 Q)) : tCB r tr σ H Q := q
theorem i_call {sp : Sp} {dvs : List V} {E : XK} {tr : TA} (q : tr σ H (fun vs H1 => sp (vs ++ dvs) H1 Q E)) : tCall sp dvs E tr σ H Q := q
theorem i_seq (q : t ⟨u ⟨n, rt, bk, ct⟩, rt, bk, ct⟩ σ H) : tSeq t u ⟨n, rt, bk, ct⟩ σ H := q
theorem i_next (q : n σ H) : tNext ⟨n, rt, bk, ct⟩ σ H := q
theorem i_brk (q : bk σ H) : tBreak ⟨n, rt, bk, ct⟩ σ H := q
theorem i_cont (q : ct σ H) : tCont ⟨n, rt, bk, ct⟩ σ H := q
theorem i_set (q : te σ H (fun x H1 => n (σ.set i (some x)) H1)) : tAsg te (gName i) ⟨n, rt, bk, ct⟩ σ H := q
theorem i_asg (q : te σ H (fun x H1 => g x σ H1 n)) : tAsg te g ⟨n, rt, bk, ct⟩ σ H := q
theorem i_drop (q : te σ H (fun _ H1 => n σ H1)) : tDrop te ⟨n, rt, bk, ct⟩ σ H := q
theorem i_ret (q : te σ H rt) : tRet te ⟨n, rt, bk, ct⟩ σ H := q
theorem i_retN (q : rt .non H) : tRetN ⟨n, rt, bk, ct⟩ σ H := q
theorem i_if {c : TT} (q : c σ H (fun b H1 => if b = true then t ⟨n, rt, bk, ct⟩ σ H1 else u ⟨n, rt, bk, ct⟩ σ H1)) : tIfS c t u ⟨n, rt, bk, ct⟩ σ H := q
theorem i_test {R : Bool → Hp → Prop} (q : te σ H (fun x H1 => ∃ k, x = .bl k ∧ R k H1)) : tTest te σ H R := q
theorem i_B {R : Bool → Hp → Prop} (q : te σ H (fun x H1 => ∃ k, x = .bl k ∧ R k H1)) : tB te σ H R := q
theorem i_bl {b : Bool} {R : Bool → Hp → Prop} (q : R b H) : ∃ k, V.bl b = .bl k ∧ R k H := ⟨b, rfl, q⟩
theorem i_not {c : TT} {R : Bool → Hp → Prop} (q : c σ H (fun b H1 => R (!b) H1)) : tNot c σ H R := q
theorem i_and {c d : TT} {R : Bool → Hp → Prop} (q : c σ H (fun b H1 => if b = true then d σ H1 R else R false H1)) : tAnd c d σ H R := q
theorem i_or {c d : TT} {R : Bool → Hp → Prop} (q : c σ H (fun b H1 => if b = true then R true H1 else d σ H1 R)) : tOr c d σ H R := q
theorem i_andV (q : ta σ H (fun x H1 => ∃ c, x = .bl c ∧ if c = true then tb σ H1 Q else Q (.bl false) H1)) : tAndV ta tb σ H Q := q
theorem i_orV (q : ta σ H (fun x H1 => ∃ c, x = .bl c ∧ if c = true then Q (.bl true) H1 else tb σ H1 Q)) : tOrV ta tb σ H Q := q
theorem i_notV (q : ta σ H (fun x H1 => ∃ c, x = .bl c ∧ Q (.bl (!c)) H1)) : tNotV ta σ H Q := q
theorem i_blV {b : Bool} {R : Bool → Prop} (q : R b) : ∃ k, V.bl b = .bl k ∧ R k := ⟨b, rfl, q⟩
theorem i_ifE {c : TT} (q : c σ H (fun b H1 => if b = true then ta σ H1 Q else tb σ H1 Q)) : tIf c ta tb σ H Q := q
theorem i_chain {r r' : R2} (q : ta σ H fun x H1 => tb σ H1 fun y H2 => r x y H2 fun z H3 => ∃ k, z = .bl k ∧ (if k = true then tc σ H3 fun w' H4 => r' y w' H4 Q else Q (.bl false) H3)) : tChain r r' ta tb tc σ H Q := q
theorem i_itT {A B : Prop} (q : A) : if true = true then A else B := by rw [if_pos rfl]; exact q
theorem i_itF {A B : Prop} (q : B) : if false = true then A else B := by rw [if_neg Bool.false_ne_true]; exact q
theorem i_ite {p : Prop} [Decidable p] {A B : Prop} (h1 : p → A) (h2 : ¬ p → B) : if decide p = true then A else B := by
  by_cases h : p
  · rw [decide_eq_true h, if_pos rfl]; exact h1 h
  · rw [decide_eq_false h, if_neg Bool.false_ne_true]; exact h2 h
theorem i_iteN {p : Prop} [Decidable p] {A B : Prop} (h1 : ¬ p → A) (h2 : p → B) : if (!decide p) = true then A else B := by
  by_cases h : p
  · rw [decide_eq_true h]; exact i_itF (h2 h)
  · rw [decide_eq_false h]; exact i_itT (h1 h)
theorem i_iteNT {A B : Prop} (q : B) : if (!true) = true then A else B := i_itF q
theorem i_iteNF {A B : Prop} (q : A) : if (!false) = true then A else B := i_itT q
theorem i_iteNN {b : Bool} {A B : Prop} (q : if b = true then A else B) : if (!!b) = true then A else B := by rw [Bool.not_not]; exact q
theorem i_ixL {p : Addr} {xs : List V} {k : Int} (h : H p = some (.lst xs)) (ha : atI xs k = some v) (q : Q v H) : rIxL K (.ref p) (.int k) H Q := ⟨p, xs, k, v, rfl, rfl, SqL.of h, ha, q⟩
theorem i_ixT {p : Addr} {xs : List V} {k : Int} (h : H p = some (.tup xs)) (ha : atI xs k = some v) (q : Q v H) : rIxT K (.ref p) (.int k) H Q := ⟨p, xs, k, v, rfl, rfl, SqT.of h, ha, q⟩
theorem i_sub {to ti : TE} {s : TSet} {R : L2.St → Hp → Prop} (q : to σ H fun o H1 => ti σ H1 fun j H2 => s o j v H2 fun H3 => R σ H3) : gSub to ti s v σ H R := q
theorem i_setL {p : Addr} {xs : List V} {k : Int} {j : Nat} {R : Hp → Prop} (h : H p = some (.lst xs)) (hk : ixN xs.length k = some j) (q : R (upd H p (.lst (xs.set j v)))) : rSetL (.ref p) (.int k) v H R := ⟨p, xs, k, j, rfl, rfl, h, hk, q⟩
theorem i_lst {tr : TA} (q : tr σ H fun xs H1 => xs.length ≤ sizeLine ∧ ∀ p, H1 p = none → Q (.ref p) (upd H1 p (.lst xs))) : tLst tr σ H Q := q
theorem i_tup {tr : TA} (q : tr σ H fun xs H1 => xs.length ≤ sizeLine ∧ ∀ p, H1 p = none → Q (.ref p) (upd H1 p (.tup xs))) : tTup tr σ H Q := q
theorem i_sl {r : V → Option Int → Option Int → Hp → VK → Prop} {tl th : TO} (q : te σ H fun x H1 => tl σ H1 fun l H2 => th σ H2 fun u H3 => r x l u H3 Q) : tSl r te tl th σ H Q := q
theorem i_nopart {R : Option Int → Hp → Prop} (q : R none H) : tNoPart σ H R := q
theorem i_part {R : Option Int → Hp → Prop} (q : te σ H fun x H1 => ∃ i, x = .int i ∧ R (some i) H1) : tPart te σ H R := q
theorem i_partE {k : Int} {R : Int → Prop} (q : R k) : ∃ i, V.int k = .int i ∧ R i := ⟨k, rfl, q⟩
theorem i_slL {a : Addr} {xs : List V} {lo hi : Option Int} (h : H a = some (.lst xs)) (q : ∀ p, H p = none → Q (.ref p) (upd H p (.lst (cutV xs lo hi)))) : rSlL K (.ref a) lo hi H Q := ⟨a, xs, rfl, SqL.of h, q⟩
theorem i_all {a : Addr} {bs : List Bool} (h : H a = some (.lst (bs.map V.bl))) (q : Q (.bl (bs.all id)) H) : rAll K [.ref a] H Q := ⟨a, bs, rfl, SqL.of h, q⟩
theorem i_any {a : Addr} {bs : List Bool} (h : H a = some (.lst (bs.map V.bl))) (q : Q (.bl (bs.any id)) H) : rAny K [.ref a] H Q := ⟨a, bs, rfl, SqL.of h, q⟩
theorem i_sum {a : Addr} {ns : List Int} (h : H a = some (.lst (ns.map V.int))) (q : Q (.int ns.sum) H) : rSum K [.ref a] H Q := ⟨a, ns, rfl, SqL.of h, q⟩
theorem i_abs {a : Int} (q : Q (.int (if a < 0 then -a else a)) H) : (fun (xs : List V) (H : Hp) (Q : VK) => ∃ i, xs = [.int i] ∧ Q (.int (if i < 0 then -i else i)) H) [.int a] H Q := ⟨a, rfl, q⟩
end
/-! ### loops -/
def LOOP (J : It) (g : TG) (tb : TS) (D : Ends) (σ : L2.St) (H : Hp) : Prop := ∃ W : Nat → Nat → L2.St → Hp → Prop, (∃ m, W 0 m σ H) ∧ ∀ i m σ H, W i m σ H →
  (J.stop i H ∧ D.nx σ H) ∨ (J.go i H ∧ ∃ N : L2.St → Hp → Prop, (∀ σ' H', N σ' H' → ∃ m', m' < m ∧ W (i + 1) m' σ' H') ∧ ∀ x H', J.yld i H x H' → g x σ H' fun σ2 H2 => tb { D with nx := N, ct := N, bk := D.nx } σ2 H2)
section
variable {σ : L2.St} {H : Hp} {K : PySem.W.Frag} {n bk ct : L2.St → Hp → Prop} {rt : VK} {tb : TS} {g : TG} {te : TE} {ta : TA}
theorem i_for1 (q : ta σ H fun vs H1 => ∃ j : Int, vs = [.int j] ∧ -(2 ^ 62) ≤ j ∧ j < 2 ^ 62 ∧ LOOP (Itr 0 j.toNat) g tb ⟨n, rt, bk, ct⟩ σ H1) : tFor (iRng1 ta) g tb ⟨n, rt, bk, ct⟩ σ H := q
theorem i_for2 (q : ta σ H fun vs H1 => ∃ i j : Int, vs = [.int i, .int j] ∧ (-(2 ^ 62) ≤ i ∧ i < 2 ^ 62 ∧ -(2 ^ 62) ≤ j ∧ j < 2 ^ 62) ∧ LOOP (Itr i (j - i).toNat) g tb ⟨n, rt, bk, ct⟩ σ H1) : tFor (iRng2 ta) g tb ⟨n, rt, bk, ct⟩ σ H := q
theorem i_forL (q : te σ H fun x H1 => ∃ a, x = .ref a ∧ (∃ xs, SqL K H1 a xs) ∧ LOOP (Itl K a) g tb ⟨n, rt, bk, ct⟩ σ H1) : tFor (iList K te) g tb ⟨n, rt, bk, ct⟩ σ H := q
theorem i_forT (q : te σ H fun x H1 => ∃ a, x = .ref a ∧ (∃ xs, SqT K H1 a xs) ∧ LOOP (Itt K a) g tb ⟨n, rt, bk, ct⟩ σ H1) : tFor (iTup K te) g tb ⟨n, rt, bk, ct⟩ σ H := q
theorem l_rng {lo : Int} {m : Nat} (Pv : Nat → L2.St → Hp → Prop) (h0 : Pv 0 σ H) (hs : ∀ i σ H, i < m → Pv i σ H → g (.int (lo + i)) σ H fun σ2 H2 => tb ⟨Pv (i + 1), rt, n, Pv (i + 1)⟩ σ2 H2) (hd : ∀ σ H, Pv m σ H → n σ H) :
    LOOP (Itr lo m) g tb ⟨n, rt, bk, ct⟩ σ H := for_range Pv h0 hs hd
theorem l_lst {a : Addr} {xs : List V} (Pv : Nat → L2.St → Hp → Prop) (h0 : Pv 0 σ H) (hl : ∀ i σ H, i ≤ xs.length → Pv i σ H → SqL K H a xs)
    (hs : ∀ i x σ H, xs[i]? = some x → Pv i σ H → g x σ H fun σ2 H2 => tb ⟨Pv (i + 1), rt, n, Pv (i + 1)⟩ σ2 H2) (hd : ∀ σ H, Pv xs.length σ H → n σ H) : LOOP (Itl K a) g tb ⟨n, rt, bk, ct⟩ σ H := for_list Pv h0 hl hs hd
theorem l_tup {a : Addr} {xs : List V} (Pv : Nat → L2.St → Hp → Prop) (h0 : Pv 0 σ H) (hl : ∀ i σ H, i ≤ xs.length → Pv i σ H → SqT K H a xs)
    (hs : ∀ i x σ H, xs[i]? = some x → Pv i σ H → g x σ H fun σ2 H2 => tb ⟨Pv (i + 1), rt, n, Pv (i + 1)⟩ σ2 H2) (hd : ∀ σ H, Pv xs.length σ H → n σ H) : LOOP (Itt K a) g tb ⟨n, rt, bk, ct⟩ σ H := for_tup Pv h0 hl hs hd
theorem i_while {c : TT} (W : Nat → L2.St → Hp → Prop) (m : Nat) (w0 : W m σ H) (hs : ∀ m σ H, W m σ H → c σ H fun b H1 => if b = true then ∃ N : L2.St → Hp → Prop, (∀ σ' H', N σ' H' → ∃ m', m' < m ∧ W m' σ' H') ∧ tb ⟨N, rt, n, N⟩ σ H1 else n σ H1) :
    tWhile c tb ⟨n, rt, bk, ct⟩ σ H := ⟨W, ⟨m, w0⟩, hs⟩
theorem i_par {i j : Nat} (q : ta σ H fun vs H1 => ∃ v w, vs = [v, w] ∧ n ((σ.set i (some v)).set j (some w)) H1) : tPar i j ta ⟨n, rt, bk, ct⟩ σ H := q
theorem i_parE {x y : V} {R : V → V → Prop} (q : R x y) : ∃ v w, [x, y] = [v, w] ∧ R v w := ⟨x, y, rfl, q⟩
theorem i_aug {i : Nat} {ti : TIp} {x : V} (h : σ[i]? = some (some x)) (q : te σ H fun y H1 => ti x y H1 fun z H2 => n (σ.set i (some z)) H2) : tAug i te ti ⟨n, rt, bk, ct⟩ σ H := ⟨_, h, q⟩
theorem i_ipI {f : Int → Int → Int} {a b : Int} {Q : VK} (q : Q (.int (f a b)) H) : ipI f (.int a) (.int b) H Q := ⟨a, b, rfl, rfl, q⟩
theorem ip_mul {X : Cx} : PIp X .Mult (rI CMul fun i j => .int (i * j)) := fun pins s σ H x y v u Q I rx ry h => iop_mul pins s σ H x y v u Q I rx ry h
theorem i_asg2 {g1 g2 : TG} (q : te σ H fun x H1 => g1 x σ H1 fun σ1 H2 => g2 x σ1 H2 n) : tAsg2 te g1 g2 ⟨n, rt, bk, ct⟩ σ H := q
theorem i_gtup {a : Addr} {xs : List V} {k : Nat} {tg : TGs} {R : L2.St → Hp → Prop} (h : H a = some (.tup xs)) (hl : xs.length = k) (q : tg xs σ H R) : gTup K k tg (.ref a) σ H R := ⟨a, xs, rfl, SqT.of h, hl, q⟩
theorem i_gcons {v : V} {r : List V} {tg : TGs} {R : L2.St → Hp → Prop} (q : g v σ H fun σ' H' => tg r σ' H' R) : gCons g tg (v :: r) σ H R := ⟨v, r, rfl, q⟩
theorem i_gnil {R : L2.St → Hp → Prop} (q : R σ H) : gNil [] σ H R := ⟨rfl, q⟩
theorem i_gname {i : Nat} {x : V} {R : L2.St → Hp → Prop} (q : R (σ.set i (some x)) H) : gName i x σ H R := q
end
/-! ### a word between a statement and what follows -/
def tCut (t u : TS) : TS := fun D σ H => ∃ Mid : L2.St → Hp → Prop, t { D with nx := Mid } σ H ∧ ∀ σ' H', Mid σ' H' → u D σ' H'
theorem pss_cut {X : Cx} {st : Stmt} {rest : List Stmt} {t u : TS} (h1 : PS X st t) (h2 : PSs X rest u) : PSs X (st :: rest) (tCut t u) := by
  refine ⟨fun pins s σ H D I h => ?_⟩
  obtain ⟨M, hm, hu⟩ := h
  refine wpAny_execs_cons (thn (h1.run pins s σ H { D with nx := M } I hm) fun f s1 z => ?_)
  cases f with
  | next =>
    obtain ⟨a, b, c, z⟩ := z
    exact h2.run pins s1 a b D c (hu a b z)
  | ret v => exact z
  | brk => exact z
  | cont => exact z
theorem i_cut {σ : L2.St} {H : Hp} {n bk ct : L2.St → Hp → Prop} {rt : VK} {t u : TS} (Mid : L2.St → Hp → Prop) (h : t ⟨Mid, rt, bk, ct⟩ σ H) (k : ∀ σ' H', Mid σ' H' → u ⟨n, rt, bk, ct⟩ σ' H') : tCut t u ⟨n, rt, bk, ct⟩ σ H := ⟨Mid, h, k⟩
/-- the same for a value and for a test -/
def tCutE (t : TE) : TE := fun σ H Q => ∃ Mid : VK, t σ H Mid ∧ ∀ v H', Mid v H' → Q v H'
theorem pe_cut {X : Cx} {e : Expr} {t : TE} (h : PE X e t) : PE X e (tCutE t) := by
  refine ⟨fun pins s σ H Q I q => ?_⟩
  obtain ⟨M, hm, hu⟩ := q
  exact thn (h.run pins s σ H M I hm) fun v s1 ⟨x, H1, I1, r1, z⟩ => ⟨x, H1, I1, r1, hu _ _ z⟩
theorem i_cutE {σ : L2.St} {H : Hp} {Q : VK} {t : TE} (Mid : VK) (h : t σ H Mid) (k : ∀ v H', Mid v H' → Q v H') : tCutE t σ H Q := ⟨Mid, h, k⟩
def tCutT (t : TT) : TT := fun σ H Q => ∃ Mid : Bool → Hp → Prop, t σ H Mid ∧ ∀ v H', Mid v H' → Q v H'
theorem pt_cut {X : Cx} {e : Expr} {t : TT} (h : PT X e t) : PT X e (tCutT t) := by
  refine ⟨fun pins s σ H Q I q => ?_⟩
  obtain ⟨M, hm, hu⟩ := q
  exact thn (h.run pins s σ H M I hm) fun v s1 ⟨H1, I1, z⟩ => ⟨H1, I1, hu _ _ z⟩
theorem i_cutT {σ : L2.St} {H : Hp} {Q : Bool → Hp → Prop} {t : TT} (Mid : Bool → Hp → Prop) (h : t σ H Mid) (k : ∀ v H', Mid v H' → Q v H') : tCutT t σ H Q := ⟨Mid, h, k⟩
/-! ### comprehensions -/
def COMP (J : It) (g : TG) (tt : TT) (te : TE) (vs : List Nat) (σ : L2.St) (H1 : Hp) (D : Addr) (Q : VK) : Prop := ∃ W : Nat → Nat → Hp → Prop, (∃ m, W 0 m (upd H1 D (.lst []))) ∧ ∀ i m H, W i m H →
  (J.stop i H ∧ Q (.ref D) H) ∨ (J.go i H ∧ ∃ Nx : Hp → Prop, (∀ H', Nx H' → ∃ m', m' < m ∧ W (i + 1) m' H') ∧ ∀ x H', J.yld i H x H' → g x (wipe σ vs) H' fun σ2 H2 => wipe σ2 vs = wipe σ vs ∧ tt σ2 H2 fun b H3 =>
    if b = true then te σ2 H3 fun y H4 => ∃ acc, H4 D = some (.lst acc) ∧ acc.length < sizeLine ∧ Nx (upd H4 D (.lst (acc ++ [y]))) else Nx H3)
section
variable {σ : L2.St} {H : Hp} {K : PySem.W.Frag} {Q : VK} {g : TG} {tt : TT} {te tl : TE} {ta : TA} {vs : List Nat}
theorem i_lc1 (q : ta σ H fun us H1 => ∃ j : Int, us = [.int j] ∧ -(2 ^ 62) ≤ j ∧ j < 2 ^ 62 ∧ ∀ D, H1 D = none → COMP (Itr 0 j.toNat) g tt te vs σ H1 D Q) : tLc (iRng1 ta) g tt te vs σ H Q := q
theorem i_lc2 (q : ta σ H fun us H1 => ∃ i j : Int, us = [.int i, .int j] ∧ (-(2 ^ 62) ≤ i ∧ i < 2 ^ 62 ∧ -(2 ^ 62) ≤ j ∧ j < 2 ^ 62) ∧ ∀ D, H1 D = none → COMP (Itr i (j - i).toNat) g tt te vs σ H1 D Q) : tLc (iRng2 ta) g tt te vs σ H Q := q
theorem i_lcL (q : tl σ H fun x H1 => ∃ a, x = .ref a ∧ (∃ xs, SqL K H1 a xs) ∧ ∀ D, H1 D = none → COMP (Itl K a) g tt te vs σ H1 D Q) : tLc (iList K tl) g tt te vs σ H Q := q
theorem i_lcT (q : tl σ H fun x H1 => ∃ a, x = .ref a ∧ (∃ xs, SqT K H1 a xs) ∧ ∀ D, H1 D = none → COMP (Itt K a) g tt te vs σ H1 D Q) : tLc (iTup K tl) g tt te vs σ H Q := q
theorem c_rng {lo : Int} {n : Nat} {D : Addr} (Pv : Nat → Hp → Prop) (h0 : Pv 0 (upd H D (.lst [])))
    (hs : ∀ i H, i < n → Pv i H → g (.int (lo + i)) (wipe σ vs) H fun σ2 H2 => wipe σ2 vs = wipe σ vs ∧ tt σ2 H2 fun b H3 =>
      if b = true then te σ2 H3 fun y H4 => ∃ acc, H4 D = some (.lst acc) ∧ acc.length < sizeLine ∧ Pv (i + 1) (upd H4 D (.lst (acc ++ [y]))) else Pv (i + 1) H3) (hd : ∀ H, Pv n H → Q (.ref D) H) :
    COMP (Itr lo n) g tt te vs σ H D Q := lc_range Pv h0 hs hd
theorem c_lst {a D : Addr} {xs : List V} (Pv : Nat → Hp → Prop) (h0 : Pv 0 (upd H D (.lst []))) (hl : ∀ i H, i ≤ xs.length → Pv i H → SqL K H a xs)
    (hs : ∀ i x H, xs[i]? = some x → Pv i H → g x (wipe σ vs) H fun σ2 H2 => wipe σ2 vs = wipe σ vs ∧ tt σ2 H2 fun b H3 =>
      if b = true then te σ2 H3 fun y H4 => ∃ acc, H4 D = some (.lst acc) ∧ acc.length < sizeLine ∧ Pv (i + 1) (upd H4 D (.lst (acc ++ [y]))) else Pv (i + 1) H3) (hd : ∀ H, Pv xs.length H → Q (.ref D) H) :
    COMP (Itl K a) g tt te vs σ H D Q := lc_list Pv h0 hl hs hd
theorem c_tup {a D : Addr} {xs : List V} (Pv : Nat → Hp → Prop) (h0 : Pv 0 (upd H D (.lst []))) (hl : ∀ i H, i ≤ xs.length → Pv i H → SqT K H a xs)
    (hs : ∀ i x H, xs[i]? = some x → Pv i H → g x (wipe σ vs) H fun σ2 H2 => wipe σ2 vs = wipe σ vs ∧ tt σ2 H2 fun b H3 =>
      if b = true then te σ2 H3 fun y H4 => ∃ acc, H4 D = some (.lst acc) ∧ acc.length < sizeLine ∧ Pv (i + 1) (upd H4 D (.lst (acc ++ [y]))) else Pv (i + 1) H3) (hd : ∀ H, Pv xs.length H → Q (.ref D) H) :
    COMP (Itt K a) g tt te vs σ H D Q := lc_tup Pv h0 hl hs hd
theorem i_yes {R : Bool → Hp → Prop} (q : R true H) : tYes σ H R := q
end
def spCommon : Sp := fun vs H Q _ => ∃ p q : Int, vs = [.int p, .int q] ∧ 0 ≤ p ∧ 0 ≤ q ∧ Q (.int (Int.gcd p q)) H
/-! ### lists of tuples -/
def LT (U : Hp) (p : Addr) (rows : List (List V)) : Prop := ∃ as : List Addr, U p = some (.lst (as.map V.ref)) ∧ Paired (fun a r => U a = some (.tup r)) as rows
theorem Paired.imp {α β : Type} {F G : α → β → Prop} (h : ∀ a b, F a b → G a b) : ∀ {xs : List α} {ys : List β}, Paired F xs ys → Paired G xs ys
  | _, _, .nil => .nil
  | _, _, .cons a t => .cons (h _ _ a) (Paired.imp h t)
theorem Paired.at {α β : Type} {F : α → β → Prop} : ∀ {xs : List α} {ys : List β}, Paired F xs ys → ∀ (i : Nat) (y : β), ys[i]? = some y → ∃ x, xs[i]? = some x ∧ F x y
  | _, _, .nil, i, y, e => by simp at e
  | _, _, .cons a t, 0, y, e => by
    have e' := Option.some.inj e
    subst e'
    exact ⟨_, rfl, a⟩
  | _, _, .cons a t, i + 1, y, e => Paired.at t i y e
theorem Paired.at' {α β : Type} {F : α → β → Prop} : ∀ {xs : List α} {ys : List β}, Paired F xs ys → ∀ (i : Nat) (x : α), xs[i]? = some x → ∃ y, ys[i]? = some y ∧ F x y
  | _, _, .nil, i, y, e => by simp at e
  | _, _, .cons a t, 0, y, e => by
    have e' := Option.some.inj e
    subst e'
    exact ⟨_, rfl, a⟩
  | _, _, .cons a t, i + 1, y, e => Paired.at' t i y e
theorem Paired.len {α β : Type} {F : α → β → Prop} : ∀ {xs : List α} {ys : List β}, Paired F xs ys → xs.length = ys.length
  | _, _, .nil => rfl
  | _, _, .cons _ t => congrArg (· + 1) (Paired.len t)
theorem Paired.tk {α β : Type} {F : α → β → Prop} : ∀ {xs : List α} {ys : List β} (k : Nat), Paired F xs ys → Paired F (xs.take k) (ys.take k)
  | _, _, 0, _ => .nil
  | _, _, _ + 1, .nil => .nil
  | _, _, k + 1, .cons a t => .cons a (Paired.tk k t)
theorem Paired.dp {α β : Type} {F : α → β → Prop} : ∀ {xs : List α} {ys : List β} (k : Nat), Paired F xs ys → Paired F (xs.drop k) (ys.drop k)
  | _, _, 0, h => h
  | _, _, _ + 1, .nil => .nil
  | _, _, k + 1, .cons _ t => Paired.dp k t
theorem Paired.mp {α β γ : Type} {F : α → γ → Prop} {f : β → γ} : ∀ {xs : List α} {ys : List β}, Paired (fun a b => F a (f b)) xs ys → Paired F xs (ys.map f)
  | _, _, .nil => .nil
  | _, _, .cons a t => .cons a (Paired.mp t)
theorem LT.mono {U U' : Hp} {p : Addr} {rows : List (List V)} (e : Same U U') (h : LT U p rows) : LT U' p rows := by
  obtain ⟨as, h1, h2⟩ := h
  exact ⟨as, e _ _ h1, Paired.imp (fun a r x => e _ _ x) h2⟩
section
variable {σ : L2.St} {H U : Hp} {K : PySem.W.Frag} {n bk ct : L2.St → Hp → Prop} {rt : VK} {tb : TS} {g : TG} {te : TE} {ta : TA} {p : Addr} {rows : List (List V)}
theorem LT.len (h : LT U p rows) : ∃ xs : List V, U p = some (.lst xs) ∧ xs.length = rows.length := by
  obtain ⟨as, h1, h2⟩ := h
  exact ⟨_, h1, by rw [List.length_map, Paired.len h2]⟩
theorem LT.get (h : LT U p rows) : ∃ xs : List V, U p = some (.lst xs) ∧ xs.length = rows.length ∧ ∀ (i : Nat) (r : List V), rows[i]? = some r → ∃ a : Addr, xs[i]? = some (V.ref a) ∧ U a = some (.tup r) := by
  obtain ⟨as, h1, h2⟩ := h
  refine ⟨_, h1, by rw [List.length_map, Paired.len h2], fun i r e => ?_⟩
  obtain ⟨a, e1, e2⟩ := Paired.at h2 i r e
  exact ⟨a, by rw [List.getElem?_map, e1]; rfl, e2⟩
theorem l_LT (h : LT U p rows) (Pv : Nat → L2.St → Hp → Prop) (h0 : Pv 0 σ H) (hv : ∀ i σ H, Pv i σ H → Same U H)
    (hs : ∀ i r a σ H, rows[i]? = some r → H a = some (.tup r) → Pv i σ H → g (.ref a) σ H fun σ2 H2 => tb ⟨Pv (i + 1), rt, n, Pv (i + 1)⟩ σ2 H2) (hd : ∀ σ H, Pv rows.length σ H → n σ H) : LOOP (Itl K p) g tb ⟨n, rt, bk, ct⟩ σ H := by
  obtain ⟨as, h1, h2⟩ := h
  refine l_lst (xs := as.map V.ref) Pv h0 (fun i σ H _ q => SqL.of (hv i σ H q _ _ h1)) (fun i x σ H e q => ?_) (fun σ H q => hd σ H ?_)
  · rw [List.getElem?_map] at e
    cases ea : as[i]? with
    | none =>
      rw [ea] at e
      cases e
    | some a =>
      rw [ea] at e
      have e' := Option.some.inj e
      subst e'
      obtain ⟨r, er, hr⟩ := Paired.at' h2 i a ea
      exact hs i r a σ H er (hv i σ H q _ _ hr) q
  · rw [List.length_map, Paired.len h2] at q
    exact q
end
theorem cut_to (xs : List V) (k : Nat) : cutV xs none (some (k : Int)) = xs.take k := by
  unfold cutV
  rw [HT.sIx_nat, HT.sIx_none, List.drop_zero, Nat.sub_zero]
  by_cases h : k ≤ xs.length
  · rw [Nat.min_eq_left h]
  · rw [Nat.min_eq_right (by omega), List.take_length, List.take_of_length_le (by omega)]
theorem cut_from (xs : List V) (k : Nat) : cutV xs (some (k : Int)) none = xs.drop k := by
  unfold cutV
  rw [HT.sIx_nat, HT.sIx_none]
  by_cases h : k ≤ xs.length
  · rw [Nat.min_eq_left h, List.take_of_length_le]
    rw [List.length_drop]
    exact Nat.le_refl _
  · rw [Nat.min_eq_right (by omega), List.drop_length, List.drop_of_length_le (by omega), List.take_nil]
def dV : V → PyData
  | .int i => .int i
  | .bl b => .bool b
  | .str x => .str x
  | _ => .none
theorem dV_dp {K : PySem.W.Frag} {H : Hp} {v : V} (h : (match v with | .int _ => true | .bl _ => true | .str _ => true | .non => true | _ => false) = true) : Dp K H v (dV v) := by
  cases v with
  | int i => exact .int i
  | bl b => exact .bl b
  | str x => exact .str x
  | non => exact .non
  | byt _ => cases h
  | flt _ => cases h
  | ref _ => cases h
  | ty _ => cases h
theorem LT.dp {K : PySem.W.Frag} {U H : Hp} {p : Addr} {rows : List (List V)} (e : Same U H) (h : LT U p rows) (f : ∀ r ∈ rows, ∀ v ∈ r, Dp K H v (dV v)) : Dp K H (.ref p) (.list (rows.map fun r => .tuple (r.map dV))) := by
  obtain ⟨as, h1, h2⟩ := h
  refine .lst (SqL.of (e _ _ h1)) ?_
  clear h1
  induction h2 with
  | nil => exact .nil
  | @cons a r as rows h t ih =>
    refine .cons (.tup (SqT.of (e _ _ h)) ?_) (ih fun x hx => f x (List.mem_cons_of_mem _ hx))
    have fr := f r List.mem_cons_self
    clear h ih t f
    induction r with
    | nil => exact .nil
    | cons v r ih => exact .cons (fr v List.mem_cons_self) (ih fun x hx => fr x (List.mem_cons_of_mem _ hx))
def Lay (n : Nat) (d : PyData) : Prop := d.canLay0 = true ∧ d.depth ≤ n
theorem lay_all {n : Nat} : ∀ {xs : List PyData}, (∀ x ∈ xs, Lay n x) → PyData.canLayAll0 xs = true ∧ PyData.depthAll xs ≤ n
  | [], _ => ⟨rfl, Nat.zero_le _⟩
  | x :: r, h => by
    have h1 := h x List.mem_cons_self
    have h2 := lay_all (xs := r) fun y hy => h y (List.mem_cons_of_mem _ hy)
    constructor
    · show (x.canLay0 && PyData.canLayAll0 r) = true
      rw [h1.1, h2.1]
      rfl
    · show max x.depth (PyData.depthAll r) ≤ n
      exact Nat.max_le.mpr ⟨h1.2, h2.2⟩
theorem lay_int {n : Nat} {i : Int} : Lay n (.int i) := ⟨rfl, Nat.zero_le _⟩
theorem lay_none {n : Nat} : Lay n .none := ⟨rfl, Nat.zero_le _⟩
theorem lay_bool {n : Nat} {b : Bool} : Lay n (.bool b) := ⟨rfl, Nat.zero_le _⟩
theorem lay_list {n : Nat} {xs : List PyData} (h : ∀ x ∈ xs, Lay n x) : Lay (n + 1) (.list xs) := ⟨(lay_all h).1, Nat.succ_le_succ (lay_all h).2⟩
theorem lay_tuple {n : Nat} {xs : List PyData} (h : ∀ x ∈ xs, Lay n x) : Lay (n + 1) (.tuple xs) := ⟨(lay_all h).1, Nat.succ_le_succ (lay_all h).2⟩
theorem Lay.shaped {n : Nat} {d : PyData} (h : Lay n d) (hn : n ≤ 64) : SeqAt.shaped d = true := by
  unfold SeqAt.shaped
  rw [h.1, decide_eq_true (Nat.le_trans h.2 hn)]
  rfl
theorem i_eqD {K : PySem.W.Frag} {H : Hp} {Q : VK} {x y : V} {d e : PyData} (h1 : Dp K H x d) (h2 : Dp K H y e) (l1 : Lay 8 d) (l2 : Lay 8 e) (q : Q (.bl (PyData.eqv d e)) H) : rEqD K x y H Q := ⟨d, e, h1, h2, l1.shaped (by decide), l2.shaped (by decide), q⟩
theorem i_neD {K : PySem.W.Frag} {H : Hp} {Q : VK} {x y : V} {d e : PyData} (h1 : Dp K H x d) (h2 : Dp K H y e) (l1 : Lay 8 d) (l2 : Lay 8 e) (q : Q (.bl (!PyData.eqv d e)) H) : rNeD K x y H Q := ⟨d, e, h1, h2, l1.shaped (by decide), l2.shaped (by decide), q⟩
theorem Lay.up {n m : Nat} {d : PyData} (h : Lay n d) (e : n ≤ m) : Lay m d := ⟨h.1, Nat.le_trans h.2 e⟩
theorem i_eqT {K : PySem.W.Frag} {H : Hp} {Q : VK} {x y : V} {d : PyData} (h1 : Dp K H x d) (h2 : Dp K H y d) (l1 : Lay 8 d) (q : Q (.bl true) H) : rEqD K x y H Q := i_eqD h1 h2 l1 l1 (by rw [SeqAt.eqv_refl _ l1.1]; exact q)
theorem i_neT {K : PySem.W.Frag} {H : Hp} {Q : VK} {x y : V} {d : PyData} (h1 : Dp K H x d) (h2 : Dp K H y d) (l1 : Lay 8 d) (q : Q (.bl false) H) : rNeD K x y H Q := i_neD h1 h2 l1 l1 (by rw [SeqAt.eqv_refl _ l1.1]; exact q)
/-- a list of ints as data -/
theorem dp_ints {K : PySem.W.Frag} {H : Hp} {p : Addr} {ns : List Int} (h : H p = some (.lst (ns.map V.int))) : Dp K H (.ref p) (.list (ns.map .int)) := by
  refine .lst (SqL.of h) ?_
  clear h
  induction ns with
  | nil => exact .nil
  | cons x r ih => exact .cons (.int x) ih
theorem lay_ints (ns : List Int) : Lay 8 (.list (ns.map .int)) := by
  refine (lay_list (n := 0) fun x hx => ?_).up (by decide)
  obtain ⟨i, _, rfl⟩ := List.mem_map.mp hx
  exact lay_int
/-! ### built-ins' names -/
theorem bt_len : bootBuiltins "len" = some (.builtin "len") := by decide +kernel
theorem bt_abs : bootBuiltins "abs" = some (.builtin "abs") := by decide +kernel
theorem bt_max : bootBuiltins "max" = some (.builtin "max") := by decide +kernel
theorem bt_min : bootBuiltins "min" = some (.builtin "min") := by decide +kernel
theorem bt_sum : bootBuiltins "sum" = some (.builtin "sum") := by decide +kernel
theorem bt_all : bootBuiltins "all" = some (.builtin "all") := by decide +kernel
theorem bt_any : bootBuiltins "any" = some (.builtin "any") := by decide +kernel
theorem bt_sorted : bootBuiltins "sorted" = some (.builtin "sorted") := by decide +kernel
theorem bt_isinstance : bootBuiltins "isinstance" = some (.builtin "isinstance") := by decide +kernel
theorem bt_list : bootBuiltins "list" = some (.type "list") := by decide +kernel
theorem bt_tuple : bootBuiltins "tuple" = some (.type "tuple") := by decide +kernel
theorem bt_str : bootBuiltins "str" = some (.type "str") := by decide +kernel
theorem bt_int : bootBuiltins "int" = some (.type "int") := by decide +kernel
theorem bt_bool : bootBuiltins "bool" = some (.type "bool") := by decide +kernel
theorem bt_ValueError : bootBuiltins "ValueError" = some (.type "ValueError") := by decide +kernel
section
variable {K : PySem.W.Frag} {H : Hp} {Q : VK}
theorem i_isI {i : Int} (q : Q (.bl true) H) : rIsi K [.int i, .ty "int"] H Q := ⟨.int i, .ty "int", .type "int", .type "int", true, rfl, .ty _, .base (.int _), kit_ty (by decide +kernel), q⟩
theorem i_isB {i : Int} (q : Q (.bl false) H) : rIsi K [.int i, .ty "bool"] H Q := ⟨.int i, .ty "bool", .type "int", .type "bool", false, rfl, .ty _, .base (.int _), kit_ty (by decide +kernel), q⟩
theorem i_isBB {b : Bool} (q : Q (.bl true) H) : rIsi K [.bl b, .ty "bool"] H Q := ⟨.bl b, .ty "bool", .type "bool", .type "bool", true, rfl, .ty _, .base (.bl _), kit_ty (by decide +kernel), q⟩
theorem i_isL {p : Addr} {xs : List V} (h : H p = some (.lst xs)) (q : Q (.bl true) H) : rIsi K [.ref p, .ty "list"] H Q := ⟨.ref p, .ty "list", .type "list", .type "list", true, rfl, .ty _, .base (.lst h), kit_ty (by decide +kernel), q⟩
theorem i_isT {p : Addr} {xs : List V} (h : H p = some (.tup xs)) (q : Q (.bl true) H) : rIsi K [.ref p, .ty "tuple"] H Q := ⟨.ref p, .ty "tuple", .type "tuple", .type "tuple", true, rfl, .ty _, .base (.tup h), kit_ty (by decide +kernel), q⟩
end
/-! ### the law's own draws -/
structure Dr (U H : Hp) (s : Addr) : Prop where
  ex : ∃ (l : Addr) (ns : List Int) (i b e : Int), H s = some (.lst [.ref l, .int i, .int b, .int e]) ∧ U l = some (.lst (ns.map V.int)) ∧ 0 ≤ i ∧ i ≤ ns.length ∧ 0 ≤ b
  out : U s = none
def spStart (K : PySem.W.Frag) : Sp := fun vs H Q _ => ∃ (a : Addr) (ns : List Int) (U : Hp), vs = [.ref a] ∧ SqL K H a (ns.map V.int) ∧ Same U H ∧
  ∀ s U' H', Gr [] U H U' H' → Dr U' H' s → H s = none → Q (.ref s) H'
def spDraw : Sp := fun vs H Q _ => ∃ (s : Addr) (many : Int) (U : Hp), vs = [.ref s, .int many] ∧ 0 < many ∧ many < 2 ^ 200 ∧ Same U H ∧ Dr U H s ∧
  ∀ r H', 0 ≤ r → r < many → Same U H' → Dr U H' s → (∀ a, a ≠ s → H' a = H a) → Q (.int r) H'
/-- the answer of isinstance(x, int) and not isinstance(x, bool) -/
def spWhole : Sp := fun vs H Q _ => ∃ v, vs = [v] ∧ ((∃ i, v = .int i) ∧ Q (.bl true) H)
theorem cut63 (ns : List Int) : ∃ ms : List Int, cutV (ns.map V.int) none (some 63) = ms.map V.int := by
  unfold cutV
  exact ⟨(ns.drop _).take _, by rw [List.map_take, List.map_drop]⟩
theorem Dr.mono {U U' H H' : Hp} {s : Addr} (d : Dr U H s) (e : Same U U') (h : H' s = H s) (n : U' s = none) : Dr U' H' s := by
  obtain ⟨⟨l, ns, i, b, e', h1, h2, h3⟩, _⟩ := d
  exact ⟨⟨l, ns, i, b, e', by rw [h]; exact h1, e _ _ h2, h3⟩, n⟩
theorem Dr.some {U H : Hp} {s : Addr} (d : Dr U H s) : H s ≠ none := by
  obtain ⟨⟨l, ns, i, b, e', h1, _⟩, _⟩ := d
  rw [h1]
  intro z
  cases z
/-- a new thing that never changes; a new one that will -/
theorem Dr.new {U H : Hp} {s p : Addr} {o : HO} (d : Dr U H s) (n : H p = none) (e : Same U H) : Dr (upd U p o) (upd H p o) s := by
  have ne : s ≠ p := fun z => by
    subst z
    exact d.some n
  exact d.mono (same_new (e.free n)) (upd_ne ne) (by rw [upd_ne ne]; exact d.out)
theorem Dr.newM {U H : Hp} {s p : Addr} {o : HO} (d : Dr U H s) (n : H p = none) : Dr U (upd H p o) s := by
  have ne : s ≠ p := fun z => by
    subst z
    exact d.some n
  exact d.mono (Same.refl _) (upd_ne ne) d.out
theorem Dr.mut {U H : Hp} {s p : Addr} {o : HO} (d : Dr U H s) (ne : s ≠ p) : Dr U (upd H p o) s := d.mono (Same.refl _) (upd_ne ne) d.out
theorem same_both {U H : Hp} {p : Addr} {o : HO} (e : Same U H) : Same (upd U p o) (upd H p o) := fun a x h => by
  by_cases z : a = p
  · subst z
    rw [upd_same] at h ⊢
    exact h
  · rw [upd_ne z] at h ⊢
    exact e a x h
theorem same_seal {U H : Hp} {p : Addr} {o : HO} (e : Same U H) (h : H p = some o) : Same (upd U p o) H := fun a x k => by
  by_cases z : a = p
  · subst z
    rw [upd_same] at k
    rw [h]
    exact k
  · rw [upd_ne z] at k
    exact e a x k
theorem Dr.seal {U H : Hp} {s p : Addr} {o : HO} (d : Dr U H s) (n : U p = none) (ne : s ≠ p) : Dr (upd U p o) H s := d.mono (same_new n) rfl (by rw [upd_ne ne]; exact d.out)
/-- behind a call that leaves all as it was -/
theorem Dr.gr {M : List Addr} {U U' H H' : Hp} {s : Addr} (d : Dr U H s) (g : Gr M U H U' H') (m : s ∉ M) : Dr U' H' s := by
  obtain ⟨⟨l, ns, i, b, e', h1, h2, h3⟩, n⟩ := d
  exact ⟨⟨l, ns, i, b, e', g.hh _ _ m h1, g.vv _ _ h2, h3⟩, g.fr s n (by rw [h1]; intro z; cases z)⟩
/-! ### comprehensions whose element changes nothing; whose element draws -/
section
variable {σ : L2.St} {H : Hp} {K : PySem.W.Frag} {Q : VK} {tt : TT} {te : TE} {vs : List Nat} {a D : Addr} {j : Nat}
theorem sq_off {H H' : Hp} {a D : Addr} {xs : List V} (h : SqL K H a xs) (n : H D = none) (e : ∀ b, b ≠ D → H' b = H b) : SqL K H' a xs := by
  rcases h with (h | ⟨o, h⟩) | h
  · exact .inl (.inl (by rw [e a (ne_of_none h n)]; exact h))
  · exact .inl (.inr ⟨o, by rw [e a (ne_of_none h n)]; exact h⟩)
  · exact .inr h
theorem st_off {H H' : Hp} {a D : Addr} {xs : List V} (h : SqT K H a xs) (n : H D = none) (e : ∀ b, b ≠ D → H' b = H b) : SqT K H' a xs := by
  rcases h with (h | ⟨o, h⟩) | h
  · exact .inl (.inl (by rw [e a (ne_of_none h n)]; exact h))
  · exact .inl (.inr ⟨o, by rw [e a (ne_of_none h n)]; exact h⟩)
  · exact .inr h
theorem upd_id {H H' : Hp} {D : Addr} {o : HO} (h : H' D = some o) (e : ∀ b, b ≠ D → H' b = H b) : H' = upd H D o := by
  funext b
  by_cases z : b = D
  · subst z
    rw [upd_same, h]
  · rw [upd_ne z, e b z]
theorem take_filter {xs : List V} {p : V → Bool} {f : V → V} {i : Nat} {x : V} (h : xs[i]? = some x) : ((xs.take (i + 1)).filter p).map f = ((xs.take i).filter p).map f ++ (if p x = true then [f x] else []) := by
  rw [List.take_add_one, h, List.filter_append, List.map_append]
  by_cases hp : p x = true
  · simp [hp]
  · simp [hp]
theorem c_pure {xs : List V} (p : V → Bool) (f : V → V) (hl : SqL K H a xs) (hD : H D = none) (hn : xs.length ≤ 1000) (hw : ∀ v, wipe ((wipe σ vs).set j (some v)) vs = wipe σ vs)
    (ht : ∀ x ∈ xs, ∀ H', (∀ b, b ≠ D → H' b = H b) → ∀ R : Bool → Hp → Prop, R (p x) H' → tt ((wipe σ vs).set j (some x)) H' R)
    (he : ∀ x ∈ xs, p x = true → ∀ H', (∀ b, b ≠ D → H' b = H b) → ∀ R : VK, R (f x) H' → te ((wipe σ vs).set j (some x)) H' R)
    (q : Q (.ref D) (upd H D (.lst ((xs.filter p).map f)))) : COMP (Itl K a) (gName j) tt te vs σ H D Q := by
  refine c_lst (xs := xs) (fun i H' => (∀ b, b ≠ D → H' b = H b) ∧ H' D = some (.lst (((xs.take i).filter p).map f))) ⟨fun b z => upd_ne z, upd_same⟩ (fun i H' _ h => sq_off hl hD h.1) ?_ ?_
  · rintro i x H' ex ⟨e, h⟩
    refine ⟨hw x, ?_⟩
    have mx := List.mem_of_getElem? ex
    refine ht x mx H' e _ ?_
    by_cases hp : p x = true
    · rw [hp, if_pos rfl]
      refine he x mx hp H' e _ ⟨_, h, ?_, fun b z => by rw [upd_ne z]; exact e b z, ?_⟩
      · rw [List.length_map]
        exact small1000 (Nat.le_trans (List.length_filter_le _ _) (by rw [List.length_take]; omega))
      · rw [upd_same, take_filter ex, if_pos hp]
    · rw [if_neg hp]
      refine ⟨e, ?_⟩
      rw [h, take_filter ex, if_neg hp, List.append_nil]
  · rintro H' ⟨e, h⟩
    rw [List.take_length] at h
    rw [upd_id h e]
    exact q
theorem c_pureT {xs : List V} (p : V → Bool) (f : V → V) (hl : SqT K H a xs) (hD : H D = none) (hn : xs.length ≤ 1000) (hw : ∀ v, wipe ((wipe σ vs).set j (some v)) vs = wipe σ vs)
    (ht : ∀ x ∈ xs, ∀ H', (∀ b, b ≠ D → H' b = H b) → ∀ R : Bool → Hp → Prop, R (p x) H' → tt ((wipe σ vs).set j (some x)) H' R)
    (he : ∀ x ∈ xs, p x = true → ∀ H', (∀ b, b ≠ D → H' b = H b) → ∀ R : VK, R (f x) H' → te ((wipe σ vs).set j (some x)) H' R)
    (q : Q (.ref D) (upd H D (.lst ((xs.filter p).map f)))) : COMP (Itt K a) (gName j) tt te vs σ H D Q := by
  refine c_tup (xs := xs) (fun i H' => (∀ b, b ≠ D → H' b = H b) ∧ H' D = some (.lst (((xs.take i).filter p).map f))) ⟨fun b z => upd_ne z, upd_same⟩ (fun i H' _ h => st_off hl hD h.1) ?_ ?_
  · rintro i x H' ex ⟨e, h⟩
    refine ⟨hw x, ?_⟩
    have mx := List.mem_of_getElem? ex
    refine ht x mx H' e _ ?_
    by_cases hp : p x = true
    · rw [hp, if_pos rfl]
      refine he x mx hp H' e _ ⟨_, h, ?_, fun b z => by rw [upd_ne z]; exact e b z, ?_⟩
      · rw [List.length_map]
        exact small1000 (Nat.le_trans (List.length_filter_le _ _) (by rw [List.length_take]; omega))
      · rw [upd_same, take_filter ex, if_pos hp]
    · rw [if_neg hp]
      refine ⟨e, ?_⟩
      rw [h, take_filter ex, if_neg hp, List.append_nil]
  · rintro H' ⟨e, h⟩
    rw [List.take_length] at h
    rw [upd_id h e]
    exact q
theorem filter_yes (xs : List V) : xs.filter (fun _ => true) = xs := by
  induction xs with
  | nil => rfl
  | cons x r ih => simp
/-- [f x for x in xs] -/
theorem c_map {xs : List V} (f : V → V) (hl : SqL K H a xs) (hD : H D = none) (hn : xs.length ≤ 1000) (hw : ∀ v, wipe ((wipe σ vs).set j (some v)) vs = wipe σ vs)
    (he : ∀ x ∈ xs, ∀ H', (∀ b, b ≠ D → H' b = H b) → ∀ R : VK, R (f x) H' → te ((wipe σ vs).set j (some x)) H' R)
    (q : Q (.ref D) (upd H D (.lst (xs.map f)))) : COMP (Itl K a) (gName j) tYes te vs σ H D Q :=
  c_pure (fun _ => true) f hl hD hn hw (fun x _ H' _ R r => r) (fun x m _ H' e R r => he x m H' e R r) (by rw [filter_yes]; exact q)
theorem c_mapT {xs : List V} (f : V → V) (hl : SqT K H a xs) (hD : H D = none) (hn : xs.length ≤ 1000) (hw : ∀ v, wipe ((wipe σ vs).set j (some v)) vs = wipe σ vs)
    (he : ∀ x ∈ xs, ∀ H', (∀ b, b ≠ D → H' b = H b) → ∀ R : VK, R (f x) H' → te ((wipe σ vs).set j (some x)) H' R)
    (q : Q (.ref D) (upd H D (.lst (xs.map f)))) : COMP (Itt K a) (gName j) tYes te vs σ H D Q :=
  c_pureT (fun _ => true) f hl hD hn hw (fun x _ H' _ R r => r) (fun x m _ H' e R r => he x m H' e R r) (by rw [filter_yes]; exact q)
/-- [.. draws .. for k in range(n)]: ints that keep P -/
theorem c_draws {n : Nat} {lo : Int} {U : Hp} {s : Addr} (P : Int → Prop) (hn : n ≤ 1000) (hU : Same U H) (d : Dr U H s) (hD : H D = none) (hw : ∀ v, wipe ((wipe σ vs).set j (some v)) vs = wipe σ vs)
    (he : ∀ (i : Nat) H', Same U H' → Dr U H' s → ∀ R : VK, (∀ y H'', P y → Same U H'' → Dr U H'' s → (∀ b, b ≠ s → H'' b = H' b) → R (.int y) H'') → te ((wipe σ vs).set j (some (.int (lo + i)))) H' R)
    (hd : ∀ (ns : List Int) H', ns.length = n → (∀ y ∈ ns, P y) → Same U H' → Dr U H' s → U D = none → (∀ b, b ≠ s → b ≠ D → H' b = H b) → H' D = some (.lst (ns.map V.int)) → Q (.ref D) H') : COMP (Itr lo n) (gName j) tYes te vs σ H D Q := by
  have nU : U D = none := hU.free hD
  have sD : s ≠ D := fun z => by
    subst z
    exact d.some hD
  refine c_rng (fun i H' => ∃ ns : List Int, ns.length = i ∧ (∀ y ∈ ns, P y) ∧ Same U H' ∧ Dr U H' s ∧ (∀ b, b ≠ s → b ≠ D → H' b = H b) ∧ H' D = some (.lst (ns.map V.int))) ?_ ?_ ?_
  · exact ⟨[], rfl, fun y h => (by cases h), same_mut hU nU, d.newM hD, fun b _ z => upd_ne z, upd_same⟩
  · rintro i H' hi ⟨ns, e1, e2, e3, e4, e5, e6⟩
    refine ⟨hw _, ?_⟩
    refine i_yes (i_itT ?_)
    refine he i H' e3 e4 _ fun y H'' py h1 h2 h3 => ⟨_, (h3 D sD.symm).trans e6, by rw [List.length_map]; exact small1000 (by omega), ns ++ [y], by rw [List.length_append, e1]; rfl, ?_, same_mut h1 nU, h2.mut sD, ?_, ?_⟩
    · intro z hz
      rcases List.mem_append.mp hz with h | h
      · exact e2 z h
      · rw [List.mem_singleton.mp h]
        exact py
    · intro b z1 z2
      rw [upd_ne z2, h3 b z1]
      exact e5 b z1 z2
    · rw [upd_same, List.map_append]
      rfl
  · rintro H' ⟨ns, e1, e2, e3, e4, e5, e6⟩
    exact hd ns H' e1 e2 e3 e4 nU e5 e6
end
end SW

open PySem L2 SW
local macro_rules | `(tactic| walk_at "sw1") => `(tactic| first
  | with_reducible refine i_seq ?_
  | with_reducible refine i_set ?_
  | with_reducible refine i_asg ?_
  | with_reducible refine i_var rfl ?_
  | with_reducible refine i_c ?_
  | with_reducible refine i_op ?_
  | with_reducible refine i_rI0 ?_
  | with_reducible refine i_cons ?_
  | with_reducible refine i_nil ?_
  | with_reducible refine i_call ?_
  | with_reducible refine i_cb ?_
  | with_reducible refine i_if ?_
  | with_reducible refine i_test ?_
  | with_reducible refine i_B ?_
  | with_reducible refine i_bl ?_
  | with_reducible refine i_blV ?_
  | with_reducible refine i_itT ?_
  | with_reducible refine i_itF ?_
  | with_reducible refine i_iteNT ?_
  | with_reducible refine i_iteNF ?_
  | with_reducible refine i_iteNN ?_
  | with_reducible refine i_ret ?_
  | with_reducible refine i_drop ?_
  | with_reducible refine i_next ?_
  | with_reducible refine i_un ?_
  | with_reducible refine i_rU ?_
  | with_reducible refine i_eqI ?_
  | with_reducible refine i_neI ?_
  | with_reducible refine i_eqS ?_
  | with_reducible refine i_neS ?_
  | with_reducible refine i_not ?_
  | with_reducible refine i_and ?_
  | with_reducible refine i_or ?_
  | with_reducible refine i_andV ?_
  | with_reducible refine i_orV ?_
  | with_reducible refine i_notV ?_
  | with_reducible refine i_ifE ?_
  | with_reducible refine i_chain ?_
  | with_reducible refine i_sub ?_
  | with_reducible refine i_lst ?_
  | with_reducible refine i_tup ?_
  | with_reducible refine i_for1 ?_
  | with_reducible refine i_for2 ?_
  | with_reducible refine i_forL ?_
  | with_reducible refine i_forT ?_
  | with_reducible refine i_lc1 ?_
  | with_reducible refine i_lc2 ?_
  | with_reducible refine i_lcL ?_
  | with_reducible refine i_lcT ?_
  | with_reducible refine i_gname ?_
  | with_reducible refine i_yes ?_
  | with_reducible refine i_par ?_
  | with_reducible refine i_sl ?_
  | with_reducible refine i_nopart ?_
  | with_reducible refine i_part ?_
  | with_reducible refine i_partE ?_
  | with_reducible refine i_parE ?_
  | with_reducible refine i_ipI ?_
  | with_reducible refine i_asg2 ?_
  | with_reducible refine i_gcons ?_
  | with_reducible refine i_gnil ?_
  | with_reducible refine i_retN ?_
  | with_reducible refine i_brk ?_
  | with_reducible refine i_cont ?_)
local macro_rules | `(tactic| walk_at "hp") => `(tactic| first | assumption | exact upd_same | (refine upd_get (by assumption) ?_; walk_at "hp") | ((rw [upd_ne (by assumption)]); walk_at "hp"))
local macro_rules | `(tactic| walk_at "cc") => `(tactic| first | omega | decide | exact ⟨by decide, by decide⟩ | exact ⟨by omega, by omega⟩ | exact ⟨by decide, by decide, by decide⟩ | exact Or.inr ⟨by decide, by decide⟩ | exact Or.inl ⟨by decide, by decide⟩ | exact Or.inr ⟨by omega, by omega⟩ | exact Or.inl ⟨by omega, by omega⟩ | assumption)
local macro_rules | `(tactic| walk_at "sw2") => `(tactic| first
  | walk_at "sw1"
  | ((with_reducible refine' i_rI ?c1 ?_); (case c1 => (dsimp only; walk_at "cc")))
  | ((with_reducible refine' i_rI ?c1 ?_); (case c1 => (walk_at "cc")))
  | ((with_reducible refine' i_ixL ?c1 ?c2 ?_); (case c1 => walk_at "hp"); (case c2 => exact rfl))
  | ((with_reducible refine' i_ixT ?c1 ?c2 ?_); (case c1 => walk_at "hp"); (case c2 => exact rfl))
  | with_reducible refine i_isI ?_
  | with_reducible refine i_isB ?_
  | with_reducible refine i_isBB ?_
  | ((with_reducible refine' i_isL ?c1 ?_); (case c1 => walk_at "hp"))
  | ((with_reducible refine' i_isT ?c1 ?_); (case c1 => walk_at "hp"))
  | ((with_reducible refine' i_setL ?c1 ?c2 ?_); (case c1 => walk_at "hp"); (case c2 => exact rfl))
  | ((with_reducible refine' i_rI ?c1 ?_); (case c1 => first | (apply_assumption; done) | exact wide_div (b := 200) (by omega) (by omega) (by decide) (by decide)))
  | ((with_reducible refine' Exists.intro _ (Exists.intro _ (And.intro rfl (And.intro (Or.inl (SqL.of ?c1)) ?_)))); (case c1 => walk_at "hp"))
  | ((with_reducible refine' Exists.intro _ (Exists.intro _ (And.intro rfl (And.intro (Or.inr (SqT.of ?c1)) ?_)))); (case c1 => walk_at "hp"))
  | ((with_reducible refine' Exists.intro _ (And.intro (rfl : [V.int _] = [V.int _]) ?_)))
  | ((with_reducible refine' Exists.intro _ (Exists.intro _ (And.intro (rfl : [V.int _, V.int _] = [V.int _, V.int _]) ?_))))
  | (with_reducible refine And.intro (Nat.le_of_ble_eq_true rfl : List.length _ ≤ sizeLine) ?_))
local macro_rules | `(tactic| walk_at "sw3") => `(tactic| first
  | walk_at "sw2"
  | ((with_reducible refine' i_aug ?c1 ?_); (case c1 => exact rfl))
  | ((with_reducible refine' i_slL ?c1 ?_); (case c1 => walk_at "hp"))
  | ((with_reducible refine' i_gtup ?c1 ?c2 ?_); (case c1 => walk_at "hp"); (case c2 => exact rfl)))
local macro_rules | `(tactic| walk_at "sw") => `(tactic| ((try dsimp only); repeat walk_at "sw3"))

namespace SW
open PySem L2
def top (i : Nat) : Stmt := PySem.Challenge.pw_slotwright_k19_measure_of_cases.main.body.getD i (.Pass ⟨0, 0, 0, 0⟩)
abbrev s_measure : Stmt := top 1
abbrev s_law_start : Stmt := top 3
abbrev s_law_draw : Stmt := top 4
abbrev s_law_whole : Stmt := top 5
abbrev s_law : Stmt := top 6
theorem sc_measure : FnScope ["chances", "total", "product", "low", "many"] ["chances"] (defScope s_measure) := ⟨rfl, rfl, rfl, by decide +kernel, rfl, by decide +kernel, by decide +kernel⟩
theorem sc_law_start : FnScope ["_law_script"] ["_law_script"] (defScope s_law_start) := ⟨rfl, rfl, rfl, by decide +kernel, rfl, by decide +kernel, by decide +kernel⟩
theorem sc_law_draw : FnScope ["_law_s", "_law_many", "_law_cell", "_law_found"] ["_law_s", "_law_many"] (defScope s_law_draw) := ⟨rfl, rfl, rfl, by decide +kernel, rfl, by decide +kernel, by decide +kernel⟩
theorem sc_law_whole : FnScope ["_law_x"] ["_law_x"] (defScope s_law_whole) := ⟨rfl, rfl, rfl, by decide +kernel, rfl, by decide +kernel, by decide +kernel⟩
theorem sc_law : FnScope ["_law_script", "_law_s", "_law_top", "_law_rows", "_law_handed", "_law_due", "_law_at", "_law_part", "_law_low", "_law_many", "_law_found", "_law_k"] ["_law_script"] (defScope s_law) := ⟨rfl, rfl, rfl, by decide +kernel, rfl, by decide +kernel, by decide +kernel⟩
structure Tx (K : PySem.W.Frag) (mg : Str → Option Value) where
  f_measure : Addr
  fd_measure : FuncData
  F_measure : Fun K "measure" "measure" s_measure f_measure fd_measure
  b_measure : Binds K fd_measure ["chances"] []
  g_measure : mg "measure" = some (.ref f_measure)
  f_law_start : Addr
  fd_law_start : FuncData
  F_law_start : Fun K "_law_start" "_law_start" s_law_start f_law_start fd_law_start
  b_law_start : Binds K fd_law_start ["_law_script"] []
  g_law_start : mg "_law_start" = some (.ref f_law_start)
  f_law_draw : Addr
  fd_law_draw : FuncData
  F_law_draw : Fun K "_law_draw" "_law_draw" s_law_draw f_law_draw fd_law_draw
  b_law_draw : Binds K fd_law_draw ["_law_s", "_law_many"] []
  g_law_draw : mg "_law_draw" = some (.ref f_law_draw)
  f_law_whole : Addr
  fd_law_whole : FuncData
  F_law_whole : Fun K "_law_whole" "_law_whole" s_law_whole f_law_whole fd_law_whole
  b_law_whole : Binds K fd_law_whole ["_law_x"] []
  g_law_whole : mg "_law_whole" = some (.ref f_law_whole)
  f_law : Addr
  fd_law : FuncData
  F_law : Fun K "law" "law" s_law f_law fd_law
  b_law : Binds K fd_law ["_law_script"] []
  g_law : mg "law" = some (.ref f_law)
  z_abs : mg "abs" = none
  z_bool : mg "bool" = none
  z_int : mg "int" = none
  z_isinstance : mg "isinstance" = none
  z_len : mg "len" = none
  z_list : mg "list" = none
  z_max : mg "max" = none
  z_range : mg "range" = none
def spLaw (K : PySem.W.Frag) : Sp := fun vs H Q _ => ∃ (a : Addr) (ns : List Int), vs = [.ref a] ∧ SqL K H a (ns.map V.int) ∧ ns.length ≤ 63 ∧ (∀ z ∈ ns, Builtin.Int.intBits z ≤ 1048576) ∧ ∀ H', Q (.bl true) H'
section
variable {P : Program} {w : World} {K : PySem.W.Frag} {mg : Str → Option Value} {base : Heap}
theorem ok_law_start (T : Tx K mg) : FnOk P w K mg base CX0 1 T.f_law_start T.fd_law_start ["_law_script"] (spStart K) := by
  refine T.F_law_start.ok sc_law_start (fun vs H Q E h => ?_) (fun cdv A outer s H vs Q E hr h => ?_)
  · obtain ⟨a, ns, U, rfl, _⟩ := h
    rfl
  · obtain ⟨a, ns, U, rfl, hS, hU, q⟩ := h
    refine ⟨_, (pss_one (ps_ret (pe_lst (pa_cons (pe_callTy call_list_of (by rfl) T.z_list bt_list (pa_cons (pe_slice sl_list (pv 0) po_none (po_some pe_int)) pa_nil)) (pa_cons pe_int (pa_cons pe_int (pa_cons pe_int pa_nil))))))), ?_⟩
    walk_at "sw"
    refine ⟨a, _, rfl, hS, fun c nc => ?_⟩
    obtain ⟨ms, em⟩ := cut63 ns
    rw [em]
    have g1 : Gr [] U H U (upd H c (.lst (ms.map V.int))) := (Gr.refl hU).newM nc
    walk_at "sw"
    intro l nl
    have g2 := g1.new (o := .lst (ms.map V.int)) nl
    walk_at "sw"
    intro s ns'
    have g3 := g2.newM (o := .lst [.ref l, .int 0, .int 0, .int 90210]) ns'
    refine q s _ _ g3 ⟨⟨l, ms, 0, 0, 90210, upd_same, upd_same, Int.le_refl _, by omega, Int.le_refl _⟩, g2.vh.free ns'⟩ (g2.fresh ns')
theorem ok_law_draw (T : Tx K mg) : FnOk P w K mg base CX0 1 T.f_law_draw T.fd_law_draw ["_law_s", "_law_many"] spDraw := by
  refine T.F_law_draw.ok sc_law_draw (fun vs H Q E h => ?_) (fun cdv A outer s0 H vs Q E hr h => ?_)
  · obtain ⟨s, many, U, rfl, _⟩ := h
    rfl
  · obtain ⟨s, many, U, rfl, h0, h2, hU, D, q⟩ := h
    obtain ⟨⟨l, ns, i, b, e, hs, hl, hi, hi2, hb⟩, hn⟩ := D
    have hlU := hU _ _ hl
    have sl : s ≠ l := fun z => by
      subst z
      rw [hn] at hl
      cases hl
    refine ⟨_, (pss_cons (ps_if (pt_cmpR op_eq (pe_ix ix_list (pv 0) pe_int (fun _ _ => rfl)) pe_int (nomark _))
      (pss_cons (ps_set (i := 2) sc_law_draw.nd rfl (Or.inl rfl) pe_int)
      (pss_cons (ps_if (pt_cmpR op_lt (pe_ix ix_list (pv 0) pe_int (fun _ _ => rfl)) (pe_callB call_len_seq (by rfl) T.z_len bt_len (pa_cons (pe_ix ix_list (pv 0) pe_int (fun _ _ => rfl)) pa_nil)) (nomark _))
      (pss_cons (ps_set (i := 2) sc_law_draw.nd rfl (Or.inl rfl) (pe_ix ix_list (pe_ix ix_list (pv 0) pe_int (fun _ _ => rfl)) (pe_ix ix_list (pv 0) pe_int (fun _ _ => rfl)) (fun _ _ => rfl)))
      (pss_one (ps_asg (pe_op op_add (pe_ix ix_list (pv 0) pe_int (fun _ _ => rfl)) pe_int) (pg_sub (pv 0) pe_int set_list))))
      pss_nil)
      (pss_one (ps_if ((pw_or (pt_cmpR op_ge (pv 2) (pe_op op_pow pe_int pe_int) (nomark _)) (pw_or1 (pt_cmpR op_le (pv 2) (pe_un un_neg (pe_op op_pow pe_int pe_int)) (nomark _))))).pt
      (pss_one (ps_asg (pe_callB call_abs (by rfl) T.z_abs bt_abs (pa_cons (pv 2) pa_nil)) (pg_sub (pv 0) pe_int set_list)))
      (pss_cons (ps_asg (pe_op op_mod (pe_op op_add (pe_op op_add (pe_op op_mul (pe_ix ix_list (pv 0) pe_int (fun _ _ => rfl)) pe_int) (pe_op op_mod (pv 2) pe_int)) pe_int) pe_int) (pg_sub (pv 0) pe_int set_list))
      (pss_one (ps_ret (pe_op op_mod (pe_op op_fdiv (pe_ix ix_list (pv 0) pe_int (fun _ _ => rfl)) pe_int) (pv 1)))))))))
      pss_nil)
      (pss_cons (ps_set (i := 3) sc_law_draw.nd rfl (Or.inl rfl) (pe_op op_mod (pe_ix ix_list (pv 0) pe_int (fun _ _ => rfl)) (pv 1)))
      (pss_cons (ps_asg (pe_op op_fdivW (pe_ix ix_list (pv 0) pe_int (fun _ _ => rfl)) (pv 1)) (pg_sub (pv 0) pe_int set_list))
      (pss_one (ps_ret (pv 3)))))), ?_⟩
    have w3 : ∀ z : Int, CDivW z many := fun z => wide_div h0 (b := 200) (by omega) (by decide) (by decide)
    -- the end, from a heap that has changed at s alone
    have fin : ∀ (H1 : Hp) (i1 b1 e1 : Int) (r : Int), (∀ a, a ≠ s → H1 a = H a) → H1 s = some (.lst [.ref l, .int i1, .int b1, .int e1]) → 0 ≤ i1 → i1 ≤ ns.length → 0 ≤ b1 → 0 ≤ r → r < many → Q (.int r) H1 := by
      intro H1 i1 b1 e1 r ho h1 a1 a2 a3 a4 a5
      refine q r H1 a4 a5 (fun a o ha => ?_) ⟨⟨l, ns, i1, b1, e1, h1, hl, a1, a2, a3⟩, hn⟩ ho
      have ne : a ≠ s := fun z => by
        subst z
        rw [hn] at ha
        cases ha
      rw [ho a ne]
      exact hU a o ha
    have tail : ∀ (H1 : Hp) (i1 b1 e1 : Int), (∀ a, a ≠ s → H1 a = H a) → H1 s = some (.lst [.ref l, .int i1, .int b1, .int e1]) → 0 ≤ i1 → i1 ≤ ns.length → 0 ≤ b1 →
        Q (.int (b1 % many)) (upd H1 s (.lst [.ref l, .int i1, .int (b1 / many), .int e1])) := by
      intro H1 i1 b1 e1 ho h1 a1 a2 a3
      refine fin _ i1 (b1 / many) e1 _ (fun a ne => ?_) upd_same a1 a2 (Int.ediv_nonneg a3 (by omega)) (Int.emod_nonneg _ (by omega)) (Int.emod_lt_of_pos _ h0)
      rw [upd_ne ne]
      exact ho a ne
    have ab : ∀ c : Int, 0 ≤ (if c < 0 then -c else c) := fun c => by split <;> omega
    have md : ∀ c : Int, 0 ≤ c % many ∧ c % many < many := fun c => ⟨Int.emod_nonneg _ (by omega), Int.emod_lt_of_pos _ h0⟩
    have un : ∀ (o : HO) (a : Addr), a ≠ s → upd H s o a = H a := fun o a ne => upd_ne ne
    have un2 : ∀ (o o' : HO) (a : Addr), a ≠ s → upd (upd H s o) s o' a = H a := fun o o' a ne => by rw [upd_ne ne, upd_ne ne]
    walk_at "sw"
    refine i_ite (fun h => ?_) (fun h => ?_)
    · walk_at "sw"
      refine i_ite (fun h => ?_) (fun h => ?_)
      · obtain ⟨j, rfl⟩ : ∃ j : Nat, i = (j : Int) := ⟨i.toNat, by omega⟩
        rw [List.length_map] at h
        have hj : j < ns.length := by omega
        walk_at "sw"
        refine i_ixL hlU (at_of (j := j) (v := V.int ns[j]) rfl (by rw [List.getElem?_map, List.getElem?_eq_getElem hj]; rfl)) ?_
        walk_at "sw"
        refine i_ite (fun h => ?_) (fun h => ?_)
        · walk_at "sw"
          exact tail _ (j + 1) _ e (un2 _ _) upd_same (by omega) (by omega) (ab _)
        · walk_at "sw"
          refine i_ite (fun h => ?_) (fun h => ?_)
          · walk_at "sw"
            exact tail _ (j + 1) _ e (un2 _ _) upd_same (by omega) (by omega) (ab _)
          · walk_at "sw"
            exact fin _ (j + 1) b _ _ (un2 _ _) upd_same (by omega) (by omega) hb (md _).1 (md _).2
      · walk_at "sw"
        refine i_ite (fun h => ?_) (fun h => ?_)
        · walk_at "sw"
          exact tail _ i _ e (un _) upd_same hi hi2 (ab _)
        · walk_at "sw"
          refine i_ite (fun h => ?_) (fun h => ?_)
          · walk_at "sw"
            exact tail _ i _ e (un _) upd_same hi hi2 (ab _)
          · walk_at "sw"
            exact fin _ i b _ _ (un _) upd_same hi hi2 hb (md _).1 (md _).2
    · walk_at "sw"
      exact tail H i b e (fun a _ => rfl) hs hi hi2 hb

theorem ok_law_whole (T : Tx K mg) : FnOk P w K mg base CX0 1 T.f_law_whole T.fd_law_whole ["_law_x"] spWhole := by
  refine T.F_law_whole.ok sc_law_whole (fun vs H Q E h => ?_) (fun cdv A outer s H vs Q E hr h => ?_)
  · obtain ⟨v, rfl, _⟩ := h
    rfl
  · obtain ⟨v, rfl, ⟨i, rfl⟩, q⟩ := h
    refine ⟨_, (pss_one (ps_ret (pe_and (pe_callB call_isi (by rfl) T.z_isinstance bt_isinstance (pa_cons (pv 0) (pa_cons (pe_bltn (v := .ty "int") (by rfl) T.z_int bt_int rfl) pa_nil))) (pe_one (pe_not (pe_callB call_isi (by rfl) T.z_isinstance bt_isinstance (pa_cons (pv 0) (pa_cons (pe_bltn (v := .ty "bool") (by rfl) T.z_bool bt_bool rfl) pa_nil)))))))), ?_⟩
    walk_at "sw"
    exact q

def pr : List Int → Int
  | [] => 1
  | m :: r => (if m > 1 then m else 1) * pr r
theorem pr_snoc (m : Int) : ∀ xs : List Int, pr (xs ++ [m]) = pr xs * (if m > 1 then m else 1)
  | [] => by
    show (if m > 1 then m else 1) * 1 = 1 * _
    rw [Int.mul_one, Int.one_mul]
  | x :: r => by
    show (if x > 1 then x else 1) * pr (r ++ [m]) = (if x > 1 then x else 1) * pr r * _
    rw [pr_snoc m r, Int.mul_assoc]
def sm (ms : List Int) : Nat → Int
  | 0 => 1
  | k + 1 => sm ms k + pr (ms.take (k + 1))
theorem pr_take {ms : List Int} {i : Nat} {m : Int} (h : ms[i]? = some m) : pr (ms.take (i + 1)) = pr (ms.take i) * (if m > 1 then m else 1) := by
  rw [List.take_add_one, h]
  exact pr_snoc m _
/-- a row of a pair -/
def row2 (r : Int × Int) : List V := [.int r.1, .int r.2]
def spMeasure : Sp := fun vs H Q _ => ∃ (p : Addr) (rows : List (Int × Int)) (U : Hp), vs = [.ref p] ∧ LT U p (rows.map row2) ∧ Same U H ∧ (∀ r ∈ rows, 0 ≤ r.2 ∧ r.2 < 2 ^ 60) ∧ Q (.int (sm (rows.map (·.2)) rows.length)) H
theorem row_at {rows : List (Int × Int)} {i : Nat} {r : List V} (h : (rows.map row2)[i]? = some r) : ∃ x, rows[i]? = some x ∧ r = row2 x := by
  rw [List.getElem?_map] at h
  cases e : rows[i]? with
  | none =>
    rw [e] at h
    cases h
  | some x =>
    rw [e] at h
    exact ⟨x, rfl, (Option.some.inj h).symm⟩
theorem ok_measure (T : Tx K mg) : FnOk P w K mg base CX0 1 T.f_measure T.fd_measure ["chances"] spMeasure := by
  refine T.F_measure.ok sc_measure (fun vs H Q E h => ?_) (fun cdv A outer s H vs Q E hr h => ?_)
  · obtain ⟨a, rows, U, rfl, _⟩ := h
    rfl
  · obtain ⟨a, rows, U, rfl, hL, hU, hb, q⟩ := h
    refine ⟨_, (pss_cons (ps_asg2 pe_int (pg_name (i := 1) sc_measure.nd rfl (Or.inl rfl)) (pg_name (i := 2) sc_measure.nd rfl (Or.inl rfl)))
      (pss_cons (ps_for PassesOwn.never rfl (pi_list (pv 0)) (pg_tup (by rfl) (pgs_cons (pg_name (i := 3) sc_measure.nd rfl (Or.inl rfl)) (pgs_cons (pg_name (i := 4) sc_measure.nd rfl (Or.inl rfl)) pgs_nil)))
      (pss_cons (ps_aug (i := 2) sc_measure.nd rfl (Or.inl rfl) (pe_callB (call_max2 (by rfl)) (by rfl) T.z_max bt_max (pa_cons pe_int (pa_cons (pv 4) pa_nil))) ip_mul)
      (pss_one (ps_aug (i := 1) sc_measure.nd rfl (Or.inl rfl) (pv 2) ip_add))))
      (pss_one (ps_ret (pv 1))))), ?_⟩
    walk_at "sw"
    obtain ⟨xs, hx, _⟩ := hL.len
    refine ⟨a, rfl, ⟨_, SqL.of (hU _ _ hx)⟩, l_LT hL (fun i σ H' => ∃ v3 v4, σ = [some (.ref a), some (.int (sm (rows.map (·.2)) i)), some (.int (pr ((rows.map (·.2)).take i))), v3, v4] ∧ H' = H) ⟨_, _, rfl, rfl⟩ ?_ ?_ ?_⟩
    · rintro i σ H' ⟨v3, v4, rfl, rfl⟩
      exact hU
    · rintro i r p σ H' hr hp ⟨v3, v4, rfl, rfl⟩
      obtain ⟨x, ex, rfl⟩ := row_at hr
      obtain ⟨x0, x1⟩ := hb x (List.mem_of_getElem? ex)
      have e2 : (rows.map (·.2))[i]? = some x.2 := by rw [List.getElem?_map, ex]; rfl
      unfold row2 at hp
      walk_at "sw"
      refine ⟨some (.int x.1), some (.int x.2), ?_, rfl⟩
      rw [show sm (rows.map (·.2)) (i + 1) = sm (rows.map (·.2)) i + pr ((rows.map (·.2)).take (i + 1)) from rfl, pr_take e2]
      rfl
    · rintro σ H' ⟨v3, v4, rfl, rfl⟩
      walk_at "sw"
      rw [List.length_map]
      exact q
theorem ok_law (T : Tx K mg) : FnOk P w K mg base CX0 2 T.f_law T.fd_law ["_law_script"] (spLaw K) := by
  refine T.F_law.ok sc_law (fun vs H Q E h => ?_) (fun cdv A outer s0 H vs Q E hr h => ?_)
  · obtain ⟨a, ns, rfl, _⟩ := h
    rfl
  · obtain ⟨a, ns, rfl, hS, hlen, hbits, q⟩ := h
    refine ⟨_, (pss_cons (ps_set (i := 1) sc_law.nd rfl (Or.inr rfl) (pe_call (ok_law_start T) (hr.mono (by decide)) (by rfl) T.g_law_start T.F_law_start.kp T.b_law_start .nil pass0 (pa_cons (pv 0) pa_nil)))
      (pss_cons (ps_set (i := 2) sc_law.nd rfl (Or.inr rfl) pe_int)
      (pss_cut (ps_if (pt_cmpR op_eq (pe_call (ok_law_draw T) (hr.mono (by decide)) (by rfl) T.g_law_draw T.F_law_draw.kp T.b_law_draw .nil pass0 (pa_cons (pv 1) (pa_cons pe_int pa_nil))) pe_int (nomark _))
      (pss_one (ps_set (i := 2) sc_law.nd rfl (Or.inr rfl) (pe_op op_pow pe_int pe_int)))
      pss_nil)
      (pss_cons (ps_setLc (i := 3) (own := [("_law_k", 11)]) (by rfl) sc_law.nd rfl rfl (sw_true rfl rfl rfl (by decide +kernel)) (pi_range1 (by rfl) T.z_range (pa_cons (pe_call (ok_law_draw T) (hr.mono (by decide)) (by rfl) T.g_law_draw T.F_law_draw.kp T.b_law_draw .nil pass0 (pa_cons (pv 1) (pa_cons pe_int pa_nil))) pa_nil)) (blkOk_by (own := [("_law_k", 11)]) (N := ["_law_script", "_law_s", "_law_top", "_law_rows", "_law_handed", "_law_due", "_law_at", "_law_part", "_law_low", "_law_many", "_law_found", "_law_k"]) (sc := defScope s_law) (by decide +kernel)) (fun _ _ _ _ _ => (pg_name (i := 11) sc_law.nd rfl (Or.inl rfl))) (fun _ _ _ _ _ => pts_nil) (fun _ _ _ _ _ => (pe_tup (pa_cons (pe_op op_sub (pe_call (ok_law_draw T) (hr.mono (by decide)) (by rfl) T.g_law_draw T.F_law_draw.kp T.b_law_draw .nil pass0 (pa_cons (pv 1) (pa_cons pe_int pa_nil))) pe_int) (pa_cons (pe_call (ok_law_draw T) (hr.mono (by decide)) (by rfl) T.g_law_draw T.F_law_draw.kp T.b_law_draw .nil pass0 (pa_cons (pv 1) (pa_cons (pv 2) pa_nil))) pa_nil)))))
      (pss_cons (ps_set (i := 4) sc_law.nd rfl (Or.inl rfl) (pe_callTy call_list_of (by rfl) T.z_list bt_list (pa_cons (pv 3) pa_nil)))
      (pss_cons (ps_set (i := 5) sc_law.nd rfl (Or.inl rfl) pe_int)
      (pss_cons (ps_for PassesOwn.never rfl (pi_range1 (by rfl) T.z_range (pa_cons (pe_callB call_len_seq (by rfl) T.z_len bt_len (pa_cons (pv 3) pa_nil)) pa_nil)) (pg_name (i := 6) sc_law.nd rfl (Or.inl rfl))
      (pss_cons (ps_set (i := 7) sc_law.nd rfl (Or.inl rfl) pe_int)
      (pss_cons (ps_for PassesOwn.never rfl (pi_list (pe_slice sl_list (pv 3) po_none (po_some (pe_op op_add (pv 6) pe_int)))) (pg_tup (by rfl) (pgs_cons (pg_name (i := 8) sc_law.nd rfl (Or.inl rfl)) (pgs_cons (pg_name (i := 9) sc_law.nd rfl (Or.inl rfl)) pgs_nil)))
      (pss_one (ps_if (pt_cmpR op_gt (pv 9) pe_int (nomark _))
      (pss_one (ps_set (i := 7) sc_law.nd rfl (Or.inl rfl) (pe_op op_mul (pv 7) (pv 9))))
      pss_nil)))
      (pss_one (ps_set (i := 5) sc_law.nd rfl (Or.inl rfl) (pe_op op_add (pv 5) (pv 7)))))))
      (pss_cons (ps_set (i := 10) sc_law.nd rfl (Or.inl rfl) (pe_call (ok_measure T) (hr.mono (by decide)) (by rfl) T.g_measure T.F_measure.kp T.b_measure .nil pass0 (pa_cons (pv 4) pa_nil)))
      (pss_one (ps_ret (pe_and (pe_call (ok_law_whole T) (hr.mono (by decide)) (by rfl) T.g_law_whole T.F_law_whole.kp T.b_law_whole .nil pass0 (pa_cons (pv 10) pa_nil)) (pe_and (pe_cmpR op_eq (pv 10) (pv 5) (nomark _)) (pe_one (pe_cmpR (op_eqD hr.units) (pv 4) (pv 3) (nomark _))))))))))))))), ?_⟩
    walk_at "sw"
    refine ⟨a, ns, H, rfl, hS, Same.refl H, fun s U H1 g D n0 => ?_⟩
    have hU := g.vh
    walk_at "sw"
    refine i_cut (fun σ H' => ∃ top : Int, σ = some (.ref a) :: some (.ref s) :: some (.int top) :: List.replicate 9 none ∧ 0 < top ∧ top < 2 ^ 40 ∧ Same U H' ∧ Dr U H' s) ?_ ?_
    · walk_at "sw"
      refine ⟨s, 4, U, rfl, by decide, by decide, hU, D, fun c H3 c0 c1 hU3 D3 ho => ?_⟩
      walk_at "sw"
      refine i_ite (fun h => ?_) (fun h => ?_)
      · walk_at "sw"
        exact ⟨_, rfl, by decide, by decide, hU3, D3⟩
      · walk_at "sw"
        exact ⟨_, rfl, by decide, by decide, hU3, D3⟩
    · rintro σ H3 ⟨top, rfl, t0, t1, hU3, D3⟩
      walk_at "sw"
      refine ⟨s, 13, U, rfl, by decide, by decide, hU3, D3, fun c H4 c0 c1 hU4 D4 ho => ?_⟩
      walk_at "sw"
      refine ⟨by omega, by omega, fun C nC => c_rng (fun i H' => ∃ (U' : Hp) (as : List Addr) (rows : List (Int × Int)), Same U U' ∧ Same U' H' ∧ Dr U' H' s ∧ U' C = none ∧ H' C = some (.lst (as.map V.ref)) ∧
        Paired (fun a r => U' a = some (.tup (row2 r))) as rows ∧ rows.length = i ∧ ∀ r ∈ rows, 0 ≤ r.2 ∧ r.2 < 2 ^ 60) ?_ ?_ ?_⟩
      · exact ⟨U, [], [], Same.refl U, same_mut hU4 (hU4.free nC), D4.newM nC, hU4.free nC, upd_same, .nil, rfl, fun r h => nomatch h⟩
      · rintro i H' hi ⟨U', as, rows, e1, e2, e3, e4, e5, e6, e7, e8⟩
        walk_at "sw"
        refine ⟨rfl, ?_⟩
        walk_at "sw"
        have sC : s ≠ C := fun z => by
          subst z
          exact D4.some nC
        refine ⟨s, 100, U', rfl, by decide, by decide, e2, e3, fun x H5 x0 x1 hU5 D5 ho5 => ?_⟩
        walk_at "sw"
        refine ⟨s, top, U', rfl, by omega, by omega, hU5, D5, fun y H6 y0 y1 hU6 D6 ho6 => ?_⟩
        walk_at "sw"
        intro p np
        have h6 : H6 C = some (.lst (as.map V.ref)) := by rw [ho6 C sC.symm, ho5 C sC.symm]; exact e5
        have pC : C ≠ p := ne_of_none h6 np
        have nU : U' p = none := hU6.free np
        refine ⟨_, upd_get np h6, by rw [List.length_map, Paired.len e6, e7]; exact small1000 (by omega), ?_⟩
        refine ⟨upd U' p (.tup (row2 (x - 50, y))), as ++ [p], rows ++ [(x - 50, y)], e1.trans (same_new nU), ?_, ?_, ?_, ?_, ?_, ?_, ?_⟩
        · exact same_mut (same_both hU6) (by rw [upd_ne pC]; exact e4)
        · exact (D6.new np hU6).mut sC
        · rw [upd_ne pC]
          exact e4
        · rw [upd_same, List.map_append]
          rfl
        · exact Paired.snoc (Paired.imp (fun a r h => upd_get nU h) e6) upd_same
        · rw [List.length_append, e7]
          rfl
        · intro r hr
          rcases List.mem_append.mp hr with h | h
          · exact e8 r h
          · rw [List.mem_singleton.mp h]
            exact ⟨y0, by show y < 2 ^ 60; omega⟩
      · rintro H5 ⟨U', as, rows, e1, e2, e3, e4, e5, e6, e7, e8⟩
        walk_at "sw"
        intro l nl
        have u1 : Same (upd U' C (.lst (as.map V.ref))) H5 := same_seal e2 e5
        have nu1 : (upd U' C (.lst (as.map V.ref))) l = none := u1.free nl
        have lc : l ≠ C := fun z => by
          subst z
          rw [e5] at nl
          cases nl
        obtain ⟨U6, eU6⟩ : ∃ X, X = upd (upd U' C (.lst (as.map V.ref))) l (.lst (as.map V.ref)) := ⟨_, rfl⟩
        have uu : Same U' U6 := by
          rw [eU6]
          exact (same_new e4).trans (same_new nu1)
        have P6 : Paired (fun a r => U6 a = some (.tup (row2 r))) as rows := Paired.imp (fun a r h => uu _ _ h) e6
        have P7 : Paired (fun a r => U6 a = some (.tup r)) as (rows.map row2) := by
          exact Paired.mp P6
        have lC : U6 C = some (.lst (as.map V.ref)) := by rw [eU6, upd_ne lc.symm, upd_same]
        have ll : U6 l = some (.lst (as.map V.ref)) := by rw [eU6, upd_same]
        have h6 : Same U6 (upd H5 l (.lst (as.map V.ref))) := by
          rw [eU6]
          exact same_both u1
        have LC : LT U6 C (rows.map row2) := ⟨as, lC, P7⟩
        have Ll : LT U6 l (rows.map row2) := ⟨as, ll, P7⟩
        obtain ⟨H6, eH6⟩ : ∃ X, X = upd H5 l (.lst (as.map V.ref)) := ⟨_, rfl⟩
        rw [← eH6] at h6 ⊢
        clear eH6
        have hlen : (as.map V.ref).length = rows.length := by rw [List.length_map, Paired.len e6]
        have hc6 : H6 C = some (.lst (as.map V.ref)) := h6 _ _ lC
        walk_at "sw"
        rw [hlen]
        obtain ⟨ms, ems⟩ : ∃ X, X = rows.map (·.2) := ⟨_, rfl⟩
        refine ⟨by omega, by omega, l_rng (fun i σ H' => ∃ v6 v7 v8 v9, σ = [some (.ref a), some (.ref s), some (.int top), some (.ref C), some (.ref l), some (.int (sm ms i)), v6, v7, v8, v9, none, none] ∧ Same U6 H') ⟨_, _, _, _, rfl, h6⟩ ?_ ?_⟩
        · rintro i σ H' hi ⟨v6, v7, v8, v9, rfl, h7⟩
          have hc7 := h7 _ _ lC
          walk_at "sw"
          intro p np
          have hi1 : (0 : Int) + (i : Int) + 1 = ((i + 1 : Nat) : Int) := by omega
          rw [hi1, cut_to]
          have nu : U6 p = none := h7.free np
          have u8 := same_both (p := p) (o := .lst ((as.map V.ref).take (i + 1))) h7
          have L8 : LT (upd U6 p (.lst ((as.map V.ref).take (i + 1)))) p ((rows.take (i + 1)).map row2) := by
            refine ⟨as.take (i + 1), by rw [upd_same, List.map_take], ?_⟩
            rw [List.map_take]
            exact Paired.tk (i + 1) (Paired.imp (fun a r h => upd_get nu h) P7)
          refine ⟨p, rfl, ⟨_, SqL.of upd_same⟩, l_LT L8 (fun j σ H8 => ∃ v8 v9, σ = [some (.ref a), some (.ref s), some (.int top), some (.ref C), some (.ref l), some (.int (sm ms i)), some (.int (0 + (i : Int))), some (.int (pr (ms.take j))), v8, v9, none, none] ∧ H8 = upd H' p (.lst ((as.map V.ref).take (i + 1)))) ⟨_, _, rfl, rfl⟩ ?_ ?_ ?_⟩
          · rintro j σ H8 ⟨v8, v9, rfl, rfl⟩
            exact u8
          · rintro j r b σ H8 hr hb ⟨v8, v9, rfl, rfl⟩
            rw [List.map_take] at hr
            have hj : j < i + 1 := by
              have := (List.getElem?_eq_some_iff.mp hr).1
              rw [List.length_take] at this
              omega
            rw [List.getElem?_take_of_lt hj] at hr
            obtain ⟨x, ex, rfl⟩ := row_at hr
            obtain ⟨x0, x1⟩ := e8 x (List.mem_of_getElem? ex)
            have em : ms[j]? = some x.2 := by rw [ems, List.getElem?_map, ex]; rfl
            have ep := pr_take em
            unfold row2 at hb
            walk_at "sw"
            refine i_ite (fun h => ?_) (fun h => ?_)
            · walk_at "sw"
              refine ⟨some (.int x.1), some (.int x.2), ?_, rfl⟩
              rw [ep]
              have ez : (if x.2 > 1 then x.2 else 1) = x.2 := by split <;> omega
              rw [ez]
              rfl
            · walk_at "sw"
              refine ⟨some (.int x.1), some (.int x.2), ?_, rfl⟩
              rw [ep]
              have ez : (if x.2 > 1 then x.2 else 1) = 1 := by split <;> omega
              rw [ez, Int.mul_one]
              rfl
          · rintro σ H8 ⟨v8, v9, rfl, rfl⟩
            walk_at "sw"
            refine ⟨some (.int (0 + (i : Int))), some (.int (pr (ms.take (i + 1)))), v8, v9, ?_, same_mut h7 nu⟩
            have el : ((rows.take (i + 1)).map row2).length = i + 1 := by
              rw [List.length_map, List.length_take]
              omega
            rw [el]
            rfl
        · rintro σ H' ⟨v6, v7, v8, v9, rfl, h7⟩
          have en : (rows.length : Int).toNat = rows.length := Int.toNat_natCast _
          rw [en]
          walk_at "sw"
          refine ⟨l, rows, U6, rfl, Ll, h7, e8, ?_⟩
          rw [← ems]
          walk_at "sw"
          refine ⟨_, rfl, ⟨_, rfl⟩, ?_⟩
          walk_at "sw"
          rw [decide_eq_true rfl]
          walk_at "sw"
          have ff : ∀ r ∈ rows.map row2, ∀ v ∈ r, Dp K H' v (dV v) := by
            intro r hr v hv
            obtain ⟨x, _, rfl⟩ := List.mem_map.mp hr
            unfold row2 at hv
            simp only [List.mem_cons, List.not_mem_nil, or_false] at hv
            rcases hv with rfl | rfl <;> exact .int _
          have hsh : Lay 8 (.list ((rows.map row2).map fun r => .tuple (r.map dV))) := by
            refine (lay_list (n := 1) fun x hx => ?_).up (by decide)
            obtain ⟨r, hr, rfl⟩ := List.mem_map.mp hx
            obtain ⟨y, _, rfl⟩ := List.mem_map.mp hr
            refine lay_tuple (n := 0) fun z hz => ?_
            obtain ⟨v, hv, rfl⟩ := List.mem_map.mp hz
            unfold row2 at hv
            simp only [List.mem_cons, List.not_mem_nil, or_false] at hv
            rcases hv with rfl | rfl <;> exact lay_int
          exact i_eqT (Ll.dp h7 ff) (LC.dp h7 ff) hsh (q _)

end
theorem all_mk {l : PySem.W.OpenLaw} {w : World} {K : PySem.W.Frag} {h : Heap} {mg : Str → Option Value} {fa : Addr} (X : K.In h) (G : h.Ns mainGlobals mg) (hfa : mg "law" = some (.ref fa))
    {f0 : Addr} {od0 an0 : Option Addr} {sl0 : Array (Option Value)} {oc0 kV0 dc0 pm0 cd0 ct0 : Value}
    {f1 : Addr} {od1 an1 : Option Addr} {sl1 : Array (Option Value)} {oc1 kV1 dc1 pm1 cd1 ct1 : Value}
    {f2 : Addr} {od2 an2 : Option Addr} {sl2 : Array (Option Value)} {oc2 kV2 dc2 pm2 cd2 ct2 : Value}
    {f3 : Addr} {od3 an3 : Option Addr} {sl3 : Array (Option Value)} {oc3 kV3 dc3 pm3 cd3 ct3 : Value}
    {f4 : Addr} {od4 an4 : Option Addr} {sl4 : Array (Option Value)} {oc4 kV4 dc4 pm4 cd4 ct4 : Value}
    (a0 : PySem.W.nsIn K mainGlobals "measure" = some (some (.ref f0))) (l0 : K.lookup f0 = some ⟨oc0, od0, .func (PySem.W.fnOf "measure" "measure" (defArgs s_measure) (defBody s_measure) (defScope s_measure) .none kV0 dc0 pm0 an0 cd0 ct0), sl0⟩) (c0 : PySem.W.codeIn K cd0 "measure" = true) (k0 : PySem.W.keepIn K (.ref f0) = true)
    (a1 : PySem.W.nsIn K mainGlobals "_law_start" = some (some (.ref f1))) (l1 : K.lookup f1 = some ⟨oc1, od1, .func (PySem.W.fnOf "_law_start" "_law_start" (defArgs s_law_start) (defBody s_law_start) (defScope s_law_start) .none kV1 dc1 pm1 an1 cd1 ct1), sl1⟩) (c1 : PySem.W.codeIn K cd1 "_law_start" = true) (k1 : PySem.W.keepIn K (.ref f1) = true)
    (a2 : PySem.W.nsIn K mainGlobals "_law_draw" = some (some (.ref f2))) (l2 : K.lookup f2 = some ⟨oc2, od2, .func (PySem.W.fnOf "_law_draw" "_law_draw" (defArgs s_law_draw) (defBody s_law_draw) (defScope s_law_draw) .none kV2 dc2 pm2 an2 cd2 ct2), sl2⟩) (c2 : PySem.W.codeIn K cd2 "_law_draw" = true) (k2 : PySem.W.keepIn K (.ref f2) = true)
    (a3 : PySem.W.nsIn K mainGlobals "_law_whole" = some (some (.ref f3))) (l3 : K.lookup f3 = some ⟨oc3, od3, .func (PySem.W.fnOf "_law_whole" "_law_whole" (defArgs s_law_whole) (defBody s_law_whole) (defScope s_law_whole) .none kV3 dc3 pm3 an3 cd3 ct3), sl3⟩) (c3 : PySem.W.codeIn K cd3 "_law_whole" = true) (k3 : PySem.W.keepIn K (.ref f3) = true)
    (a4 : PySem.W.nsIn K mainGlobals "law" = some (some (.ref f4))) (l4 : K.lookup f4 = some ⟨oc4, od4, .func (PySem.W.fnOf "law" "law" (defArgs s_law) (defBody s_law) (defScope s_law) .none kV4 dc4 pm4 an4 cd4 ct4), sl4⟩) (c4 : PySem.W.codeIn K cd4 "law" = true) (k4 : PySem.W.keepIn K (.ref f4) = true)
    (z_abs : PySem.W.nsIn K mainGlobals "abs" = some none)
    (z_bool : PySem.W.nsIn K mainGlobals "bool" = some none)
    (z_int : PySem.W.nsIn K mainGlobals "int" = some none)
    (z_isinstance : PySem.W.nsIn K mainGlobals "isinstance" = some none)
    (z_len : PySem.W.nsIn K mainGlobals "len" = some none)
    (z_list : PySem.W.nsIn K mainGlobals "list" = some none)
    (z_max : PySem.W.nsIn K mainGlobals "max" = some none)
    (z_range : PySem.W.nsIn K mainGlobals "range" = some none) :
    ∃ fd : FuncData, (∀ (s : Shared) (v : Value), BindsTo s fd ⟨[v], []⟩ [("_law_script", v)]) ∧ ∀ base : Heap, K.In base → base.Ns mainGlobals mg → FnOk l.prog w K mg base CX0 2 fa fd ["_law_script"] (spLaw K) := by
  have e := hfa.symm.trans (PySem.W.mg_of X G a4)
  cases e
  have F0 := fun_mk (st := s_measure) l0 c0 k0
  have b0 := F0.binds (ps := ["chances"]) fun _ _ _ _ _ _ us hl => match us, hl with | [_], _ => rfl
  have F1 := fun_mk (st := s_law_start) l1 c1 k1
  have b1 := F1.binds (ps := ["_law_script"]) fun _ _ _ _ _ _ us hl => match us, hl with | [_], _ => rfl
  have F2 := fun_mk (st := s_law_draw) l2 c2 k2
  have b2 := F2.binds (ps := ["_law_s", "_law_many"]) fun _ _ _ _ _ _ us hl => match us, hl with | [_, _], _ => rfl
  have F3 := fun_mk (st := s_law_whole) l3 c3 k3
  have b3 := F3.binds (ps := ["_law_x"]) fun _ _ _ _ _ _ us hl => match us, hl with | [_], _ => rfl
  have F4 := fun_mk (st := s_law) l4 c4 k4
  have b4 := F4.binds (ps := ["_law_script"]) fun _ _ _ _ _ _ us hl => match us, hl with | [_], _ => rfl
  refine ⟨PySem.W.fnOf "law" "law" (defArgs s_law) (defBody s_law) (defScope s_law) .none kV4 dc4 pm4 an4 cd4 ct4, fun s v => .of_eq rfl, fun base _ _ => ?_⟩
  exact ok_law (T := ({ f_measure := f0, fd_measure := _, F_measure := F0, b_measure := b0, g_measure := PySem.W.mg_of X G a0, f_law_start := f1, fd_law_start := _, F_law_start := F1, b_law_start := b1, g_law_start := PySem.W.mg_of X G a1, f_law_draw := f2, fd_law_draw := _, F_law_draw := F2, b_law_draw := b2, g_law_draw := PySem.W.mg_of X G a2, f_law_whole := f3, fd_law_whole := _, F_law_whole := F3, b_law_whole := b3, g_law_whole := PySem.W.mg_of X G a3, f_law := fa, fd_law := _, F_law := F4, b_law := b4, g_law := PySem.W.mg_of X G a4, z_abs := PySem.W.mg_none_of X G z_abs, z_bool := PySem.W.mg_none_of X G z_bool, z_int := PySem.W.mg_none_of X G z_int, z_isinstance := PySem.W.mg_none_of X G z_isinstance, z_len := PySem.W.mg_none_of X G z_len, z_list := PySem.W.mg_none_of X G z_list, z_max := PySem.W.mg_none_of X G z_max, z_range := PySem.W.mg_none_of X G z_range } : Tx K mg))

end SW
open PySem PySem.W PyProof.Rows
set_option maxRecDepth 100000 in
set_option maxHeartbeats 0 in
theorem PySem.Challenge.cw_slotwright_k19_measure_of_cases_holds : PySem.Challenge.rw_slotwright_k19_measure_of_cases.Holds := by
  w_on; o_law; k_head; (case hw => w_witness2)
  k_fill
  refine L2.walk_ofB (l := PySem.Challenge.rw_slotwright_k19_measure_of_cases) (n := 63) (k := 2) (x := "_law_script") (CX := fun _ => L2.CX0) (sp := fun w => SW.spLaw _) rfl (by decide) rfl ⟨rfl, by decide, by decide⟩ (fun w h Y => PySem.W.kIn_of Y) ?F (fun _ _ a ns hl hb _ hS => ⟨a, ns, rfl, hS, hl, hb, fun _ => rfl⟩) (fun _ _ _ _ _ h => h)
  case F =>
    intro w mg fa h KX G hmg
    refine' SW.all_mk KX G hmg ?a0 ?l0 ?c0 ?k0 ?a1 ?l1 ?c1 ?k1 ?a2 ?l2 ?c2 ?k2 ?a3 ?l3 ?c3 ?k3 ?a4 ?l4 ?c4 ?k4 ?z_abs ?z_bool ?z_int ?z_isinstance ?z_len ?z_list ?z_max ?z_range
    (case a0 => k_is)
    (case l0 => k_is)
    (case c0 => k_is)
    (case k0 => k_is)
    (case a1 => k_is)
    (case l1 => k_is)
    (case c1 => k_is)
    (case k1 => k_is)
    (case a2 => k_is)
    (case l2 => k_is)
    (case c2 => k_is)
    (case k2 => k_is)
    (case a3 => k_is)
    (case l3 => k_is)
    (case c3 => k_is)
    (case k3 => k_is)
    (case a4 => k_is)
    (case l4 => k_is)
    (case c4 => k_is)
    (case k4 => k_is)
    (case z_abs => k_is)
    (case z_bool => k_is)
    (case z_int => k_is)
    (case z_isinstance => k_is)
    (case z_len => k_is)
    (case z_list => k_is)
    (case z_max => k_is)
    (case z_range => k_is)
#print axioms PySem.Challenge.cw_slotwright_k19_measure_of_cases_holds

