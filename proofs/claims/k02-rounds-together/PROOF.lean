import PyProof.Rows.All
import Wide.All
import OpenK.AllK
import Wide.FinOn
import HandS.ForMost
import HandS.Wide
import HandS.IsInst
import HandS.EndBits
import HandS.Flow
import PySem.Challenge.RW_slotwright_k02_rounds_together
set_option Elab.async false
set_option linter.all false
set_option maxRecDepth 100000
set_option maxHeartbeats 4000000

namespace SW
open PySem L2
/-! ### heaps by a view: U is what never changes, H is all -/
theorem same_new {U : Hp} {p : Addr} {o : HO} (h : U p = none) : Same U (upd U p o) := fun b x e => by
  rw [upd_ne (ne_of_none e h)]
  exact e
theorem same_mut {U H : Hp} {p : Addr} {o : HO} (e : Same U H) (h : U p = none) : Same U (upd H p o) := fun a u ha => by
  rw [upd_ne (ne_of_none ha h)]
  exact e a u ha
theorem same_back {U H : Hp} {p : Addr} (e : Same U H) (h : H p = none) : U p = none := e.free h
theorem upd_get {H : Hp} {p a : Addr} {o x : HO} (n : H p = none) (h : H a = some x) : upd H p o a = some x := by
  rw [upd_ne (ne_of_none h n)]
  exact h
structure Gr (M : List Addr) (U H U' H' : Hp) : Prop where
  vv : Same U U'
  vh : Same U' H'
  hh : ∀ a o, a ∉ M → H a = some o → H' a = some o
  dom : ∀ a, H a ≠ none → H' a ≠ none
  fr : ∀ a, U a = none → H a ≠ none → U' a = none
theorem Gr.refl {M : List Addr} {U H : Hp} (e : Same U H) : Gr M U H U H := ⟨Same.refl _, e, fun _ _ _ h => h, fun _ h => h, fun _ h _ => h⟩
theorem Gr.trans {M : List Addr} {U0 H0 U1 H1 U2 H2 : Hp} (a : Gr M U0 H0 U1 H1) (b : Gr M U1 H1 U2 H2) : Gr M U0 H0 U2 H2 :=
  ⟨a.vv.trans b.vv, b.vh, fun x o m h => b.hh x o m (a.hh x o m h), fun x h => b.dom x (a.dom x h), fun x h k => b.fr x (a.fr x h k) (a.dom x k)⟩
theorem Gr.weak {M N : List Addr} {U0 H0 U1 H1 : Hp} (a : Gr M U0 H0 U1 H1) (s : ∀ x, x ∈ M → x ∈ N) : Gr N U0 H0 U1 H1 :=
  ⟨a.vv, a.vh, fun x o m h => a.hh x o (fun z => m (s x z)) h, a.dom, a.fr⟩
theorem Gr.any {N : List Addr} {U0 H0 U1 H1 : Hp} (a : Gr [] U0 H0 U1 H1) : Gr N U0 H0 U1 H1 := a.weak fun _ h => nomatch h
/-- a new object that never changes -/
theorem Gr.new {M : List Addr} {U0 H0 U H : Hp} {p : Addr} {o : HO} (g : Gr M U0 H0 U H) (n : H p = none) : Gr M U0 H0 (upd U p o) (upd H p o) := by
  have nu : U p = none := g.vh.free n
  have n0 : H0 p = none := by
    cases e : H0 p with
    | none => rfl
    | some x => exact absurd n (g.dom p (by rw [e]; intro z; cases z))
  refine ⟨g.vv.trans (same_new nu), fun a x h => ?_, fun a x m h => ?_, fun a h => ?_, fun a h k => ?_⟩
  · by_cases e : a = p
    · subst e
      rw [upd_same] at h ⊢
      exact h
    · rw [upd_ne e] at h ⊢
      exact g.vh a x h
  · rw [upd_ne (ne_of_none h n0)]
    exact g.hh a x m h
  · by_cases e : a = p
    · subst e
      rw [upd_same]
      intro z
      cases z
    · rw [upd_ne e]
      exact g.dom a h
  · have e : a ≠ p := fun z => by
      subst z
      exact k n0
    rw [upd_ne e]
    exact g.fr a h k
/-- a new object that will change -/
theorem Gr.newM {M : List Addr} {U0 H0 U H : Hp} {p : Addr} {o : HO} (g : Gr M U0 H0 U H) (n : H p = none) : Gr M U0 H0 U (upd H p o) := by
  have nu : U p = none := g.vh.free n
  refine ⟨g.vv, same_mut g.vh nu, fun a x m h => ?_, fun a h => ?_, g.fr⟩
  · rw [upd_ne (ne_of_none (g.hh a x m h) n)]
    exact g.hh a x m h
  · by_cases e : a = p
    · subst e
      rw [upd_same]
      intro z
      cases z
    · rw [upd_ne e]
      exact g.dom a h
/-- an object outside of the view changes: one of M, or one that is newer than H0 -/
theorem Gr.mut {M : List Addr} {U0 H0 U H : Hp} {p : Addr} {o : HO} (g : Gr M U0 H0 U H) (nu : U p = none) (n0 : p ∈ M ∨ H0 p = none) : Gr M U0 H0 U (upd H p o) := by
  refine ⟨g.vv, same_mut g.vh nu, fun a x m h => ?_, fun a h => ?_, g.fr⟩
  · have e : a ≠ p := fun z => by
      subst z
      rcases n0 with n0 | n0
      · exact m n0
      · rw [n0] at h
        cases h
    rw [upd_ne e]
    exact g.hh a x m h
  · by_cases e : a = p
    · subst e
      rw [upd_same]
      intro z
      cases z
    · rw [upd_ne e]
      exact g.dom a h
/-- what will change no more comes into the view -/
theorem Gr.seal {M : List Addr} {U0 H0 U H : Hp} {p : Addr} {o : HO} (g : Gr M U0 H0 U H) (h : H p = some o) (nu : U p = none) (n0 : H0 p = none) : Gr M U0 H0 (upd U p o) H := by
  refine ⟨g.vv.trans (same_new nu), fun a x e => ?_, g.hh, g.dom, fun a e k => ?_⟩
  · by_cases z : a = p
    · subst z
      rw [upd_same] at e
      rw [h]
      exact e
    · rw [upd_ne z] at e
      exact g.vh a x e
  · have z : a ≠ p := fun z => by
      subst z
      exact k n0
    rw [upd_ne z]
    exact g.fr a e k
theorem Gr.fresh {M : List Addr} {U0 H0 U H : Hp} {p : Addr} (g : Gr M U0 H0 U H) (n : H p = none) : H0 p = none := by
  cases e : H0 p with
  | none => rfl
  | some x => exact absurd n (g.dom p (by rw [e]; intro z; cases z))
/-! ### the readings, step by step -/
section
variable {σ : L2.St} {H : Hp} {Q : VK} {te ta tb tc : TE} {i : Nat} {v x y : V} {K : PySem.W.Frag} {n bk ct : L2.St → Hp → Prop} {rt : VK} {t u : TS} {g : TG}
theorem i_var (h : σ[i]? = some (some v)) (q : Q v H) : tVar i σ H Q := ⟨v, h, q⟩
theorem i_c (q : Q v H) : tC v σ H Q := q
theorem i_op {r : R2} (q : ta σ H (fun x H1 => tb σ H1 fun y H2 => r x y H2 Q)) : tOp r ta tb σ H Q := q
theorem i_un {r : V → Hp → VK → Prop} (q : ta σ H (fun x H1 => r x H1 Q)) : tUn r ta σ H Q := q
theorem i_rI0 {f : Int → Int → V} {a b : Int} (q : Q (f a b) H) : rI0 f (.int a) (.int b) H Q := ⟨a, b, rfl, rfl, q⟩
theorem i_rI {C : Int → Int → Prop} {f : Int → Int → V} {a b : Int} (c : C a b) (q : Q (f a b) H) : rI C f (.int a) (.int b) H Q := ⟨a, b, rfl, rfl, c, q⟩
theorem i_mulR {f : Int → Int → V} {a b : Int} (h0 : -(2 ^ 64) < b) (h1 : b < 2 ^ 64) (q : Q (f a b) H) : rI CMul f (.int a) (.int b) H Q := ⟨a, b, rfl, rfl, .inr ⟨h0, h1⟩, q⟩
theorem i_mulL {f : Int → Int → V} {a b : Int} (h0 : -(2 ^ 64) < a) (h1 : a < 2 ^ 64) (q : Q (f a b) H) : rI CMul f (.int a) (.int b) H Q := ⟨a, b, rfl, rfl, .inl ⟨h0, h1⟩, q⟩
theorem i_rU {f : Int → V} {a : Int} (q : Q (f a) H) : rU f (.int a) H Q := ⟨a, rfl, q⟩
theorem i_eqI {a b : Int} (q : Q (.bl (decide (a = b))) H) : rEq (.int a) (.int b) H Q := ⟨rfl, by
  have e : decide (V.int a = V.int b) = decide (a = b) := by
    by_cases h : a = b
    · rw [decide_eq_true h, decide_eq_true (congrArg V.int h)]
    · rw [decide_eq_false h, decide_eq_false (fun z => h (V.int.inj z))]
  show Q (.bl (decide (V.int a = V.int b))) H
  rw [e]
  exact q⟩
theorem i_neI {a b : Int} (q : Q (.bl (!decide (a = b))) H) : rNe (.int a) (.int b) H Q := ⟨rfl, by
  have e : decide (V.int a = V.int b) = decide (a = b) := by
    by_cases h : a = b
    · rw [decide_eq_true h, decide_eq_true (congrArg V.int h)]
    · rw [decide_eq_false h, decide_eq_false (fun z => h (V.int.inj z))]
  show Q (.bl (!decide (V.int a = V.int b))) H
  rw [e]
  exact q⟩
theorem i_eqS {a b : Str} (q : Q (.bl (decide (a = b))) H) : rEq (.str a) (.str b) H Q := ⟨rfl, by
  have e : decide (V.str a = V.str b) = decide (a = b) := by
    by_cases h : a = b
    · rw [decide_eq_true h, decide_eq_true (congrArg V.str h)]
    · rw [decide_eq_false h, decide_eq_false (fun z => h (V.str.inj z))]
  show Q (.bl (decide (V.str a = V.str b))) H
  rw [e]
  exact q⟩
theorem i_neS {a b : Str} (q : Q (.bl (!decide (a = b))) H) : rNe (.str a) (.str b) H Q := ⟨rfl, by
  have e : decide (V.str a = V.str b) = decide (a = b) := by
    by_cases h : a = b
    · rw [decide_eq_true h, decide_eq_true (congrArg V.str h)]
    · rw [decide_eq_false h, decide_eq_false (fun z => h (V.str.inj z))]
  show Q (.bl (!decide (V.str a = V.str b))) H
  rw [e]
  exact q⟩
theorem i_nil {R : List V → Hp → Prop} (q : R [] H) : tNil σ H R := q
theorem i_cons {R : List V → Hp → Prop} {tr : TA} (q : ta σ H (fun x H1 => tr σ H1 fun xs H2 => R (x :: xs) H2)) : tCons ta tr σ H R := q
theorem i_cb {r : List V → Hp → VK → Prop} {tr : TA} (q : tr σ H (fun vs H1 => r vs H1 Q)) : tCB r tr σ H Q := q
theorem i_call {sp : Sp} {dvs : List V} {E : XK} {tr : TA} (q : tr σ H (fun vs H1 => sp (vs ++ dvs) H1 Q E)) : tCall sp dvs E tr σ H Q := q
theorem i_seq (q : t ⟨u ⟨n, rt, bk, ct⟩, rt, bk, ct⟩ σ H) : tSeq t u ⟨n, rt, bk, ct⟩ σ H := q
theorem i_next (q : n σ H) : tNext ⟨n, rt, bk, ct⟩ σ H := q
theorem i_brk (q : bk σ H) : tBreak ⟨n, rt, bk, ct⟩ σ H := q
theorem i_cont (q : ct σ H) : tCont ⟨n, rt, bk, ct⟩ σ H := q
theorem i_set (q : te σ H (fun x H1 => n (σ.set i (some x)) H1)) : tAsg te (gName i) ⟨n, rt, bk, ct⟩ σ H := q
theorem i_asg (q : te σ H (fun x H1 => g x σ H1 n)) : tAsg te g ⟨n, rt, bk, ct⟩ σ H := q
theorem i_drop (q : te σ H (fun _ H1 => n σ H1)) : tDrop te ⟨n, rt, bk, ct⟩ σ H := q
theorem i_ret (q : te σ H rt) : tRet te ⟨n, rt, bk, ct⟩ σ H := q
theorem i_retN (q : rt .non H) : tRetN ⟨n, rt, bk, ct⟩ σ H := q
theorem i_if {c : TT} (q : c σ H (fun b H1 => if b = true then t ⟨n, rt, bk, ct⟩ σ H1 else u ⟨n, rt, bk, ct⟩ σ H1)) : tIfS c t u ⟨n, rt, bk, ct⟩ σ H := q
theorem i_test {R : Bool → Hp → Prop} (q : te σ H (fun x H1 => ∃ k, x = .bl k ∧ R k H1)) : tTest te σ H R := q
theorem i_B {R : Bool → Hp → Prop} (q : te σ H (fun x H1 => ∃ k, x = .bl k ∧ R k H1)) : tB te σ H R := q
theorem i_bl {b : Bool} {R : Bool → Hp → Prop} (q : R b H) : ∃ k, V.bl b = .bl k ∧ R k H := ⟨b, rfl, q⟩
theorem i_not {c : TT} {R : Bool → Hp → Prop} (q : c σ H (fun b H1 => R (!b) H1)) : tNot c σ H R := q
theorem i_and {c d : TT} {R : Bool → Hp → Prop} (q : c σ H (fun b H1 => if b = true then d σ H1 R else R false H1)) : tAnd c d σ H R := q
theorem i_or {c d : TT} {R : Bool → Hp → Prop} (q : c σ H (fun b H1 => if b = true then R true H1 else d σ H1 R)) : tOr c d σ H R := q
theorem i_andV (q : ta σ H (fun x H1 => ∃ c, x = .bl c ∧ if c = true then tb σ H1 Q else Q (.bl false) H1)) : tAndV ta tb σ H Q := q
theorem i_orV (q : ta σ H (fun x H1 => ∃ c, x = .bl c ∧ if c = true then Q (.bl true) H1 else tb σ H1 Q)) : tOrV ta tb σ H Q := q
theorem i_notV (q : ta σ H (fun x H1 => ∃ c, x = .bl c ∧ Q (.bl (!c)) H1)) : tNotV ta σ H Q := q
theorem i_blV {b : Bool} {R : Bool → Prop} (q : R b) : ∃ k, V.bl b = .bl k ∧ R k := ⟨b, rfl, q⟩
theorem i_ifE {c : TT} (q : c σ H (fun b H1 => if b = true then ta σ H1 Q else tb σ H1 Q)) : tIf c ta tb σ H Q := q
theorem i_chain {r r' : R2} (q : ta σ H fun x H1 => tb σ H1 fun y H2 => r x y H2 fun z H3 => ∃ k, z = .bl k ∧ (if k = true then tc σ H3 fun w' H4 => r' y w' H4 Q else Q (.bl false) H3)) : tChain r r' ta tb tc σ H Q := q
theorem i_itT {A B : Prop} (q : A) : if true = true then A else B := by rw [if_pos rfl]; exact q
theorem i_itF {A B : Prop} (q : B) : if false = true then A else B := by rw [if_neg Bool.false_ne_true]; exact q
theorem i_ite {p : Prop} [Decidable p] {A B : Prop} (h1 : p → A) (h2 : ¬ p → B) : if decide p = true then A else B := by
  by_cases h : p
  · rw [decide_eq_true h, if_pos rfl]; exact h1 h
  · rw [decide_eq_false h, if_neg Bool.false_ne_true]; exact h2 h
theorem i_iteN {p : Prop} [Decidable p] {A B : Prop} (h1 : ¬ p → A) (h2 : p → B) : if (!decide p) = true then A else B := by
  by_cases h : p
  · rw [decide_eq_true h]; exact i_itF (h2 h)
  · rw [decide_eq_false h]; exact i_itT (h1 h)
theorem i_iteNT {A B : Prop} (q : B) : if (!true) = true then A else B := i_itF q
theorem i_iteNF {A B : Prop} (q : A) : if (!false) = true then A else B := i_itT q
theorem i_iteNN {b : Bool} {A B : Prop} (q : if b = true then A else B) : if (!!b) = true then A else B := by rw [Bool.not_not]; exact q
theorem i_ixL {p : Addr} {xs : List V} {k : Int} (h : H p = some (.lst xs)) (ha : atI xs k = some v) (q : Q v H) : rIxL K (.ref p) (.int k) H Q := ⟨p, xs, k, v, rfl, rfl, SqL.of h, ha, q⟩
theorem i_ixT {p : Addr} {xs : List V} {k : Int} (h : H p = some (.tup xs)) (ha : atI xs k = some v) (q : Q v H) : rIxT K (.ref p) (.int k) H Q := ⟨p, xs, k, v, rfl, rfl, SqT.of h, ha, q⟩
theorem i_sub {to ti : TE} {s : TSet} {R : L2.St → Hp → Prop} (q : to σ H fun o H1 => ti σ H1 fun j H2 => s o j v H2 fun H3 => R σ H3) : gSub to ti s v σ H R := q
theorem i_setL {p : Addr} {xs : List V} {k : Int} {j : Nat} {R : Hp → Prop} (h : H p = some (.lst xs)) (hk : ixN xs.length k = some j) (q : R (upd H p (.lst (xs.set j v)))) : rSetL (.ref p) (.int k) v H R := ⟨p, xs, k, j, rfl, rfl, h, hk, q⟩
theorem i_lst {tr : TA} (q : tr σ H fun xs H1 => xs.length ≤ sizeLine ∧ ∀ p, H1 p = none → Q (.ref p) (upd H1 p (.lst xs))) : tLst tr σ H Q := q
theorem i_tup {tr : TA} (q : tr σ H fun xs H1 => xs.length ≤ sizeLine ∧ ∀ p, H1 p = none → Q (.ref p) (upd H1 p (.tup xs))) : tTup tr σ H Q := q
theorem i_sl {r : V → Option Int → Option Int → Hp → VK → Prop} {tl th : TO} (q : te σ H fun x H1 => tl σ H1 fun l H2 => th σ H2 fun u H3 => r x l u H3 Q) : tSl r te tl th σ H Q := q
theorem i_nopart {R : Option Int → Hp → Prop} (q : R none H) : tNoPart σ H R := q
theorem i_part {R : Option Int → Hp → Prop} (q : te σ H fun x H1 => ∃ i, x = .int i ∧ R (some i) H1) : tPart te σ H R := q
theorem i_partE {k : Int} {R : Int → Prop} (q : R k) : ∃ i, V.int k = .int i ∧ R i := ⟨k, rfl, q⟩
theorem i_slL {a : Addr} {xs : List V} {lo hi : Option Int} (h : H a = some (.lst xs)) (q : ∀ p, H p = none → Q (.ref p) (upd H p (.lst (cutV xs lo hi)))) : rSlL K (.ref a) lo hi H Q := ⟨a, xs, rfl, SqL.of h, q⟩
theorem i_all {a : Addr} {bs : List Bool} (h : H a = some (.lst (bs.map V.bl))) (q : Q (.bl (bs.all id)) H) : rAll K [.ref a] H Q := ⟨a, bs, rfl, SqL.of h, q⟩
theorem i_any {a : Addr} {bs : List Bool} (h : H a = some (.lst (bs.map V.bl))) (q : Q (.bl (bs.any id)) H) : rAny K [.ref a] H Q := ⟨a, bs, rfl, SqL.of h, q⟩
theorem i_sum {a : Addr} {ns : List Int} (h : H a = some (.lst (ns.map V.int))) (q : Q (.int ns.sum) H) : rSum K [.ref a] H Q := ⟨a, ns, rfl, SqL.of h, q⟩
theorem i_abs {a : Int} (q : Q (.int (if a < 0 then -a else a)) H) : (fun (xs : List V) (H : Hp) (Q : VK) => ∃ i, xs = [.int i] ∧ Q (.int (if i < 0 then -i else i)) H) [.int a] H Q := ⟨a, rfl, q⟩
end
/-! ### loops -/
def LOOP (J : It) (g : TG) (tb : TS) (D : Ends) (σ : L2.St) (H : Hp) : Prop := ∃ W : Nat → Nat → L2.St → Hp → Prop, (∃ m, W 0 m σ H) ∧ ∀ i m σ H, W i m σ H →
  (J.stop i H ∧ D.nx σ H) ∨ (J.go i H ∧ ∃ N : L2.St → Hp → Prop, (∀ σ' H', N σ' H' → ∃ m', m' < m ∧ W (i + 1) m' σ' H') ∧ ∀ x H', J.yld i H x H' → g x σ H' fun σ2 H2 => tb { D with nx := N, ct := N, bk := D.nx } σ2 H2)
section
variable {σ : L2.St} {H : Hp} {K : PySem.W.Frag} {n bk ct : L2.St → Hp → Prop} {rt : VK} {tb : TS} {g : TG} {te : TE} {ta : TA}
theorem i_for1 (q : ta σ H fun vs H1 => ∃ j : Int, vs = [.int j] ∧ -(2 ^ 62) ≤ j ∧ j < 2 ^ 62 ∧ LOOP (Itr 0 j.toNat) g tb ⟨n, rt, bk, ct⟩ σ H1) : tFor (iRng1 ta) g tb ⟨n, rt, bk, ct⟩ σ H := q
theorem i_for2 (q : ta σ H fun vs H1 => ∃ i j : Int, vs = [.int i, .int j] ∧ (-(2 ^ 62) ≤ i ∧ i < 2 ^ 62 ∧ -(2 ^ 62) ≤ j ∧ j < 2 ^ 62) ∧ LOOP (Itr i (j - i).toNat) g tb ⟨n, rt, bk, ct⟩ σ H1) : tFor (iRng2 ta) g tb ⟨n, rt, bk, ct⟩ σ H := q
theorem i_forL (q : te σ H fun x H1 => ∃ a, x = .ref a ∧ (∃ xs, SqL K H1 a xs) ∧ LOOP (Itl K a) g tb ⟨n, rt, bk, ct⟩ σ H1) : tFor (iList K te) g tb ⟨n, rt, bk, ct⟩ σ H := q
theorem i_forT (q : te σ H fun x H1 => ∃ a, x = .ref a ∧ (∃ xs, SqT K H1 a xs) ∧ LOOP (Itt K a) g tb ⟨n, rt, bk, ct⟩ σ H1) : tFor (iTup K te) g tb ⟨n, rt, bk, ct⟩ σ H := q
theorem l_rng {lo : Int} {m : Nat} (Pv : Nat → L2.St → Hp → Prop) (h0 : Pv 0 σ H) (hs : ∀ i σ H, i < m → Pv i σ H → g (.int (lo + i)) σ H fun σ2 H2 => tb ⟨Pv (i + 1), rt, n, Pv (i + 1)⟩ σ2 H2) (hd : ∀ σ H, Pv m σ H → n σ H) :
    LOOP (Itr lo m) g tb ⟨n, rt, bk, ct⟩ σ H := for_range Pv h0 hs hd
theorem l_lst {a : Addr} {xs : List V} (Pv : Nat → L2.St → Hp → Prop) (h0 : Pv 0 σ H) (hl : ∀ i σ H, i ≤ xs.length → Pv i σ H → SqL K H a xs)
    (hs : ∀ i x σ H, xs[i]? = some x → Pv i σ H → g x σ H fun σ2 H2 => tb ⟨Pv (i + 1), rt, n, Pv (i + 1)⟩ σ2 H2) (hd : ∀ σ H, Pv xs.length σ H → n σ H) : LOOP (Itl K a) g tb ⟨n, rt, bk, ct⟩ σ H := for_list Pv h0 hl hs hd
theorem l_tup {a : Addr} {xs : List V} (Pv : Nat → L2.St → Hp → Prop) (h0 : Pv 0 σ H) (hl : ∀ i σ H, i ≤ xs.length → Pv i σ H → SqT K H a xs)
    (hs : ∀ i x σ H, xs[i]? = some x → Pv i σ H → g x σ H fun σ2 H2 => tb ⟨Pv (i + 1), rt, n, Pv (i + 1)⟩ σ2 H2) (hd : ∀ σ H, Pv xs.length σ H → n σ H) : LOOP (Itt K a) g tb ⟨n, rt, bk, ct⟩ σ H := for_tup Pv h0 hl hs hd
theorem i_while {c : TT} (W : Nat → L2.St → Hp → Prop) (m : Nat) (w0 : W m σ H) (hs : ∀ m σ H, W m σ H → c σ H fun b H1 => if b = true then ∃ N : L2.St → Hp → Prop, (∀ σ' H', N σ' H' → ∃ m', m' < m ∧ W m' σ' H') ∧ tb ⟨N, rt, n, N⟩ σ H1 else n σ H1) :
    tWhile c tb ⟨n, rt, bk, ct⟩ σ H := ⟨W, ⟨m, w0⟩, hs⟩
theorem i_par {i j : Nat} (q : ta σ H fun vs H1 => ∃ v w, vs = [v, w] ∧ n ((σ.set i (some v)).set j (some w)) H1) : tPar i j ta ⟨n, rt, bk, ct⟩ σ H := q
theorem i_parE {x y : V} {R : V → V → Prop} (q : R x y) : ∃ v w, [x, y] = [v, w] ∧ R v w := ⟨x, y, rfl, q⟩
theorem i_aug {i : Nat} {ti : TIp} {x : V} (h : σ[i]? = some (some x)) (q : te σ H fun y H1 => ti x y H1 fun z H2 => n (σ.set i (some z)) H2) : tAug i te ti ⟨n, rt, bk, ct⟩ σ H := ⟨_, h, q⟩
theorem i_ipI {f : Int → Int → Int} {a b : Int} {Q : VK} (q : Q (.int (f a b)) H) : ipI f (.int a) (.int b) H Q := ⟨a, b, rfl, rfl, q⟩
theorem ip_mul {X : Cx} : PIp X .Mult (rI CMul fun i j => .int (i * j)) := fun pins s σ H x y v u Q I rx ry h => iop_mul pins s σ H x y v u Q I rx ry h
theorem i_asg2 {g1 g2 : TG} (q : te σ H fun x H1 => g1 x σ H1 fun σ1 H2 => g2 x σ1 H2 n) : tAsg2 te g1 g2 ⟨n, rt, bk, ct⟩ σ H := q
theorem i_gtup {a : Addr} {xs : List V} {k : Nat} {tg : TGs} {R : L2.St → Hp → Prop} (h : H a = some (.tup xs)) (hl : xs.length = k) (q : tg xs σ H R) : gTup K k tg (.ref a) σ H R := ⟨a, xs, rfl, SqT.of h, hl, q⟩
theorem i_gcons {v : V} {r : List V} {tg : TGs} {R : L2.St → Hp → Prop} (q : g v σ H fun σ' H' => tg r σ' H' R) : gCons g tg (v :: r) σ H R := ⟨v, r, rfl, q⟩
theorem i_gnil {R : L2.St → Hp → Prop} (q : R σ H) : gNil [] σ H R := ⟨rfl, q⟩
theorem i_gname {i : Nat} {x : V} {R : L2.St → Hp → Prop} (q : R (σ.set i (some x)) H) : gName i x σ H R := q
end
/-! ### a word between a statement and what follows -/
def tCut (t u : TS) : TS := fun D σ H => ∃ Mid : L2.St → Hp → Prop, t { D with nx := Mid } σ H ∧ ∀ σ' H', Mid σ' H' → u D σ' H'
theorem pss_cut {X : Cx} {st : Stmt} {rest : List Stmt} {t u : TS} (h1 : PS X st t) (h2 : PSs X rest u) : PSs X (st :: rest) (tCut t u) := by
  refine ⟨fun pins s σ H D I h => ?_⟩
  obtain ⟨M, hm, hu⟩ := h
  refine wpAny_execs_cons (thn (h1.run pins s σ H { D with nx := M } I hm) fun f s1 z => ?_)
  cases f with
  | next =>
    obtain ⟨a, b, c, z⟩ := z
    exact h2.run pins s1 a b D c (hu a b z)
  | ret v => exact z
  | brk => exact z
  | cont => exact z
theorem i_cut {σ : L2.St} {H : Hp} {n bk ct : L2.St → Hp → Prop} {rt : VK} {t u : TS} (Mid : L2.St → Hp → Prop) (h : t ⟨Mid, rt, bk, ct⟩ σ H) (k : ∀ σ' H', Mid σ' H' → u ⟨n, rt, bk, ct⟩ σ' H') : tCut t u ⟨n, rt, bk, ct⟩ σ H := ⟨Mid, h, k⟩
/-- the same for a value and for a test -/
def tCutE (t : TE) : TE := fun σ H Q => ∃ Mid : VK, t σ H Mid ∧ ∀ v H', Mid v H' → Q v H'
theorem pe_cut {X : Cx} {e : Expr} {t : TE} (h : PE X e t) : PE X e (tCutE t) := by
  refine ⟨fun pins s σ H Q I q => ?_⟩
  obtain ⟨M, hm, hu⟩ := q
  exact thn (h.run pins s σ H M I hm) fun v s1 ⟨x, H1, I1, r1, z⟩ => ⟨x, H1, I1, r1, hu _ _ z⟩
theorem i_cutE {σ : L2.St} {H : Hp} {Q : VK} {t : TE} (Mid : VK) (h : t σ H Mid) (k : ∀ v H', Mid v H' → Q v H') : tCutE t σ H Q := ⟨Mid, h, k⟩
def tCutT (t : TT) : TT := fun σ H Q => ∃ Mid : Bool → Hp → Prop, t σ H Mid ∧ ∀ v H', Mid v H' → Q v H'
theorem pt_cut {X : Cx} {e : Expr} {t : TT} (h : PT X e t) : PT X e (tCutT t) := by
  refine ⟨fun pins s σ H Q I q => ?_⟩
  obtain ⟨M, hm, hu⟩ := q
  exact thn (h.run pins s σ H M I hm) fun v s1 ⟨H1, I1, z⟩ => ⟨H1, I1, hu _ _ z⟩
theorem i_cutT {σ : L2.St} {H : Hp} {Q : Bool → Hp → Prop} {t : TT} (Mid : Bool → Hp → Prop) (h : t σ H Mid) (k : ∀ v H', Mid v H' → Q v H') : tCutT t σ H Q := ⟨Mid, h, k⟩
/-! ### comprehensions -/
def COMP (J : It) (g : TG) (tt : TT) (te : TE) (vs : List Nat) (σ : L2.St) (H1 : Hp) (D : Addr) (Q : VK) : Prop := ∃ W : Nat → Nat → Hp → Prop, (∃ m, W 0 m (upd H1 D (.lst []))) ∧ ∀ i m H, W i m H →
  (J.stop i H ∧ Q (.ref D) H) ∨ (J.go i H ∧ ∃ Nx : Hp → Prop, (∀ H', Nx H' → ∃ m', m' < m ∧ W (i + 1) m' H') ∧ ∀ x H', J.yld i H x H' → g x (wipe σ vs) H' fun σ2 H2 => wipe σ2 vs = wipe σ vs ∧ tt σ2 H2 fun b H3 =>
    if b = true then te σ2 H3 fun y H4 => ∃ acc, H4 D = some (.lst acc) ∧ acc.length < sizeLine ∧ Nx (upd H4 D (.lst (acc ++ [y]))) else Nx H3)
section
variable {σ : L2.St} {H : Hp} {K : PySem.W.Frag} {Q : VK} {g : TG} {tt : TT} {te tl : TE} {ta : TA} {vs : List Nat}
theorem i_lc1 (q : ta σ H fun us H1 => ∃ j : Int, us = [.int j] ∧ -(2 ^ 62) ≤ j ∧ j < 2 ^ 62 ∧ ∀ D, H1 D = none → COMP (Itr 0 j.toNat) g tt te vs σ H1 D Q) : tLc (iRng1 ta) g tt te vs σ H Q := q
theorem i_lc2 (q : ta σ H fun us H1 => ∃ i j : Int, us = [.int i, .int j] ∧ (-(2 ^ 62) ≤ i ∧ i < 2 ^ 62 ∧ -(2 ^ 62) ≤ j ∧ j < 2 ^ 62) ∧ ∀ D, H1 D = none → COMP (Itr i (j - i).toNat) g tt te vs σ H1 D Q) : tLc (iRng2 ta) g tt te vs σ H Q := q
theorem i_lcL (q : tl σ H fun x H1 => ∃ a, x = .ref a ∧ (∃ xs, SqL K H1 a xs) ∧ ∀ D, H1 D = none → COMP (Itl K a) g tt te vs σ H1 D Q) : tLc (iList K tl) g tt te vs σ H Q := q
theorem i_lcT (q : tl σ H fun x H1 => ∃ a, x = .ref a ∧ (∃ xs, SqT K H1 a xs) ∧ ∀ D, H1 D = none → COMP (Itt K a) g tt te vs σ H1 D Q) : tLc (iTup K tl) g tt te vs σ H Q := q
theorem c_rng {lo : Int} {n : Nat} {D : Addr} (Pv : Nat → Hp → Prop) (h0 : Pv 0 (upd H D (.lst [])))
    (hs : ∀ i H, i < n → Pv i H → g (.int (lo + i)) (wipe σ vs) H fun σ2 H2 => wipe σ2 vs = wipe σ vs ∧ tt σ2 H2 fun b H3 =>
      if b = true then te σ2 H3 fun y H4 => ∃ acc, H4 D = some (.lst acc) ∧ acc.length < sizeLine ∧ Pv (i + 1) (upd H4 D (.lst (acc ++ [y]))) else Pv (i + 1) H3) (hd : ∀ H, Pv n H → Q (.ref D) H) :
    COMP (Itr lo n) g tt te vs σ H D Q := lc_range Pv h0 hs hd
theorem c_lst {a D : Addr} {xs : List V} (Pv : Nat → Hp → Prop) (h0 : Pv 0 (upd H D (.lst []))) (hl : ∀ i H, i ≤ xs.length → Pv i H → SqL K H a xs)
    (hs : ∀ i x H, xs[i]? = some x → Pv i H → g x (wipe σ vs) H fun σ2 H2 => wipe σ2 vs = wipe σ vs ∧ tt σ2 H2 fun b H3 =>
      if b = true then te σ2 H3 fun y H4 => ∃ acc, H4 D = some (.lst acc) ∧ acc.length < sizeLine ∧ Pv (i + 1) (upd H4 D (.lst (acc ++ [y]))) else Pv (i + 1) H3) (hd : ∀ H, Pv xs.length H → Q (.ref D) H) :
    COMP (Itl K a) g tt te vs σ H D Q := lc_list Pv h0 hl hs hd
theorem c_tup {a D : Addr} {xs : List V} (Pv : Nat → Hp → Prop) (h0 : Pv 0 (upd H D (.lst []))) (hl : ∀ i H, i ≤ xs.length → Pv i H → SqT K H a xs)
    (hs : ∀ i x H, xs[i]? = some x → Pv i H → g x (wipe σ vs) H fun σ2 H2 => wipe σ2 vs = wipe σ vs ∧ tt σ2 H2 fun b H3 =>
      if b = true then te σ2 H3 fun y H4 => ∃ acc, H4 D = some (.lst acc) ∧ acc.length < sizeLine ∧ Pv (i + 1) (upd H4 D (.lst (acc ++ [y]))) else Pv (i + 1) H3) (hd : ∀ H, Pv xs.length H → Q (.ref D) H) :
    COMP (Itt K a) g tt te vs σ H D Q := lc_tup Pv h0 hl hs hd
theorem i_yes {R : Bool → Hp → Prop} (q : R true H) : tYes σ H R := q
end
def spCommon : Sp := fun vs H Q _ => ∃ p q : Int, vs = [.int p, .int q] ∧ 0 ≤ p ∧ 0 ≤ q ∧ Q (.int (Int.gcd p q)) H
/-! ### lists of tuples -/
def LT (U : Hp) (p : Addr) (rows : List (List V)) : Prop := ∃ as : List Addr, U p = some (.lst (as.map V.ref)) ∧ Paired (fun a r => U a = some (.tup r)) as rows
theorem Paired.imp {α β : Type} {F G : α → β → Prop} (h : ∀ a b, F a b → G a b) : ∀ {xs : List α} {ys : List β}, Paired F xs ys → Paired G xs ys
  | _, _, .nil => .nil
  | _, _, .cons a t => .cons (h _ _ a) (Paired.imp h t)
theorem Paired.at {α β : Type} {F : α → β → Prop} : ∀ {xs : List α} {ys : List β}, Paired F xs ys → ∀ (i : Nat) (y : β), ys[i]? = some y → ∃ x, xs[i]? = some x ∧ F x y
  | _, _, .nil, i, y, e => by simp at e
  | _, _, .cons a t, 0, y, e => by
    have e' := Option.some.inj e
    subst e'
    exact ⟨_, rfl, a⟩
  | _, _, .cons a t, i + 1, y, e => Paired.at t i y e
theorem Paired.at' {α β : Type} {F : α → β → Prop} : ∀ {xs : List α} {ys : List β}, Paired F xs ys → ∀ (i : Nat) (x : α), xs[i]? = some x → ∃ y, ys[i]? = some y ∧ F x y
  | _, _, .nil, i, y, e => by simp at e
  | _, _, .cons a t, 0, y, e => by
    have e' := Option.some.inj e
    subst e'
    exact ⟨_, rfl, a⟩
  | _, _, .cons a t, i + 1, y, e => Paired.at' t i y e
theorem Paired.len {α β : Type} {F : α → β → Prop} : ∀ {xs : List α} {ys : List β}, Paired F xs ys → xs.length = ys.length
  | _, _, .nil => rfl
  | _, _, .cons _ t => congrArg (· + 1) (Paired.len t)
theorem Paired.tk {α β : Type} {F : α → β → Prop} : ∀ {xs : List α} {ys : List β} (k : Nat), Paired F xs ys → Paired F (xs.take k) (ys.take k)
  | _, _, 0, _ => .nil
  | _, _, _ + 1, .nil => .nil
  | _, _, k + 1, .cons a t => .cons a (Paired.tk k t)
theorem Paired.dp {α β : Type} {F : α → β → Prop} : ∀ {xs : List α} {ys : List β} (k : Nat), Paired F xs ys → Paired F (xs.drop k) (ys.drop k)
  | _, _, 0, h => h
  | _, _, _ + 1, .nil => .nil
  | _, _, k + 1, .cons _ t => Paired.dp k t
theorem Paired.mp {α β γ : Type} {F : α → γ → Prop} {f : β → γ} : ∀ {xs : List α} {ys : List β}, Paired (fun a b => F a (f b)) xs ys → Paired F xs (ys.map f)
  | _, _, .nil => .nil
  | _, _, .cons a t => .cons a (Paired.mp t)
theorem LT.mono {U U' : Hp} {p : Addr} {rows : List (List V)} (e : Same U U') (h : LT U p rows) : LT U' p rows := by
  obtain ⟨as, h1, h2⟩ := h
  exact ⟨as, e _ _ h1, Paired.imp (fun a r x => e _ _ x) h2⟩
section
variable {σ : L2.St} {H U : Hp} {K : PySem.W.Frag} {n bk ct : L2.St → Hp → Prop} {rt : VK} {tb : TS} {g : TG} {te : TE} {ta : TA} {p : Addr} {rows : List (List V)}
theorem LT.len (h : LT U p rows) : ∃ xs : List V, U p = some (.lst xs) ∧ xs.length = rows.length := by
  obtain ⟨as, h1, h2⟩ := h
  exact ⟨_, h1, by rw [List.length_map, Paired.len h2]⟩
theorem LT.get (h : LT U p rows) : ∃ xs : List V, U p = some (.lst xs) ∧ xs.length = rows.length ∧ ∀ (i : Nat) (r : List V), rows[i]? = some r → ∃ a : Addr, xs[i]? = some (V.ref a) ∧ U a = some (.tup r) := by
  obtain ⟨as, h1, h2⟩ := h
  refine ⟨_, h1, by rw [List.length_map, Paired.len h2], fun i r e => ?_⟩
  obtain ⟨a, e1, e2⟩ := Paired.at h2 i r e
  exact ⟨a, by rw [List.getElem?_map, e1]; rfl, e2⟩
theorem l_LT (h : LT U p rows) (Pv : Nat → L2.St → Hp → Prop) (h0 : Pv 0 σ H) (hv : ∀ i σ H, Pv i σ H → Same U H)
    (hs : ∀ i r a σ H, rows[i]? = some r → H a = some (.tup r) → Pv i σ H → g (.ref a) σ H fun σ2 H2 => tb ⟨Pv (i + 1), rt, n, Pv (i + 1)⟩ σ2 H2) (hd : ∀ σ H, Pv rows.length σ H → n σ H) : LOOP (Itl K p) g tb ⟨n, rt, bk, ct⟩ σ H := by
  obtain ⟨as, h1, h2⟩ := h
  refine l_lst (xs := as.map V.ref) Pv h0 (fun i σ H _ q => SqL.of (hv i σ H q _ _ h1)) (fun i x σ H e q => ?_) (fun σ H q => hd σ H ?_)
  · rw [List.getElem?_map] at e
    cases ea : as[i]? with
    | none =>
      rw [ea] at e
      cases e
    | some a =>
      rw [ea] at e
      have e' := Option.some.inj e
      subst e'
      obtain ⟨r, er, hr⟩ := Paired.at' h2 i a ea
      exact hs i r a σ H er (hv i σ H q _ _ hr) q
  · rw [List.length_map, Paired.len h2] at q
    exact q
end
theorem cut_to (xs : List V) (k : Nat) : cutV xs none (some (k : Int)) = xs.take k := by
  unfold cutV
  rw [HT.sIx_nat, HT.sIx_none, List.drop_zero, Nat.sub_zero]
  by_cases h : k ≤ xs.length
  · rw [Nat.min_eq_left h]
  · rw [Nat.min_eq_right (by omega), List.take_length, List.take_of_length_le (by omega)]
theorem cut_from (xs : List V) (k : Nat) : cutV xs (some (k : Int)) none = xs.drop k := by
  unfold cutV
  rw [HT.sIx_nat, HT.sIx_none]
  by_cases h : k ≤ xs.length
  · rw [Nat.min_eq_left h, List.take_of_length_le]
    rw [List.length_drop]
    exact Nat.le_refl _
  · rw [Nat.min_eq_right (by omega), List.drop_length, List.drop_of_length_le (by omega), List.take_nil]
def dV : V → PyData
  | .int i => .int i
  | .bl b => .bool b
  | .str x => .str x
  | _ => .none
theorem dV_dp {K : PySem.W.Frag} {H : Hp} {v : V} (h : (match v with | .int _ => true | .bl _ => true | .str _ => true | .non => true | _ => false) = true) : Dp K H v (dV v) := by
  cases v with
  | int i => exact .int i
  | bl b => exact .bl b
  | str x => exact .str x
  | non => exact .non
  | byt _ => cases h
  | flt _ => cases h
  | ref _ => cases h
  | ty _ => cases h
theorem LT.dp {K : PySem.W.Frag} {U H : Hp} {p : Addr} {rows : List (List V)} (e : Same U H) (h : LT U p rows) (f : ∀ r ∈ rows, ∀ v ∈ r, Dp K H v (dV v)) : Dp K H (.ref p) (.list (rows.map fun r => .tuple (r.map dV))) := by
  obtain ⟨as, h1, h2⟩ := h
  refine .lst (SqL.of (e _ _ h1)) ?_
  clear h1
  induction h2 with
  | nil => exact .nil
  | @cons a r as rows h t ih =>
    refine .cons (.tup (SqT.of (e _ _ h)) ?_) (ih fun x hx => f x (List.mem_cons_of_mem _ hx))
    have fr := f r List.mem_cons_self
    clear h ih t f
    induction r with
    | nil => exact .nil
    | cons v r ih => exact .cons (fr v List.mem_cons_self) (ih fun x hx => fr x (List.mem_cons_of_mem _ hx))
def Lay (n : Nat) (d : PyData) : Prop := d.canLay0 = true ∧ d.depth ≤ n
theorem lay_all {n : Nat} : ∀ {xs : List PyData}, (∀ x ∈ xs, Lay n x) → PyData.canLayAll0 xs = true ∧ PyData.depthAll xs ≤ n
  | [], _ => ⟨rfl, Nat.zero_le _⟩
  | x :: r, h => by
    have h1 := h x List.mem_cons_self
    have h2 := lay_all (xs := r) fun y hy => h y (List.mem_cons_of_mem _ hy)
    constructor
    · show (x.canLay0 && PyData.canLayAll0 r) = true
      rw [h1.1, h2.1]
      rfl
    · show max x.depth (PyData.depthAll r) ≤ n
      exact Nat.max_le.mpr ⟨h1.2, h2.2⟩
theorem lay_int {n : Nat} {i : Int} : Lay n (.int i) := ⟨rfl, Nat.zero_le _⟩
theorem lay_none {n : Nat} : Lay n .none := ⟨rfl, Nat.zero_le _⟩
theorem lay_bool {n : Nat} {b : Bool} : Lay n (.bool b) := ⟨rfl, Nat.zero_le _⟩
theorem lay_list {n : Nat} {xs : List PyData} (h : ∀ x ∈ xs, Lay n x) : Lay (n + 1) (.list xs) := ⟨(lay_all h).1, Nat.succ_le_succ (lay_all h).2⟩
theorem lay_tuple {n : Nat} {xs : List PyData} (h : ∀ x ∈ xs, Lay n x) : Lay (n + 1) (.tuple xs) := ⟨(lay_all h).1, Nat.succ_le_succ (lay_all h).2⟩
theorem Lay.shaped {n : Nat} {d : PyData} (h : Lay n d) (hn : n ≤ 64) : SeqAt.shaped d = true := by
  unfold SeqAt.shaped
  rw [h.1, decide_eq_true (Nat.le_trans h.2 hn)]
  rfl
theorem i_eqD {K : PySem.W.Frag} {H : Hp} {Q : VK} {x y : V} {d e : PyData} (h1 : Dp K H x d) (h2 : Dp K H y e) (l1 : Lay 8 d) (l2 : Lay 8 e) (q : Q (.bl (PyData.eqv d e)) H) : rEqD K x y H Q := ⟨d, e, h1, h2, l1.shaped (by decide), l2.shaped (by decide), q⟩
theorem i_neD {K : PySem.W.Frag} {H : Hp} {Q : VK} {x y : V} {d e : PyData} (h1 : Dp K H x d) (h2 : Dp K H y e) (l1 : Lay 8 d) (l2 : Lay 8 e) (q : Q (.bl (!PyData.eqv d e)) H) : rNeD K x y H Q := ⟨d, e, h1, h2, l1.shaped (by decide), l2.shaped (by decide), q⟩
theorem Lay.up {n m : Nat} {d : PyData} (h : Lay n d) (e : n ≤ m) : Lay m d := ⟨h.1, Nat.le_trans h.2 e⟩
theorem i_eqT {K : PySem.W.Frag} {H : Hp} {Q : VK} {x y : V} {d : PyData} (h1 : Dp K H x d) (h2 : Dp K H y d) (l1 : Lay 8 d) (q : Q (.bl true) H) : rEqD K x y H Q := i_eqD h1 h2 l1 l1 (by rw [SeqAt.eqv_refl _ l1.1]; exact q)
theorem i_neT {K : PySem.W.Frag} {H : Hp} {Q : VK} {x y : V} {d : PyData} (h1 : Dp K H x d) (h2 : Dp K H y d) (l1 : Lay 8 d) (q : Q (.bl false) H) : rNeD K x y H Q := i_neD h1 h2 l1 l1 (by rw [SeqAt.eqv_refl _ l1.1]; exact q)
/-- a list of ints as data -/
theorem dp_ints {K : PySem.W.Frag} {H : Hp} {p : Addr} {ns : List Int} (h : H p = some (.lst (ns.map V.int))) : Dp K H (.ref p) (.list (ns.map .int)) := by
  refine .lst (SqL.of h) ?_
  clear h
  induction ns with
  | nil => exact .nil
  | cons x r ih => exact .cons (.int x) ih
theorem lay_ints (ns : List Int) : Lay 8 (.list (ns.map .int)) := by
  refine (lay_list (n := 0) fun x hx => ?_).up (by decide)
  obtain ⟨i, _, rfl⟩ := List.mem_map.mp hx
  exact lay_int
/-! ### built-ins' names -/
theorem bt_len : bootBuiltins "len" = some (.builtin "len") := by decide +kernel
theorem bt_abs : bootBuiltins "abs" = some (.builtin "abs") := by decide +kernel
theorem bt_max : bootBuiltins "max" = some (.builtin "max") := by decide +kernel
theorem bt_min : bootBuiltins "min" = some (.builtin "min") := by decide +kernel
theorem bt_sum : bootBuiltins "sum" = some (.builtin "sum") := by decide +kernel
theorem bt_all : bootBuiltins "all" = some (.builtin "all") := by decide +kernel
theorem bt_any : bootBuiltins "any" = some (.builtin "any") := by decide +kernel
theorem bt_sorted : bootBuiltins "sorted" = some (.builtin "sorted") := by decide +kernel
theorem bt_isinstance : bootBuiltins "isinstance" = some (.builtin "isinstance") := by decide +kernel
theorem bt_list : bootBuiltins "list" = some (.type "list") := by decide +kernel
theorem bt_tuple : bootBuiltins "tuple" = some (.type "tuple") := by decide +kernel
theorem bt_str : bootBuiltins "str" = some (.type "str") := by decide +kernel
theorem bt_int : bootBuiltins "int" = some (.type "int") := by decide +kernel
theorem bt_bool : bootBuiltins "bool" = some (.type "bool") := by decide +kernel
theorem bt_ValueError : bootBuiltins "ValueError" = some (.type "ValueError") := by decide +kernel
section
variable {K : PySem.W.Frag} {H : Hp} {Q : VK}
theorem i_isI {i : Int} (q : Q (.bl true) H) : rIsi K [.int i, .ty "int"] H Q := ⟨.int i, .ty "int", .type "int", .type "int", true, rfl, .ty _, .base (.int _), kit_ty (by decide +kernel), q⟩
theorem i_isB {i : Int} (q : Q (.bl false) H) : rIsi K [.int i, .ty "bool"] H Q := ⟨.int i, .ty "bool", .type "int", .type "bool", false, rfl, .ty _, .base (.int _), kit_ty (by decide +kernel), q⟩
theorem i_isBB {b : Bool} (q : Q (.bl true) H) : rIsi K [.bl b, .ty "bool"] H Q := ⟨.bl b, .ty "bool", .type "bool", .type "bool", true, rfl, .ty _, .base (.bl _), kit_ty (by decide +kernel), q⟩
theorem i_isL {p : Addr} {xs : List V} (h : H p = some (.lst xs)) (q : Q (.bl true) H) : rIsi K [.ref p, .ty "list"] H Q := ⟨.ref p, .ty "list", .type "list", .type "list", true, rfl, .ty _, .base (.lst h), kit_ty (by decide +kernel), q⟩
theorem i_isT {p : Addr} {xs : List V} (h : H p = some (.tup xs)) (q : Q (.bl true) H) : rIsi K [.ref p, .ty "tuple"] H Q := ⟨.ref p, .ty "tuple", .type "tuple", .type "tuple", true, rfl, .ty _, .base (.tup h), kit_ty (by decide +kernel), q⟩
end
/-! ### the law's own draws -/
structure Dr (U H : Hp) (s : Addr) : Prop where
  ex : ∃ (l : Addr) (ns : List Int) (i b e : Int), H s = some (.lst [.ref l, .int i, .int b, .int e]) ∧ U l = some (.lst (ns.map V.int)) ∧ 0 ≤ i ∧ i ≤ ns.length ∧ 0 ≤ b
  out : U s = none
def spStart (K : PySem.W.Frag) : Sp := fun vs H Q _ => ∃ (a : Addr) (ns : List Int) (U : Hp), vs = [.ref a] ∧ SqL K H a (ns.map V.int) ∧ Same U H ∧
  ∀ s U' H', Gr [] U H U' H' → Dr U' H' s → H s = none → Q (.ref s) H'
def spDraw : Sp := fun vs H Q _ => ∃ (s : Addr) (many : Int) (U : Hp), vs = [.ref s, .int many] ∧ 0 < many ∧ many < 2 ^ 200 ∧ Same U H ∧ Dr U H s ∧
  ∀ r H', 0 ≤ r → r < many → Same U H' → Dr U H' s → (∀ a, a ≠ s → H' a = H a) → Q (.int r) H'
/-- the answer of isinstance(x, int) and not isinstance(x, bool) -/
def spWhole : Sp := fun vs H Q _ => ∃ v, vs = [v] ∧ ((∃ i, v = .int i) ∧ Q (.bl true) H)
theorem cut63 (ns : List Int) : ∃ ms : List Int, cutV (ns.map V.int) none (some 63) = ms.map V.int := by
  unfold cutV
  exact ⟨(ns.drop _).take _, by rw [List.map_take, List.map_drop]⟩
theorem Dr.mono {U U' H H' : Hp} {s : Addr} (d : Dr U H s) (e : Same U U') (h : H' s = H s) (n : U' s = none) : Dr U' H' s := by
  obtain ⟨⟨l, ns, i, b, e', h1, h2, h3⟩, _⟩ := d
  exact ⟨⟨l, ns, i, b, e', by rw [h]; exact h1, e _ _ h2, h3⟩, n⟩
theorem Dr.some {U H : Hp} {s : Addr} (d : Dr U H s) : H s ≠ none := by
  obtain ⟨⟨l, ns, i, b, e', h1, _⟩, _⟩ := d
  rw [h1]
  intro z
  cases z
/-- a new thing that never changes; a new one that will -/
theorem Dr.new {U H : Hp} {s p : Addr} {o : HO} (d : Dr U H s) (n : H p = none) (e : Same U H) : Dr (upd U p o) (upd H p o) s := by
  have ne : s ≠ p := fun z => by
    subst z
    exact d.some n
  exact d.mono (same_new (e.free n)) (upd_ne ne) (by rw [upd_ne ne]; exact d.out)
theorem Dr.newM {U H : Hp} {s p : Addr} {o : HO} (d : Dr U H s) (n : H p = none) : Dr U (upd H p o) s := by
  have ne : s ≠ p := fun z => by
    subst z
    exact d.some n
  exact d.mono (Same.refl _) (upd_ne ne) d.out
theorem Dr.mut {U H : Hp} {s p : Addr} {o : HO} (d : Dr U H s) (ne : s ≠ p) : Dr U (upd H p o) s := d.mono (Same.refl _) (upd_ne ne) d.out
theorem same_both {U H : Hp} {p : Addr} {o : HO} (e : Same U H) : Same (upd U p o) (upd H p o) := fun a x h => by
  by_cases z : a = p
  · subst z
    rw [upd_same] at h ⊢
    exact h
  · rw [upd_ne z] at h ⊢
    exact e a x h
theorem same_seal {U H : Hp} {p : Addr} {o : HO} (e : Same U H) (h : H p = some o) : Same (upd U p o) H := fun a x k => by
  by_cases z : a = p
  · subst z
    rw [upd_same] at k
    rw [h]
    exact k
  · rw [upd_ne z] at k
    exact e a x k
theorem Dr.seal {U H : Hp} {s p : Addr} {o : HO} (d : Dr U H s) (n : U p = none) (ne : s ≠ p) : Dr (upd U p o) H s := d.mono (same_new n) rfl (by rw [upd_ne ne]; exact d.out)
/-- behind a call that leaves all as it was -/
theorem Dr.gr {M : List Addr} {U U' H H' : Hp} {s : Addr} (d : Dr U H s) (g : Gr M U H U' H') (m : s ∉ M) : Dr U' H' s := by
  obtain ⟨⟨l, ns, i, b, e', h1, h2, h3⟩, n⟩ := d
  exact ⟨⟨l, ns, i, b, e', g.hh _ _ m h1, g.vv _ _ h2, h3⟩, g.fr s n (by rw [h1]; intro z; cases z)⟩
/-! ### comprehensions whose element changes nothing; whose element draws -/
section
variable {σ : L2.St} {H : Hp} {K : PySem.W.Frag} {Q : VK} {tt : TT} {te : TE} {vs : List Nat} {a D : Addr} {j : Nat}
theorem sq_off {H H' : Hp} {a D : Addr} {xs : List V} (h : SqL K H a xs) (n : H D = none) (e : ∀ b, b ≠ D → H' b = H b) : SqL K H' a xs := by
  rcases h with (h | ⟨o, h⟩) | h
  · exact .inl (.inl (by rw [e a (ne_of_none h n)]; exact h))
  · exact .inl (.inr ⟨o, by rw [e a (ne_of_none h n)]; exact h⟩)
  · exact .inr h
theorem st_off {H H' : Hp} {a D : Addr} {xs : List V} (h : SqT K H a xs) (n : H D = none) (e : ∀ b, b ≠ D → H' b = H b) : SqT K H' a xs := by
  rcases h with (h | ⟨o, h⟩) | h
  · exact .inl (.inl (by rw [e a (ne_of_none h n)]; exact h))
  · exact .inl (.inr ⟨o, by rw [e a (ne_of_none h n)]; exact h⟩)
  · exact .inr h
theorem upd_id {H H' : Hp} {D : Addr} {o : HO} (h : H' D = some o) (e : ∀ b, b ≠ D → H' b = H b) : H' = upd H D o := by
  funext b
  by_cases z : b = D
  · subst z
    rw [upd_same, h]
  · rw [upd_ne z, e b z]
theorem take_filter {xs : List V} {p : V → Bool} {f : V → V} {i : Nat} {x : V} (h : xs[i]? = some x) : ((xs.take (i + 1)).filter p).map f = ((xs.take i).filter p).map f ++ (if p x = true then [f x] else []) := by
  rw [List.take_add_one, h, List.filter_append, List.map_append]
  by_cases hp : p x = true
  · simp [hp]
  · simp [hp]
theorem c_pure {xs : List V} (p : V → Bool) (f : V → V) (hl : SqL K H a xs) (hD : H D = none) (hn : xs.length ≤ 1000) (hw : ∀ v, wipe ((wipe σ vs).set j (some v)) vs = wipe σ vs)
    (ht : ∀ x ∈ xs, ∀ H', (∀ b, b ≠ D → H' b = H b) → ∀ R : Bool → Hp → Prop, R (p x) H' → tt ((wipe σ vs).set j (some x)) H' R)
    (he : ∀ x ∈ xs, p x = true → ∀ H', (∀ b, b ≠ D → H' b = H b) → ∀ R : VK, R (f x) H' → te ((wipe σ vs).set j (some x)) H' R)
    (q : Q (.ref D) (upd H D (.lst ((xs.filter p).map f)))) : COMP (Itl K a) (gName j) tt te vs σ H D Q := by
  refine c_lst (xs := xs) (fun i H' => (∀ b, b ≠ D → H' b = H b) ∧ H' D = some (.lst (((xs.take i).filter p).map f))) ⟨fun b z => upd_ne z, upd_same⟩ (fun i H' _ h => sq_off hl hD h.1) ?_ ?_
  · rintro i x H' ex ⟨e, h⟩
    refine ⟨hw x, ?_⟩
    have mx := List.mem_of_getElem? ex
    refine ht x mx H' e _ ?_
    by_cases hp : p x = true
    · rw [hp, if_pos rfl]
      refine he x mx hp H' e _ ⟨_, h, ?_, fun b z => by rw [upd_ne z]; exact e b z, ?_⟩
      · rw [List.length_map]
        exact small1000 (Nat.le_trans (List.length_filter_le _ _) (by rw [List.length_take]; omega))
      · rw [upd_same, take_filter ex, if_pos hp]
    · rw [if_neg hp]
      refine ⟨e, ?_⟩
      rw [h, take_filter ex, if_neg hp, List.append_nil]
  · rintro H' ⟨e, h⟩
    rw [List.take_length] at h
    rw [upd_id h e]
    exact q
theorem c_pureT {xs : List V} (p : V → Bool) (f : V → V) (hl : SqT K H a xs) (hD : H D = none) (hn : xs.length ≤ 1000) (hw : ∀ v, wipe ((wipe σ vs).set j (some v)) vs = wipe σ vs)
    (ht : ∀ x ∈ xs, ∀ H', (∀ b, b ≠ D → H' b = H b) → ∀ R : Bool → Hp → Prop, R (p x) H' → tt ((wipe σ vs).set j (some x)) H' R)
    (he : ∀ x ∈ xs, p x = true → ∀ H', (∀ b, b ≠ D → H' b = H b) → ∀ R : VK, R (f x) H' → te ((wipe σ vs).set j (some x)) H' R)
    (q : Q (.ref D) (upd H D (.lst ((xs.filter p).map f)))) : COMP (Itt K a) (gName j) tt te vs σ H D Q := by
  refine c_tup (xs := xs) (fun i H' => (∀ b, b ≠ D → H' b = H b) ∧ H' D = some (.lst (((xs.take i).filter p).map f))) ⟨fun b z => upd_ne z, upd_same⟩ (fun i H' _ h => st_off hl hD h.1) ?_ ?_
  · rintro i x H' ex ⟨e, h⟩
    refine ⟨hw x, ?_⟩
    have mx := List.mem_of_getElem? ex
    refine ht x mx H' e _ ?_
    by_cases hp : p x = true
    · rw [hp, if_pos rfl]
      refine he x mx hp H' e _ ⟨_, h, ?_, fun b z => by rw [upd_ne z]; exact e b z, ?_⟩
      · rw [List.length_map]
        exact small1000 (Nat.le_trans (List.length_filter_le _ _) (by rw [List.length_take]; omega))
      · rw [upd_same, take_filter ex, if_pos hp]
    · rw [if_neg hp]
      refine ⟨e, ?_⟩
      rw [h, take_filter ex, if_neg hp, List.append_nil]
  · rintro H' ⟨e, h⟩
    rw [List.take_length] at h
    rw [upd_id h e]
    exact q
theorem filter_yes (xs : List V) : xs.filter (fun _ => true) = xs := by
  induction xs with
  | nil => rfl
  | cons x r ih => simp
/-- [f x for x in xs] -/
theorem c_map {xs : List V} (f : V → V) (hl : SqL K H a xs) (hD : H D = none) (hn : xs.length ≤ 1000) (hw : ∀ v, wipe ((wipe σ vs).set j (some v)) vs = wipe σ vs)
    (he : ∀ x ∈ xs, ∀ H', (∀ b, b ≠ D → H' b = H b) → ∀ R : VK, R (f x) H' → te ((wipe σ vs).set j (some x)) H' R)
    (q : Q (.ref D) (upd H D (.lst (xs.map f)))) : COMP (Itl K a) (gName j) tYes te vs σ H D Q :=
  c_pure (fun _ => true) f hl hD hn hw (fun x _ H' _ R r => r) (fun x m _ H' e R r => he x m H' e R r) (by rw [filter_yes]; exact q)
theorem c_mapT {xs : List V} (f : V → V) (hl : SqT K H a xs) (hD : H D = none) (hn : xs.length ≤ 1000) (hw : ∀ v, wipe ((wipe σ vs).set j (some v)) vs = wipe σ vs)
    (he : ∀ x ∈ xs, ∀ H', (∀ b, b ≠ D → H' b = H b) → ∀ R : VK, R (f x) H' → te ((wipe σ vs).set j (some x)) H' R)
    (q : Q (.ref D) (upd H D (.lst (xs.map f)))) : COMP (Itt K a) (gName j) tYes te vs σ H D Q :=
  c_pureT (fun _ => true) f hl hD hn hw (fun x _ H' _ R r => r) (fun x m _ H' e R r => he x m H' e R r) (by rw [filter_yes]; exact q)
/-- [.. draws .. for k in range(n)]: ints that keep P -/
theorem c_draws {n : Nat} {lo : Int} {U : Hp} {s : Addr} (P : Int → Prop) (hn : n ≤ 1000) (hU : Same U H) (d : Dr U H s) (hD : H D = none) (hw : ∀ v, wipe ((wipe σ vs).set j (some v)) vs = wipe σ vs)
    (he : ∀ (i : Nat) H', Same U H' → Dr U H' s → ∀ R : VK, (∀ y H'', P y → Same U H'' → Dr U H'' s → (∀ b, b ≠ s → H'' b = H' b) → R (.int y) H'') → te ((wipe σ vs).set j (some (.int (lo + i)))) H' R)
    (hd : ∀ (ns : List Int) H', ns.length = n → (∀ y ∈ ns, P y) → Same U H' → Dr U H' s → U D = none → (∀ b, b ≠ s → b ≠ D → H' b = H b) → H' D = some (.lst (ns.map V.int)) → Q (.ref D) H') : COMP (Itr lo n) (gName j) tYes te vs σ H D Q := by
  have nU : U D = none := hU.free hD
  have sD : s ≠ D := fun z => by
    subst z
    exact d.some hD
  refine c_rng (fun i H' => ∃ ns : List Int, ns.length = i ∧ (∀ y ∈ ns, P y) ∧ Same U H' ∧ Dr U H' s ∧ (∀ b, b ≠ s → b ≠ D → H' b = H b) ∧ H' D = some (.lst (ns.map V.int))) ?_ ?_ ?_
  · exact ⟨[], rfl, fun y h => (by cases h), same_mut hU nU, d.newM hD, fun b _ z => upd_ne z, upd_same⟩
  · rintro i H' hi ⟨ns, e1, e2, e3, e4, e5, e6⟩
    refine ⟨hw _, ?_⟩
    refine i_yes (i_itT ?_)
    refine he i H' e3 e4 _ fun y H'' py h1 h2 h3 => ⟨_, (h3 D sD.symm).trans e6, by rw [List.length_map]; exact small1000 (by omega), ns ++ [y], by rw [List.length_append, e1]; rfl, ?_, same_mut h1 nU, h2.mut sD, ?_, ?_⟩
    · intro z hz
      rcases List.mem_append.mp hz with h | h
      · exact e2 z h
      · rw [List.mem_singleton.mp h]
        exact py
    · intro b z1 z2
      rw [upd_ne z2, h3 b z1]
      exact e5 b z1 z2
    · rw [upd_same, List.map_append]
      rfl
  · rintro H' ⟨ns, e1, e2, e3, e4, e5, e6⟩
    exact hd ns H' e1 e2 e3 e4 nU e5 e6
end
end SW

open PySem L2 SW
local macro_rules | `(tactic| walk_at "sw1") => `(tactic| first
  | with_reducible refine i_seq ?_
  | with_reducible refine i_set ?_
  | with_reducible refine i_asg ?_
  | with_reducible refine i_var rfl ?_
  | with_reducible refine i_c ?_
  | with_reducible refine i_op ?_
  | with_reducible refine i_rI0 ?_
  | with_reducible refine i_cons ?_
  | with_reducible refine i_nil ?_
  | with_reducible refine i_call ?_
  | with_reducible refine i_cb ?_
  | with_reducible refine i_if ?_
  | with_reducible refine i_test ?_
  | with_reducible refine i_B ?_
  | with_reducible refine i_bl ?_
  | with_reducible refine i_blV ?_
  | with_reducible refine i_itT ?_
  | with_reducible refine i_itF ?_
  | with_reducible refine i_iteNT ?_
  | with_reducible refine i_iteNF ?_
  | with_reducible refine i_iteNN ?_
  | with_reducible refine i_ret ?_
  | with_reducible refine i_drop ?_
  | with_reducible refine i_next ?_
  | with_reducible refine i_un ?_
  | with_reducible refine i_rU ?_
  | with_reducible refine i_eqI ?_
  | with_reducible refine i_neI ?_
  | with_reducible refine i_eqS ?_
  | with_reducible refine i_neS ?_
  | with_reducible refine i_not ?_
  | with_reducible refine i_and ?_
  | with_reducible refine i_or ?_
  | with_reducible refine i_andV ?_
  | with_reducible refine i_orV ?_
  | with_reducible refine i_notV ?_
  | with_reducible refine i_ifE ?_
  | with_reducible refine i_chain ?_
  | with_reducible refine i_sub ?_
  | with_reducible refine i_lst ?_
  | with_reducible refine i_tup ?_
  | with_reducible refine i_for1 ?_
  | with_reducible refine i_for2 ?_
  | with_reducible refine i_forL ?_
  | with_reducible refine i_forT ?_
  | with_reducible refine i_lc1 ?_
  | with_reducible refine i_lc2 ?_
  | with_reducible refine i_lcL ?_
  | with_reducible refine i_lcT ?_
  | with_reducible refine i_gname ?_
  | with_reducible refine i_yes ?_
  | with_reducible refine i_par ?_
  | with_reducible refine i_sl ?_
  | with_reducible refine i_nopart ?_
  | with_reducible refine i_part ?_
  | with_reducible refine i_partE ?_
  | with_reducible refine i_parE ?_
  | with_reducible refine i_ipI ?_
  | with_reducible refine i_asg2 ?_
  | with_reducible refine i_gcons ?_
  | with_reducible refine i_gnil ?_
  | with_reducible refine i_retN ?_
  | with_reducible refine i_brk ?_
  | with_reducible refine i_cont ?_)
local macro_rules | `(tactic| walk_at "hp") => `(tactic| first | assumption | exact upd_same | (refine upd_get (by assumption) ?_; walk_at "hp") | ((rw [upd_ne (by assumption)]); walk_at "hp"))
local macro_rules | `(tactic| walk_at "cc") => `(tactic| first | omega | decide | exact ⟨by decide, by decide⟩ | exact ⟨by omega, by omega⟩ | exact ⟨by decide, by decide, by decide⟩ | exact Or.inr ⟨by decide, by decide⟩ | exact Or.inl ⟨by decide, by decide⟩ | exact Or.inr ⟨by omega, by omega⟩ | exact Or.inl ⟨by omega, by omega⟩ | assumption)
local macro_rules | `(tactic| walk_at "sw2") => `(tactic| first
  | walk_at "sw1"
  | ((with_reducible refine' i_rI ?c1 ?_); (case c1 => (dsimp only; walk_at "cc")))
  | ((with_reducible refine' i_rI ?c1 ?_); (case c1 => (walk_at "cc")))
  | ((with_reducible refine' i_ixL ?c1 ?c2 ?_); (case c1 => walk_at "hp"); (case c2 => exact rfl))
  | ((with_reducible refine' i_ixT ?c1 ?c2 ?_); (case c1 => walk_at "hp"); (case c2 => exact rfl))
  | with_reducible refine i_isI ?_
  | with_reducible refine i_isB ?_
  | with_reducible refine i_isBB ?_
  | ((with_reducible refine' i_isL ?c1 ?_); (case c1 => walk_at "hp"))
  | ((with_reducible refine' i_isT ?c1 ?_); (case c1 => walk_at "hp"))
  | ((with_reducible refine' i_setL ?c1 ?c2 ?_); (case c1 => walk_at "hp"); (case c2 => exact rfl))
  | ((with_reducible refine' i_rI ?c1 ?_); (case c1 => first | (apply_assumption; done) | exact wide_div (b := 200) (by omega) (by omega) (by decide) (by decide)))
  | ((with_reducible refine' Exists.intro _ (Exists.intro _ (And.intro rfl (And.intro (Or.inl (SqL.of ?c1)) ?_)))); (case c1 => walk_at "hp"))
  | ((with_reducible refine' Exists.intro _ (Exists.intro _ (And.intro rfl (And.intro (Or.inr (SqT.of ?c1)) ?_)))); (case c1 => walk_at "hp"))
  | ((with_reducible refine' Exists.intro _ (And.intro (rfl : [V.int _] = [V.int _]) ?_)))
  | ((with_reducible refine' Exists.intro _ (Exists.intro _ (And.intro (rfl : [V.int _, V.int _] = [V.int _, V.int _]) ?_))))
  | (with_reducible refine And.intro (Nat.le_of_ble_eq_true rfl : List.length _ ≤ sizeLine) ?_))
local macro_rules | `(tactic| walk_at "sw3") => `(tactic| first
  | walk_at "sw2"
  | ((with_reducible refine' i_aug ?c1 ?_); (case c1 => exact rfl))
  | ((with_reducible refine' i_slL ?c1 ?_); (case c1 => walk_at "hp"))
  | ((with_reducible refine' i_gtup ?c1 ?c2 ?_); (case c1 => walk_at "hp"); (case c2 => exact rfl)))
local macro_rules | `(tactic| walk_at "sw") => `(tactic| ((try dsimp only); repeat walk_at "sw3"))

namespace SW
open PySem L2
def top (i : Nat) : Stmt := PySem.Challenge.pw_slotwright_k02_rounds_together.main.body.getD i (.Pass ⟨0, 0, 0, 0⟩)
abbrev s_common : Stmt := top 1
abbrev s_together : Stmt := top 2
abbrev s_law_start : Stmt := top 4
abbrev s_law_draw : Stmt := top 5
abbrev s_law_whole : Stmt := top 6
abbrev s_law_all : Stmt := top 7
abbrev s_law : Stmt := top 8
theorem sc_common : FnScope ["p", "q"] ["p", "q"] (defScope s_common) := ⟨rfl, rfl, rfl, by decide +kernel, rfl, by decide +kernel, by decide +kernel⟩
theorem sc_together : FnScope ["rounds", "made", "each"] ["rounds"] (defScope s_together) := ⟨rfl, rfl, rfl, by decide +kernel, rfl, by decide +kernel, by decide +kernel⟩
theorem sc_law_start : FnScope ["_law_script"] ["_law_script"] (defScope s_law_start) := ⟨rfl, rfl, rfl, by decide +kernel, rfl, by decide +kernel, by decide +kernel⟩
theorem sc_law_draw : FnScope ["_law_s", "_law_many", "_law_cell", "_law_found"] ["_law_s", "_law_many"] (defScope s_law_draw) := ⟨rfl, rfl, rfl, by decide +kernel, rfl, by decide +kernel, by decide +kernel⟩
theorem sc_law_whole : FnScope ["_law_x"] ["_law_x"] (defScope s_law_whole) := ⟨rfl, rfl, rfl, by decide +kernel, rfl, by decide +kernel, by decide +kernel⟩
theorem sc_law_all : FnScope ["_law_row", "_law_number", "_law_one"] ["_law_row", "_law_number"] (defScope s_law_all) := ⟨rfl, rfl, rfl, by decide +kernel, rfl, by decide +kernel, by decide +kernel⟩
theorem sc_law : FnScope ["_law_script", "_law_s", "_law_part", "_law_row", "_law_handed", "_law_found", "_law_the_most", "_law_rest", "_law_prime", "_law_turn", "_law_k", "_law_one"] ["_law_script"] (defScope s_law) := ⟨rfl, rfl, rfl, by decide +kernel, rfl, by decide +kernel, by decide +kernel⟩
structure Tx (K : PySem.W.Frag) (mg : Str → Option Value) where
  f_common : Addr
  fd_common : FuncData
  F_common : Fun K "common" "common" s_common f_common fd_common
  b_common : Binds K fd_common ["p", "q"] []
  g_common : mg "common" = some (.ref f_common)
  f_together : Addr
  fd_together : FuncData
  F_together : Fun K "together" "together" s_together f_together fd_together
  b_together : Binds K fd_together ["rounds"] []
  g_together : mg "together" = some (.ref f_together)
  f_law_start : Addr
  fd_law_start : FuncData
  F_law_start : Fun K "_law_start" "_law_start" s_law_start f_law_start fd_law_start
  b_law_start : Binds K fd_law_start ["_law_script"] []
  g_law_start : mg "_law_start" = some (.ref f_law_start)
  f_law_draw : Addr
  fd_law_draw : FuncData
  F_law_draw : Fun K "_law_draw" "_law_draw" s_law_draw f_law_draw fd_law_draw
  b_law_draw : Binds K fd_law_draw ["_law_s", "_law_many"] []
  g_law_draw : mg "_law_draw" = some (.ref f_law_draw)
  f_law_whole : Addr
  fd_law_whole : FuncData
  F_law_whole : Fun K "_law_whole" "_law_whole" s_law_whole f_law_whole fd_law_whole
  b_law_whole : Binds K fd_law_whole ["_law_x"] []
  g_law_whole : mg "_law_whole" = some (.ref f_law_whole)
  f_law_all : Addr
  fd_law_all : FuncData
  F_law_all : Fun K "_law_all" "_law_all" s_law_all f_law_all fd_law_all
  b_law_all : Binds K fd_law_all ["_law_row", "_law_number"] []
  g_law_all : mg "_law_all" = some (.ref f_law_all)
  f_law : Addr
  fd_law : FuncData
  F_law : Fun K "law" "law" s_law f_law fd_law
  b_law : Binds K fd_law ["_law_script"] []
  g_law : mg "law" = some (.ref f_law)
  z_abs : mg "abs" = none
  z_all : mg "all" = none
  z_bool : mg "bool" = none
  z_int : mg "int" = none
  z_isinstance : mg "isinstance" = none
  z_len : mg "len" = none
  z_list : mg "list" = none
  z_range : mg "range" = none
def spLaw (K : PySem.W.Frag) : Sp := fun vs H Q _ => ∃ (a : Addr) (ns : List Int), vs = [.ref a] ∧ SqL K H a (ns.map V.int) ∧ ns.length ≤ 63 ∧ (∀ z ∈ ns, Builtin.Int.intBits z ≤ 1048576) ∧ ∀ H', Q (.bl true) H'
section
variable {P : Program} {w : World} {K : PySem.W.Frag} {mg : Str → Option Value} {base : Heap}
theorem ok_law_start (T : Tx K mg) : FnOk P w K mg base CX0 1 T.f_law_start T.fd_law_start ["_law_script"] (spStart K) := by
  refine T.F_law_start.ok sc_law_start (fun vs H Q E h => ?_) (fun cdv A outer s H vs Q E hr h => ?_)
  · obtain ⟨a, ns, U, rfl, _⟩ := h
    rfl
  · obtain ⟨a, ns, U, rfl, hS, hU, q⟩ := h
    refine ⟨_, (pss_one (ps_ret (pe_lst (pa_cons (pe_callTy call_list_of (by rfl) T.z_list bt_list (pa_cons (pe_slice sl_list (pv 0) po_none (po_some pe_int)) pa_nil)) (pa_cons pe_int (pa_cons pe_int (pa_cons pe_int pa_nil))))))), ?_⟩
    walk_at "sw"
    refine ⟨a, _, rfl, hS, fun c nc => ?_⟩
    obtain ⟨ms, em⟩ := cut63 ns
    rw [em]
    have g1 : Gr [] U H U (upd H c (.lst (ms.map V.int))) := (Gr.refl hU).newM nc
    walk_at "sw"
    intro l nl
    have g2 := g1.new (o := .lst (ms.map V.int)) nl
    walk_at "sw"
    intro s ns'
    have g3 := g2.newM (o := .lst [.ref l, .int 0, .int 0, .int 90210]) ns'
    refine q s _ _ g3 ⟨⟨l, ms, 0, 0, 90210, upd_same, upd_same, Int.le_refl _, by omega, Int.le_refl _⟩, g2.vh.free ns'⟩ (g2.fresh ns')
theorem ok_law_draw (T : Tx K mg) : FnOk P w K mg base CX0 1 T.f_law_draw T.fd_law_draw ["_law_s", "_law_many"] spDraw := by
  refine T.F_law_draw.ok sc_law_draw (fun vs H Q E h => ?_) (fun cdv A outer s0 H vs Q E hr h => ?_)
  · obtain ⟨s, many, U, rfl, _⟩ := h
    rfl
  · obtain ⟨s, many, U, rfl, h0, h2, hU, D, q⟩ := h
    obtain ⟨⟨l, ns, i, b, e, hs, hl, hi, hi2, hb⟩, hn⟩ := D
    have hlU := hU _ _ hl
    have sl : s ≠ l := fun z => by
      subst z
      rw [hn] at hl
      cases hl
    refine ⟨_, (pss_cons (ps_if (pt_cmpR op_eq (pe_ix ix_list (pv 0) pe_int (fun _ _ => rfl)) pe_int (nomark _))
      (pss_cons (ps_set (i := 2) sc_law_draw.nd rfl (Or.inl rfl) pe_int)
      (pss_cons (ps_if (pt_cmpR op_lt (pe_ix ix_list (pv 0) pe_int (fun _ _ => rfl)) (pe_callB call_len_seq (by rfl) T.z_len bt_len (pa_cons (pe_ix ix_list (pv 0) pe_int (fun _ _ => rfl)) pa_nil)) (nomark _))
      (pss_cons (ps_set (i := 2) sc_law_draw.nd rfl (Or.inl rfl) (pe_ix ix_list (pe_ix ix_list (pv 0) pe_int (fun _ _ => rfl)) (pe_ix ix_list (pv 0) pe_int (fun _ _ => rfl)) (fun _ _ => rfl)))
      (pss_one (ps_asg (pe_op op_add (pe_ix ix_list (pv 0) pe_int (fun _ _ => rfl)) pe_int) (pg_sub (pv 0) pe_int set_list))))
      pss_nil)
      (pss_one (ps_if ((pw_or (pt_cmpR op_ge (pv 2) (pe_op op_pow pe_int pe_int) (nomark _)) (pw_or1 (pt_cmpR op_le (pv 2) (pe_un un_neg (pe_op op_pow pe_int pe_int)) (nomark _))))).pt
      (pss_one (ps_asg (pe_callB call_abs (by rfl) T.z_abs bt_abs (pa_cons (pv 2) pa_nil)) (pg_sub (pv 0) pe_int set_list)))
      (pss_cons (ps_asg (pe_op op_mod (pe_op op_add (pe_op op_add (pe_op op_mul (pe_ix ix_list (pv 0) pe_int (fun _ _ => rfl)) pe_int) (pe_op op_mod (pv 2) pe_int)) pe_int) pe_int) (pg_sub (pv 0) pe_int set_list))
      (pss_one (ps_ret (pe_op op_mod (pe_op op_fdiv (pe_ix ix_list (pv 0) pe_int (fun _ _ => rfl)) pe_int) (pv 1)))))))))
      pss_nil)
      (pss_cons (ps_set (i := 3) sc_law_draw.nd rfl (Or.inl rfl) (pe_op op_mod (pe_ix ix_list (pv 0) pe_int (fun _ _ => rfl)) (pv 1)))
      (pss_cons (ps_asg (pe_op op_fdivW (pe_ix ix_list (pv 0) pe_int (fun _ _ => rfl)) (pv 1)) (pg_sub (pv 0) pe_int set_list))
      (pss_one (ps_ret (pv 3)))))), ?_⟩
    have w3 : ∀ z : Int, CDivW z many := fun z => wide_div h0 (b := 200) (by omega) (by decide) (by decide)
    -- the end, from a heap that has changed at s alone
    have fin : ∀ (H1 : Hp) (i1 b1 e1 : Int) (r : Int), (∀ a, a ≠ s → H1 a = H a) → H1 s = some (.lst [.ref l, .int i1, .int b1, .int e1]) → 0 ≤ i1 → i1 ≤ ns.length → 0 ≤ b1 → 0 ≤ r → r < many → Q (.int r) H1 := by
      intro H1 i1 b1 e1 r ho h1 a1 a2 a3 a4 a5
      refine q r H1 a4 a5 (fun a o ha => ?_) ⟨⟨l, ns, i1, b1, e1, h1, hl, a1, a2, a3⟩, hn⟩ ho
      have ne : a ≠ s := fun z => by
        subst z
        rw [hn] at ha
        cases ha
      rw [ho a ne]
      exact hU a o ha
    have tail : ∀ (H1 : Hp) (i1 b1 e1 : Int), (∀ a, a ≠ s → H1 a = H a) → H1 s = some (.lst [.ref l, .int i1, .int b1, .int e1]) → 0 ≤ i1 → i1 ≤ ns.length → 0 ≤ b1 →
        Q (.int (b1 % many)) (upd H1 s (.lst [.ref l, .int i1, .int (b1 / many), .int e1])) := by
      intro H1 i1 b1 e1 ho h1 a1 a2 a3
      refine fin _ i1 (b1 / many) e1 _ (fun a ne => ?_) upd_same a1 a2 (Int.ediv_nonneg a3 (by omega)) (Int.emod_nonneg _ (by omega)) (Int.emod_lt_of_pos _ h0)
      rw [upd_ne ne]
      exact ho a ne
    have ab : ∀ c : Int, 0 ≤ (if c < 0 then -c else c) := fun c => by split <;> omega
    have md : ∀ c : Int, 0 ≤ c % many ∧ c % many < many := fun c => ⟨Int.emod_nonneg _ (by omega), Int.emod_lt_of_pos _ h0⟩
    have un : ∀ (o : HO) (a : Addr), a ≠ s → upd H s o a = H a := fun o a ne => upd_ne ne
    have un2 : ∀ (o o' : HO) (a : Addr), a ≠ s → upd (upd H s o) s o' a = H a := fun o o' a ne => by rw [upd_ne ne, upd_ne ne]
    walk_at "sw"
    refine i_ite (fun h => ?_) (fun h => ?_)
    · walk_at "sw"
      refine i_ite (fun h => ?_) (fun h => ?_)
      · obtain ⟨j, rfl⟩ : ∃ j : Nat, i = (j : Int) := ⟨i.toNat, by omega⟩
        rw [List.length_map] at h
        have hj : j < ns.length := by omega
        walk_at "sw"
        refine i_ixL hlU (at_of (j := j) (v := V.int ns[j]) rfl (by rw [List.getElem?_map, List.getElem?_eq_getElem hj]; rfl)) ?_
        walk_at "sw"
        refine i_ite (fun h => ?_) (fun h => ?_)
        · walk_at "sw"
          exact tail _ (j + 1) _ e (un2 _ _) upd_same (by omega) (by omega) (ab _)
        · walk_at "sw"
          refine i_ite (fun h => ?_) (fun h => ?_)
          · walk_at "sw"
            exact tail _ (j + 1) _ e (un2 _ _) upd_same (by omega) (by omega) (ab _)
          · walk_at "sw"
            exact fin _ (j + 1) b _ _ (un2 _ _) upd_same (by omega) (by omega) hb (md _).1 (md _).2
      · walk_at "sw"
        refine i_ite (fun h => ?_) (fun h => ?_)
        · walk_at "sw"
          exact tail _ i _ e (un _) upd_same hi hi2 (ab _)
        · walk_at "sw"
          refine i_ite (fun h => ?_) (fun h => ?_)
          · walk_at "sw"
            exact tail _ i _ e (un _) upd_same hi hi2 (ab _)
          · walk_at "sw"
            exact fin _ i b _ _ (un _) upd_same hi hi2 hb (md _).1 (md _).2
    · walk_at "sw"
      exact tail H i b e (fun a _ => rfl) hs hi hi2 hb

theorem ok_law_whole (T : Tx K mg) : FnOk P w K mg base CX0 1 T.f_law_whole T.fd_law_whole ["_law_x"] spWhole := by
  refine T.F_law_whole.ok sc_law_whole (fun vs H Q E h => ?_) (fun cdv A outer s H vs Q E hr h => ?_)
  · obtain ⟨v, rfl, _⟩ := h
    rfl
  · obtain ⟨v, rfl, ⟨i, rfl⟩, q⟩ := h
    refine ⟨_, (pss_one (ps_ret (pe_and (pe_callB call_isi (by rfl) T.z_isinstance bt_isinstance (pa_cons (pv 0) (pa_cons (pe_bltn (v := .ty "int") (by rfl) T.z_int bt_int rfl) pa_nil))) (pe_one (pe_not (pe_callB call_isi (by rfl) T.z_isinstance bt_isinstance (pa_cons (pv 0) (pa_cons (pe_bltn (v := .ty "bool") (by rfl) T.z_bool bt_bool rfl) pa_nil)))))))), ?_⟩
    walk_at "sw"
    exact q

theorem ok_common (T : Tx K mg) : FnOk P w K mg base CX0 1 T.f_common T.fd_common ["p", "q"] spCommon := by
  refine T.F_common.ok sc_common (fun vs H Q E h => ?_) (fun cdv A outer s H vs Q E hr h => ?_)
  · obtain ⟨a, b, rfl, _⟩ := h
    rfl
  · obtain ⟨a, b, rfl, ha, hb, q⟩ := h
    refine ⟨_, (pss_cons (ps_while PassesOwn.never (pt_cmpR op_gt (pv 1) pe_int (nomark _))
      (pss_one (ps_par (i := 0) (j := 1) (by rfl) sc_common.nd rfl rfl (by decide) rfl rfl (pa_cons (pv 1) (pa_cons (pe_op op_mod (pv 0) (pv 1)) pa_nil)) (by rfl))))
      (pss_one (ps_ret (pv 0)))), ?_⟩
    walk_at "sw"
    refine i_while (fun m σ H' => ∃ x y : Int, σ = [some (.int x), some (.int y)] ∧ m = y.toNat ∧ 0 ≤ x ∧ 0 ≤ y ∧ Int.gcd x y = Int.gcd a b ∧ H' = H) b.toNat ⟨a, b, rfl, rfl, ha, hb, rfl, rfl⟩ ?_
    rintro m σ H' ⟨x, y, rfl, rfl, hx, hy, hg, rfl⟩
    walk_at "sw"
    refine i_ite (fun h => ?_) (fun h => ?_)
    · refine ⟨_, fun _ _ h => h, ?_⟩
      walk_at "sw"
      have h1 := Int.emod_nonneg x (b := y) (by omega)
      have h2 := Int.emod_lt_of_pos x h
      refine ⟨(x % y).toNat, by omega, y, x % y, rfl, rfl, hy, h1, ?_, rfl⟩
      rw [← hg, Int.gcd_comm x y]
      conv => rhs; rw [← Int.emod_add_mul_ediv x y]
      rw [Int.gcd_add_mul_left_right]
    · walk_at "sw"
      have e : y = 0 := by omega
      subst e
      rw [Int.gcd_zero_right] at hg
      rw [← hg] at q
      have e2 : ((x.natAbs : Nat) : Int) = x := by omega
      rw [e2] at q
      exact q

def lc (m e : Int) : Int := m / (Int.gcd m e : Int) * e
theorem lc_nat (m e : Nat) : lc (m : Int) (e : Int) = ((Nat.lcm m e : Nat) : Int) := by
  unfold lc
  rw [Int.gcd_natCast_natCast, ← Int.natCast_ediv, ← Int.natCast_mul]
  congr 1
  unfold Nat.lcm
  exact Nat.div_mul_right_comm (Nat.gcd_dvd_left m e) e
theorem to_nat {m : Int} (h : 0 < m) : ∃ k : Nat, m = (k : Int) ∧ 0 < k := ⟨m.toNat, by omega, by omega⟩
theorem lc_pos {m e : Int} (hm : 0 < m) (he : 0 < e) : 0 < lc m e := by
  obtain ⟨a, rfl, ha⟩ := to_nat hm
  obtain ⟨b, rfl, hb⟩ := to_nat he
  rw [lc_nat]
  have := Nat.lcm_pos ha hb
  omega
theorem lc_right {m e : Int} (hm : 0 < m) (he : 0 < e) : e ∣ lc m e := Int.dvd_mul_left ..
theorem lc_left {m e : Int} (hm : 0 < m) (he : 0 < e) : m ∣ lc m e := by
  obtain ⟨a, rfl, ha⟩ := to_nat hm
  obtain ⟨b, rfl, hb⟩ := to_nat he
  rw [lc_nat]
  exact Int.natCast_dvd_natCast.mpr (Nat.dvd_lcm_left a b)
theorem lc_least {m e N : Int} (hm : 0 < m) (he : 0 < e) (h1 : m ∣ N) (h2 : e ∣ N) : lc m e ∣ N := by
  obtain ⟨a, rfl, ha⟩ := to_nat hm
  obtain ⟨b, rfl, hb⟩ := to_nat he
  rw [lc_nat]
  have h1' := Int.ofNat_dvd_left.mp h1
  have h2' := Int.ofNat_dvd_left.mp h2
  exact Int.ofNat_dvd_left.mpr (Nat.lcm_dvd h1' h2')
def tog : Int → List Int → Int
  | m, [] => m
  | m, e :: r => tog (lc m e) r
theorem tog_snoc (m : Int) (e : Int) : ∀ (r : List Int) (m : Int), tog m (r ++ [e]) = lc (tog m r) e
  | [], m => rfl
  | x :: r, m => tog_snoc m e r (lc m x)
theorem tog_pos : ∀ (r : List Int) (m : Int), 0 < m → (∀ e ∈ r, 0 < e) → 0 < tog m r
  | [], m, h, _ => h
  | x :: r, m, h, a => tog_pos r _ (lc_pos h (a x List.mem_cons_self)) fun e he => a e (List.mem_cons_of_mem _ he)
theorem tog_m : ∀ (r : List Int) (m : Int), 0 < m → (∀ e ∈ r, 0 < e) → m ∣ tog m r
  | [], m, h, _ => Int.dvd_refl m
  | x :: r, m, h, a => Int.dvd_trans (lc_left h (a x List.mem_cons_self)) (tog_m r _ (lc_pos h (a x List.mem_cons_self)) fun e he => a e (List.mem_cons_of_mem _ he))
theorem tog_dvd : ∀ (r : List Int) (m : Int), 0 < m → (∀ e ∈ r, 0 < e) → ∀ e ∈ r, e ∣ tog m r
  | [], m, h, _, e, he => by cases he
  | x :: r, m, h, a, e, he => by
    have hx := a x List.mem_cons_self
    have ar : ∀ e ∈ r, 0 < e := fun e he => a e (List.mem_cons_of_mem _ he)
    rcases List.mem_cons.mp he with rfl | he
    · exact Int.dvd_trans (lc_right h hx) (tog_m r _ (lc_pos h hx) ar)
    · exact tog_dvd r _ (lc_pos h hx) ar e he
theorem tog_least {N : Int} : ∀ (r : List Int) (m : Int), 0 < m → (∀ e ∈ r, 0 < e) → m ∣ N → (∀ e ∈ r, e ∣ N) → tog m r ∣ N
  | [], m, h, _, hm, _ => hm
  | x :: r, m, h, a, hm, hd => by
    have hx := a x List.mem_cons_self
    exact tog_least r _ (lc_pos h hx) (fun e he => a e (List.mem_cons_of_mem _ he)) (lc_least h hx hm (hd x List.mem_cons_self)) fun e he => hd e (List.mem_cons_of_mem _ he)
/-- n, with p taken out up to k times -/
def strip (p : Int) : Nat → Int → Int
  | 0, n => n
  | k + 1, n => let r := strip p k n; if r % p = 0 then r / p else r
theorem strip_pos {p : Int} (hp : 2 ≤ p) {n : Int} (hn : 0 < n) : ∀ k, 0 < strip p k n
  | 0 => hn
  | k + 1 => by
    have ih := strip_pos hp hn k
    show 0 < (if strip p k n % p = 0 then strip p k n / p else strip p k n)
    split
    · rename_i h
      obtain ⟨c, hc⟩ := Int.dvd_of_emod_eq_zero h
      rw [hc, Int.mul_ediv_cancel_left _ (by omega)]
      rcases Int.lt_or_le 0 c with h | h
      · exact h
      · have := Int.mul_nonpos_of_nonneg_of_nonpos (a := p) (by omega) h
        omega
    · exact ih
def isP (p : Int) : Prop := ∀ n : Int, ¬ p ∣ n → Int.gcd n p = 1
theorem prime_of {p : Nat} (h : ∀ d : Nat, d ≤ p → d ∣ p → d = 1 ∨ d = p) (hp : 0 < p) : isP p := by
  intro n hn
  have g : (Int.gcd n p) ∣ p := by
    have := Int.gcd_dvd_right (a := n) (b := (p : Int))
    exact Int.natCast_dvd_natCast.mp this
  rcases h _ (Nat.le_of_dvd hp g) g with e | e
  · exact e
  · have := Int.gcd_dvd_left (a := n) (b := (p : Int))
    rw [e] at this
    exact absurd this hn
/-- what divides p ^ a * m, stripped, divides m, a ≤ k -/
theorem strip_dvd {p : Int} (hp : 2 ≤ p) (pp : isP p) {m : Int} : ∀ (k : Nat) (a : Nat) (n : Int), n ∣ p ^ (a + k) * m → ∃ b : Nat, b ≤ a + k ∧ strip p k n ∣ p ^ b * m ∧ (¬ p ∣ strip p k n ∨ b = a)
  | 0, a, n, h => ⟨a, Nat.le_refl _, h, .inr rfl⟩
  | k + 1, a, n, h => by
    have h' : n ∣ p ^ ((a + 1) + k) * m := by
      rw [show a + 1 + k = a + (k + 1) by omega]
      exact h
    obtain ⟨b, hb, hd, ho⟩ := strip_dvd hp pp k (a + 1) n h'
    show ∃ b : Nat, b ≤ a + (k + 1) ∧ (if strip p k n % p = 0 then strip p k n / p else strip p k n) ∣ p ^ b * m ∧ (¬ p ∣ (if strip p k n % p = 0 then strip p k n / p else strip p k n) ∨ b = a)
    by_cases hz : strip p k n % p = 0
    · rw [if_pos hz]
      rcases ho with ho | ho
      · exact absurd (Int.dvd_of_emod_eq_zero hz) ho
      · subst ho
        obtain ⟨c, hc⟩ := Int.dvd_of_emod_eq_zero hz
        rw [hc] at hd ⊢
        rw [Int.mul_ediv_cancel_left _ (by omega)]
        refine ⟨a, by omega, ?_, .inr rfl⟩
        rw [Int.pow_succ, Int.mul_comm (p ^ a) p, Int.mul_assoc] at hd
        exact Int.dvd_of_mul_dvd_mul_left (by omega) hd
    · rw [if_neg hz]
      exact ⟨b, by omega, hd, .inl fun z => hz (Int.emod_eq_zero_of_dvd z)⟩
theorem cop_dvd {x p y : Int} (g : Int.gcd x p = 1) (h : x ∣ p * y) : x ∣ y := by
  have h1 := Int.natAbs_dvd_natAbs.mpr h
  rw [Int.natAbs_mul] at h1
  exact Int.natAbs_dvd_natAbs.mp (Nat.Coprime.dvd_of_dvd_mul_left (show Nat.Coprime x.natAbs p.natAbs from g) h1)
theorem strip_all {p : Int} (hp : 2 ≤ p) (pp : isP p) {m n : Int} {a : Nat} (ha : a ≤ 40) (h : n ∣ p ^ a * m) : strip p 40 n ∣ m := by
  have h' : n ∣ p ^ (0 + 40) * m := by
    refine Int.dvd_trans h ?_
    obtain ⟨d, hd⟩ : ∃ d, 0 + 40 = d + a := ⟨40 - a, by omega⟩
    rw [hd, Int.pow_add, Int.mul_assoc]
    exact Int.dvd_mul_left ..
  obtain ⟨b, _, hd, ho⟩ := strip_dvd hp pp 40 0 n h'
  rcases ho with ho | ho
  · have g := pp _ ho
    clear h h'
    induction b with
    | zero => rw [Int.pow_zero, Int.one_mul] at hd; exact hd
    | succ b ih =>
      rw [Int.pow_succ, Int.mul_comm (p ^ b) p, Int.mul_assoc] at hd
      exact ih (by omega) (cop_dvd g hd)
  · subst ho
    rw [Int.pow_zero, Int.one_mul] at hd
    exact hd

def primes : List Int := [2, 3, 5, 7, 11, 13, 17, 19, 23, 29, 31, 37, 41, 43, 47, 53, 59]
def pows : List Nat := [5, 3, 2, 2, 1, 1, 1, 1, 1, 1, 1, 1, 1, 1, 1, 1, 1]
def prodP : List Int → List Nat → Int
  | p :: ps, a :: as => p ^ a * prodP ps as
  | _, _ => 1
theorem all60 : ∀ r : Fin 61, 1 ≤ r.val → ((r.val : Int)) ∣ prodP primes pows := by decide +kernel
theorem to60 {r : Int} (h1 : 1 ≤ r) (h2 : r ≤ 60) : r ∣ prodP primes pows := by
  have := all60 ⟨r.toNat, by omega⟩ (by show 1 ≤ r.toNat; omega)
  have e : ((r.toNat : Nat) : Int) = r := by omega
  rw [← e]
  exact this
/-- the rest behind the first i primes -/
def restAt (L : Int) : Nat → Int
  | 0 => L
  | i + 1 => strip (primes.getD i 2) 40 (restAt L i)
theorem primes_ok : ∀ i : Fin 17, ∀ d : Fin 60, d.val ≤ (primes.getD i.val 2).toNat → d.val ∣ (primes.getD i.val 2).toNat → d.val = 1 ∨ d.val = (primes.getD i.val 2).toNat := by decide +kernel
theorem primes_two : ∀ i : Fin 17, 2 ≤ primes.getD i.val 2 ∧ primes.getD i.val 2 ≤ 59 := by decide +kernel
theorem pows_le : ∀ i : Fin 17, pows.getD i.val 0 ≤ 40 := by decide +kernel
theorem prod_step : ∀ i : Fin 17, prodP (primes.drop i.val) (pows.drop i.val) = primes.getD i.val 2 ^ pows.getD i.val 0 * prodP (primes.drop (i.val + 1)) (pows.drop (i.val + 1)) := by decide +kernel
theorem prime_at (i : Fin 17) : isP (primes.getD i.val 2) := by
  have h2 := primes_two i
  have e : primes.getD i.val 2 = (((primes.getD i.val 2).toNat : Nat) : Int) := by omega
  rw [e]
  exact prime_of (fun d hd hv => primes_ok i ⟨d, by omega⟩ hd hv) (by omega)
theorem rest_dvd {L : Int} (h : L ∣ prodP primes pows) : ∀ i : Nat, i ≤ 17 → restAt L i ∣ prodP (primes.drop i) (pows.drop i)
  | 0, _ => h
  | i + 1, hi => by
    have ih := rest_dvd h i (by omega)
    rw [prod_step ⟨i, by omega⟩] at ih
    exact strip_all (primes_two ⟨i, by omega⟩).1 (prime_at ⟨i, by omega⟩) (pows_le ⟨i, by omega⟩) ih
theorem rest_pos {L : Int} (h : 0 < L) : ∀ i : Nat, i ≤ 17 → 0 < restAt L i
  | 0, _ => h
  | i + 1, hi => strip_pos (primes_two ⟨i, by omega⟩).1 (rest_pos h i (by omega)) 40
theorem rest_one {L : Int} (h0 : 0 < L) (h : L ∣ prodP primes pows) : restAt L 17 = 1 := by
  have h1 := rest_dvd h 17 (Nat.le_refl _)
  have h2 := rest_pos h0 17 (Nat.le_refl _)
  have h3 : prodP (primes.drop 17) (pows.drop 17) = 1 := by decide
  rw [h3] at h1
  have := Int.le_of_dvd (by decide) h1
  omega
/-! the facts that the law asks -/
theorem found_is {part : Int} {row : List Int} (hp : 0 < part) (hr : ∀ r ∈ row, 1 ≤ r ∧ r ≤ 60) (hne : row ≠ []) : ∃ L : Int, tog 1 (row.map (part * ·)) = part * L ∧ 0 < L ∧ (∀ r ∈ row, r ∣ L) ∧ L ∣ prodP primes pows ∧ ∀ p, 2 ≤ p → p ∣ L → ¬ ∀ r ∈ row, r ∣ L / p := by
  have hpos : ∀ e ∈ row.map (part * ·), 0 < e := by
    intro e he
    obtain ⟨r, hr', rfl⟩ := List.mem_map.mp he
    exact Int.mul_pos hp (by have := (hr r hr').1; omega)
  have hd := tog_dvd (row.map (part * ·)) 1 (by decide) hpos
  have h0 := tog_pos (row.map (part * ·)) 1 (by decide) hpos
  obtain ⟨x, rest, rfl⟩ : ∃ x rest, row = x :: rest := by
    cases row with
    | nil => exact absurd rfl hne
    | cons x rest => exact ⟨x, rest, rfl⟩
  have hx := hd (part * x) (List.mem_map.mpr ⟨x, List.mem_cons_self, rfl⟩)
  obtain ⟨L, hL⟩ : part ∣ tog 1 ((x :: rest).map (part * ·)) := Int.dvd_trans (Int.dvd_mul_right ..) hx
  have L0 : 0 < L := by
    rcases Int.lt_or_le 0 L with h | h
    · exact h
    · have := Int.mul_nonpos_of_nonneg_of_nonpos (a := part) (by omega) h
      omega
  have canc : ∀ a b : Int, part * a ∣ part * b → a ∣ b := fun a b h => Int.dvd_of_mul_dvd_mul_left (by omega) h
  refine ⟨L, hL, L0, fun r hr' => canc _ _ (by rw [← hL]; exact hd _ (List.mem_map.mpr ⟨r, hr', rfl⟩)), canc _ _ ?_, fun p hp2 hpL hall => ?_⟩
  · rw [← hL]
    refine tog_least _ 1 (by decide) hpos (Int.one_dvd _) fun e he => ?_
    obtain ⟨r, hr', rfl⟩ := List.mem_map.mp he
    exact Int.mul_dvd_mul_left part (to60 (hr r hr').1 (hr r hr').2)
  · obtain ⟨c, hc⟩ := hpL
    have ec : L / p = c := by
      rw [hc]
      exact Int.mul_ediv_cancel_left _ (by omega)
    rw [ec] at hall
    have d1 : tog 1 ((x :: rest).map (part * ·)) ∣ part * c := by
      refine tog_least _ 1 (by decide) hpos (Int.one_dvd _) fun e he => ?_
      obtain ⟨r, hr', rfl⟩ := List.mem_map.mp he
      exact Int.mul_dvd_mul_left part (hall r hr')
    rw [hL] at d1
    have d2 := canc _ _ d1
    have c0 : 0 < c := by
      rcases Int.lt_or_le 0 c with h | h
      · exact h
      · have := Int.mul_nonpos_of_nonneg_of_nonpos (a := p) (by omega) h
        omega
    have le1 := Int.le_of_dvd c0 d2
    have : 2 * c ≤ p * c := Int.mul_le_mul_of_nonneg_right hp2 (by omega)
    omega

def spTog : Sp := fun vs H Q _ => ∃ (a : Addr) (es : List Int) (N : Int), vs = [.ref a] ∧ H a = some (.lst (es.map V.int)) ∧ (∀ e ∈ es, 0 < e) ∧ (∀ e ∈ es, e ∣ N) ∧ 0 < N ∧ N < 2 ^ 190 ∧ Q (.int (tog 1 es)) H
theorem int_at {es : List Int} {i : Nat} {x : V} (h : (es.map V.int)[i]? = some x) : ∃ e, es[i]? = some e ∧ x = .int e := by
  rw [List.getElem?_map] at h
  cases e : es[i]? with
  | none =>
    rw [e] at h
    cases h
  | some x =>
    rw [e] at h
    exact ⟨x, rfl, (Option.some.inj h).symm⟩
theorem ok_together (T : Tx K mg) : FnOk P w K mg base CX0 2 T.f_together T.fd_together ["rounds"] spTog := by
  refine T.F_together.ok sc_together (fun vs H Q E h => ?_) (fun cdv A outer s H vs Q E hr h => ?_)
  · obtain ⟨a, es, N, rfl, _⟩ := h
    rfl
  · obtain ⟨a, es, N, rfl, ha, hp, hN, N0, N1, q⟩ := h
    refine ⟨_, (pss_cons (ps_set (i := 1) sc_together.nd rfl (Or.inl rfl) pe_int)
      (pss_cons (ps_for PassesOwn.never rfl (pi_list (pv 0)) (pg_name (i := 2) sc_together.nd rfl (Or.inl rfl))
      (pss_one (ps_set (i := 1) sc_together.nd rfl (Or.inl rfl) (pe_op op_mulW (pe_op op_fdivW (pv 1) (pe_call (ok_common T) (hr.mono (by decide)) (by rfl) T.g_common T.F_common.kp T.b_common .nil pass0 (pa_cons (pv 1) (pa_cons (pv 2) pa_nil)))) (pv 2)))))
      (pss_one (ps_ret (pv 1))))), ?_⟩
    walk_at "sw"
    refine ⟨a, rfl, ⟨_, SqL.of ha⟩, l_lst (xs := es.map V.int) (fun i σ H' => ∃ v, σ = [some (.ref a), some (.int (tog 1 (es.take i))), v] ∧ H' = H) ⟨_, rfl, rfl⟩ ?_ ?_ ?_⟩
    · rintro i σ H' hi ⟨v, rfl, rfl⟩
      exact SqL.of ha
    · rintro i x σ H' hx ⟨v, rfl, rfl⟩
      obtain ⟨e, he, rfl⟩ := int_at hx
      have em := List.mem_of_getElem? he
      have e0 := hp e em
      have sub : ∀ y, y ∈ es.take i → y ∈ es := fun y hy => List.mem_of_mem_take hy
      have m0 := tog_pos (es.take i) 1 (by decide) (fun y hy => hp y (sub y hy))
      have mN := tog_least (es.take i) 1 (by decide) (fun y hy => hp y (sub y hy)) (Int.one_dvd N) (fun y hy => hN y (sub y hy))
      have m1 := Int.le_of_dvd N0 mN
      have e1 := Int.le_of_dvd N0 (hN e em)
      obtain ⟨m, hm⟩ : ∃ m, m = tog 1 (es.take i) := ⟨_, rfl⟩
      have hnext : tog 1 (es.take (i + 1)) = lc m e := by
        rw [List.take_add_one, he, hm]
        exact tog_snoc 1 e _ 1
      rw [← hm] at m0 m1 ⊢
      walk_at "sw"
      refine ⟨m, e, rfl, by omega, by omega, ?_⟩
      have g0 : (0 : Int) < Int.gcd m e := by
        have := Int.gcd_pos_of_ne_zero_left e (a := m) (by omega)
        omega
      have gle : (Int.gcd m e : Int) ≤ m := Int.le_of_dvd m0 (Int.gcd_dvd_left ..)
      have d0 : 0 ≤ m / (Int.gcd m e : Int) := Int.ediv_nonneg (by omega) (by omega)
      have d1 : m / (Int.gcd m e : Int) ≤ m := Int.ediv_le_self _ (by omega)
      refine i_rI (wide_div (b := 200) g0 (by omega) (by decide) (by decide)) ?_
      walk_at "sw"
      refine i_rI (wide_mul (a := 200) (b := 200) (by omega) (by omega) (by decide) (by decide) (by decide)) ?_
      walk_at "sw"
      refine ⟨some (.int e), ?_, rfl⟩
      rw [hnext]
      rfl
    · rintro σ H' ⟨v, rfl, rfl⟩
      rw [List.length_map, List.take_length]
      walk_at "sw"
      exact q
def spAll : Sp := fun vs H Q _ => ∃ (a : Addr) (row : List Int) (n : Int), vs = [.ref a, .int n] ∧ H a = some (.lst (row.map V.int)) ∧ (∀ r ∈ row, 0 < r) ∧ row.length ≤ 1000 ∧ ∀ H', Same H H' → Q (.bl (row.all fun r => decide (n % r = 0))) H'
theorem ok_law_all (T : Tx K mg) : FnOk P w K mg base CX0 1 T.f_law_all T.fd_law_all ["_law_row", "_law_number"] spAll := by
  refine T.F_law_all.ok sc_law_all (fun vs H Q E h => ?_) (fun cdv A outer s H vs Q E hr h => ?_)
  · obtain ⟨a, row, n, rfl, _⟩ := h
    rfl
  · obtain ⟨a, row, n, rfl, ha, hp, hl, q⟩ := h
    refine ⟨_, (pss_one (ps_ret (pe_callB (cr_all (by rfl)) (by rfl) T.z_all bt_all (pa_cons (pe_lc (own := [("_law_one", 2)]) (by rfl) sc_law_all.nd (pi_list (pv 0)) (blkOk_by (own := [("_law_one", 2)]) (N := ["_law_row", "_law_number", "_law_one"]) (sc := defScope s_law_all) (by decide +kernel)) (fun _ _ _ _ _ => (pg_name (i := 2) sc_law_all.nd rfl (Or.inl rfl))) (fun _ _ _ _ _ => pts_nil) (fun _ _ _ _ _ => (pe_cmpR op_eq (pe_op op_mod (pv 1) (pv 2)) pe_int (nomark _)))) pa_nil)))), ?_⟩
    walk_at "sw"
    refine ⟨a, rfl, ⟨_, SqL.of ha⟩, fun C nC => c_map (xs := row.map V.int) (fun v => match v with | .int r => .bl (decide (n % r = 0)) | _ => .non) (SqL.of ha) nC (by rw [List.length_map]; exact hl) (fun v => rfl) ?_ ?_⟩
    · intro x hx H' hH R hR
      obtain ⟨r, hr', rfl⟩ := List.mem_map.mp hx
      have r0 := hp r hr'
      walk_at "sw"
      exact hR
    · walk_at "sw"
      refine i_all (bs := row.map fun r => decide (n % r = 0)) ?_ ?_
      · rw [upd_same, List.map_map, List.map_map]
        rfl
      · have e : (row.map fun r => decide (n % r = 0)).all id = row.all fun r => decide (n % r = 0) := by
          rw [List.all_map]
          rfl
        rw [e]
        exact q _ (same_new nC)
theorem ok_law (T : Tx K mg) : FnOk P w K mg base CX0 3 T.f_law T.fd_law ["_law_script"] (spLaw K) := by
  refine T.F_law.ok sc_law (fun vs H Q E h => ?_) (fun cdv A outer s0 H vs Q E hr h => ?_)
  · obtain ⟨a, ns, rfl, _⟩ := h
    rfl
  · obtain ⟨a, ns, rfl, hS, hlen, hbits, q⟩ := h
    refine ⟨_, (pss_cons (ps_set (i := 1) sc_law.nd rfl (Or.inr rfl) (pe_call (ok_law_start T) (hr.mono (by decide)) (by rfl) T.g_law_start T.F_law_start.kp T.b_law_start .nil pass0 (pa_cons (pv 0) pa_nil)))
      (pss_cons (ps_set (i := 2) sc_law.nd rfl (Or.inr rfl) pe_int)
      (pss_cut (ps_if (pt_cmpR op_eq (pe_call (ok_law_draw T) (hr.mono (by decide)) (by rfl) T.g_law_draw T.F_law_draw.kp T.b_law_draw .nil pass0 (pa_cons (pv 1) (pa_cons pe_int pa_nil))) pe_int (nomark _))
      (pss_one (ps_set (i := 2) sc_law.nd rfl (Or.inr rfl) (pe_op op_add pe_int (pe_call (ok_law_draw T) (hr.mono (by decide)) (by rfl) T.g_law_draw T.F_law_draw.kp T.b_law_draw .nil pass0 (pa_cons (pv 1) (pa_cons (pe_op op_pow pe_int pe_int) pa_nil))))))
      pss_nil)
      (pss_cons (ps_setLc (i := 3) (own := [("_law_k", 10)]) (by rfl) sc_law.nd rfl rfl (sw_true rfl rfl rfl (by decide +kernel)) (pi_range1 (by rfl) T.z_range (pa_cons (pe_call (ok_law_draw T) (hr.mono (by decide)) (by rfl) T.g_law_draw T.F_law_draw.kp T.b_law_draw .nil pass0 (pa_cons (pv 1) (pa_cons pe_int pa_nil))) pa_nil)) (blkOk_by (own := [("_law_k", 10)]) (N := ["_law_script", "_law_s", "_law_part", "_law_row", "_law_handed", "_law_found", "_law_the_most", "_law_rest", "_law_prime", "_law_turn", "_law_k", "_law_one"]) (sc := defScope s_law) (by decide +kernel)) (fun _ _ _ _ _ => (pg_name (i := 10) sc_law.nd rfl (Or.inl rfl))) (fun _ _ _ _ _ => pts_nil) (fun _ _ _ _ _ => (pe_op op_add pe_int (pe_call (ok_law_draw T) (hr.mono (by decide)) (by rfl) T.g_law_draw T.F_law_draw.kp T.b_law_draw .nil pass0 (pa_cons (pv 1) (pa_cons pe_int pa_nil))))))
      (pss_cons (ps_setLc (i := 4) (own := [("_law_one", 11)]) (by rfl) sc_law.nd rfl rfl (sw_true rfl rfl rfl (by decide +kernel)) (pi_list (pv 3)) (blkOk_by (own := [("_law_one", 11)]) (N := ["_law_script", "_law_s", "_law_part", "_law_row", "_law_handed", "_law_found", "_law_the_most", "_law_rest", "_law_prime", "_law_turn", "_law_k", "_law_one"]) (sc := defScope s_law) (by decide +kernel)) (fun _ _ _ _ _ => (pg_name (i := 11) sc_law.nd rfl (Or.inl rfl))) (fun _ _ _ _ _ => pts_nil) (fun _ _ _ _ _ => (pe_op op_mulW (pv 2) (pv 11))))
      (pss_cons (ps_set (i := 5) sc_law.nd rfl (Or.inl rfl) (pe_call (ok_together T) (hr.mono (by decide)) (by rfl) T.g_together T.F_together.kp T.b_together .nil pass0 (pa_cons (pv 4) pa_nil)))
      (pss_cons (ps_if ((pw_or (pt_cmpR (op_neD hr.units) (pv 4) (pe_lc (own := [("_law_one", 11)]) (by rfl) sc_law.nd (pi_list (pv 3)) (blkOk_by (own := [("_law_one", 11)]) (N := ["_law_script", "_law_s", "_law_part", "_law_row", "_law_handed", "_law_found", "_law_the_most", "_law_rest", "_law_prime", "_law_turn", "_law_k", "_law_one"]) (sc := defScope s_law) (by decide +kernel)) (fun _ _ _ _ _ => (pg_name (i := 11) sc_law.nd rfl (Or.inl rfl))) (fun _ _ _ _ _ => pts_nil) (fun _ _ _ _ _ => (pe_op op_mulW (pv 2) (pv 11)))) (nomark _)) (pw_or (pt_not (pt_val (pe_call (ok_law_whole T) (hr.mono (by decide)) (by rfl) T.g_law_whole T.F_law_whole.kp T.b_law_whole .nil pass0 (pa_cons (pv 5) pa_nil)))) (pw_or1 (pt_cmpR op_lt (pv 5) pe_int (nomark _)))))).pt
      (pss_one (ps_ret pe_bl))
      pss_nil)
      (pss_cons (ps_if (pt_cmpR op_eq (pe_callB call_len_seq (by rfl) T.z_len bt_len (pa_cons (pv 3) pa_nil)) pe_int (nomark _))
      (pss_one (ps_ret (pe_cmpR op_eq (pv 5) pe_int (nomark _))))
      pss_nil)
      (pss_cons (ps_if ((pw_or (pt_cmpR op_ne (pe_op op_mod (pv 5) (pv 2)) pe_int (nomark _)) (pw_or1 (pt_not (pt_val (pe_call (ok_law_all T) (hr.mono (by decide)) (by rfl) T.g_law_all T.F_law_all.kp T.b_law_all .nil pass0 (pa_cons (pv 3) (pa_cons (pe_op op_fdivW (pv 5) (pv 2)) pa_nil)))))))).pt
      (pss_one (ps_ret pe_bl))
      pss_nil)
      (pss_cons (ps_set (i := 6) sc_law.nd rfl (Or.inl rfl) (pe_op op_fdivW (pv 5) (pv 2)))
      (pss_cons (ps_set (i := 7) sc_law.nd rfl (Or.inl rfl) (pv 6))
      (pss_cons (ps_for PassesOwn.never rfl (pi_list (pe_lst (pa_cons pe_int (pa_cons pe_int (pa_cons pe_int (pa_cons pe_int (pa_cons pe_int (pa_cons pe_int (pa_cons pe_int (pa_cons pe_int (pa_cons pe_int (pa_cons pe_int (pa_cons pe_int (pa_cons pe_int (pa_cons pe_int (pa_cons pe_int (pa_cons pe_int (pa_cons pe_int (pa_cons pe_int pa_nil))))))))))))))))))) (pg_name (i := 8) sc_law.nd rfl (Or.inl rfl))
      (pss_cut (ps_if ((pw_and (pt_cmpR op_eq (pe_op op_mod (pv 6) (pv 8)) pe_int (nomark _)) (pw_and1 (pt_val (pe_call (ok_law_all T) (hr.mono (by decide)) (by rfl) T.g_law_all T.F_law_all.kp T.b_law_all .nil pass0 (pa_cons (pv 3) (pa_cons (pe_op op_fdivW (pv 6) (pv 8)) pa_nil))))))).pt
      (pss_one (ps_ret pe_bl))
      pss_nil)
      (pss_one (ps_for PassesOwn.never rfl (pi_range1 (by rfl) T.z_range (pa_cons pe_int pa_nil)) (pg_name (i := 9) sc_law.nd rfl (Or.inl rfl))
      (pss_one (ps_if (pt_cmpR op_eq (pe_op op_mod (pv 7) (pv 8)) pe_int (nomark _))
      (pss_one (ps_set (i := 7) sc_law.nd rfl (Or.inl rfl) (pe_op op_fdivW (pv 7) (pv 8))))
      pss_nil))))))
      (pss_one (ps_ret (pe_cmpR op_eq (pv 7) pe_int (nomark _)))))))))))))))), ?_⟩
    walk_at "sw"
    refine ⟨a, ns, H, rfl, hS, Same.refl H, fun s U H1 g D n0 => ?_⟩
    have hU := g.vh
    walk_at "sw"
    refine i_cut (fun σ H' => ∃ part : Int, σ = some (.ref a) :: some (.ref s) :: some (.int part) :: List.replicate 9 none ∧ 0 < part ∧ part < 2 ^ 31 ∧ Same U H' ∧ Dr U H' s) ?_ ?_
    · walk_at "sw"
      refine ⟨s, 3, U, rfl, by decide, by decide, hU, D, fun c H3 c0 c1 hU3 D3 ho => ?_⟩
      walk_at "sw"
      refine i_ite (fun h => ?_) (fun h => ?_)
      · walk_at "sw"
        refine ⟨s, _, U, rfl, by decide, by decide, hU3, D3, fun x H4 x0 x1 hU4 D4 ho => ?_⟩
        have e9 : (10 : Int) ^ Int.toNat 9 = 1000000000 := by decide
        rw [e9] at x1
        walk_at "sw"
        exact ⟨_, rfl, by omega, by omega, hU4, D4⟩
      · walk_at "sw"
        exact ⟨_, rfl, by decide, by decide, hU3, D3⟩
    · rintro σ H3 ⟨part, rfl, p0, p1, hU3, D3⟩
      walk_at "sw"
      refine ⟨s, 7, U, rfl, by decide, by decide, hU3, D3, fun c H4 c0 c1 hU4 D4 ho => ?_⟩
      walk_at "sw"
      refine ⟨by omega, by omega, fun C nC => c_draws (fun y => 1 ≤ y ∧ y ≤ 60) (by omega) hU4 D4 nC (fun v => rfl) ?_ ?_⟩
      · intro i H5 h5 d5 R hR
        walk_at "sw"
        refine ⟨s, 60, U, rfl, by decide, by decide, h5, d5, fun x H6 x0 x1 hU6 D6 ho => ?_⟩
        walk_at "sw"
        exact hR _ _ ⟨by omega, by omega⟩ hU6 D6 ho
      · intro row H5 hlen5 hrow hU5 D5 nUC hoff hC
        walk_at "sw"
        have hr60 : row.length ≤ 1000 := by omega
        have mulk : ∀ (H' : Hp) (R : VK) (r : Int), r ∈ row → R (.int (part * r)) H' → rI CMulW (fun i j => V.int (i * j)) (.int part) (.int r) H' R := fun H' R r hr hR =>
          i_rI (wide_mul (a := 32) (b := 32) (by omega) (by have := hrow r hr; omega) (by decide) (by decide) (by decide)) hR
        have e2 : ∀ f : V → V, (∀ r : Int, f (.int r) = .int (part * r)) → (row.map V.int).map f = (row.map (part * ·)).map V.int := fun f hf => by
          rw [List.map_map, List.map_map]
          exact List.map_congr_left fun r _ => hf r
        refine ⟨C, rfl, ⟨_, SqL.of hC⟩, fun C2 n2 => c_map (xs := row.map V.int) (fun v => match v with | .int r => .int (part * r) | _ => .non) (SqL.of hC) n2 (by rw [List.length_map]; exact hr60) (fun v => rfl) ?_ ?_⟩
        · intro x hx H' hH R hR
          obtain ⟨r, hr', rfl⟩ := List.mem_map.mp hx
          walk_at "sw"
          exact mulk _ _ _ hr' hR
        · rw [e2 _ (fun r => rfl)]
          obtain ⟨H6, e6⟩ : ∃ X, X = upd H5 C2 (.lst ((row.map (part * ·)).map V.int)) := ⟨_, rfl⟩
          have h6C : H6 C = some (.lst (row.map V.int)) := by rw [e6]; exact upd_get n2 hC
          have h62 : H6 C2 = some (.lst ((row.map (part * ·)).map V.int)) := by rw [e6, upd_same]
          rw [← e6]
          have hpos : ∀ e ∈ row.map (part * ·), 0 < e := by
            intro e he
            obtain ⟨r, hr', rfl⟩ := List.mem_map.mp he
            exact Int.mul_pos p0 (by have := (hrow r hr').1; omega)
          have M0 : prodP primes pows = 9690712164777231700912800 := by decide +kernel
          have M1 : 0 < part * prodP primes pows := Int.mul_pos p0 (by rw [M0]; decide)
          have M2 : part * prodP primes pows < 2 ^ 190 := by
            rw [M0]
            omega
          walk_at "sw"
          refine ⟨C2, row.map (part * ·), part * prodP primes pows, rfl, h62, hpos, ?_, M1, M2, ?_⟩
          · intro e he
            obtain ⟨r, hr', rfl⟩ := List.mem_map.mp he
            exact Int.mul_dvd_mul_left part (to60 (hrow r hr').1 (hrow r hr').2)
          have f0 : 0 < tog 1 (row.map (part * ·)) := tog_pos _ 1 (by decide) hpos
          obtain ⟨F, eF⟩ : ∃ X, X = tog 1 (row.map (part * ·)) := ⟨_, rfl⟩
          rw [← eF] at f0 ⊢
          walk_at "sw"
          refine ⟨C, rfl, ⟨_, SqL.of h6C⟩, fun C3 n3 => c_map (xs := row.map V.int) (fun v => match v with | .int r => .int (part * r) | _ => .non) (SqL.of h6C) n3 (by rw [List.length_map]; exact hr60) (fun v => rfl) ?_ ?_⟩
          · intro x hx H' hH R hR
            obtain ⟨r, hr', rfl⟩ := List.mem_map.mp hx
            walk_at "sw"
            exact mulk _ _ _ hr' hR
          · rw [e2 _ (fun r => rfl)]
            obtain ⟨H7, e7⟩ : ∃ X, X = upd H6 C3 (.lst ((row.map (part * ·)).map V.int)) := ⟨_, rfl⟩
            have h7C : H7 C = some (.lst (row.map V.int)) := by rw [e7]; exact upd_get n3 h6C
            have h72 : H7 C2 = some (.lst ((row.map (part * ·)).map V.int)) := by rw [e7]; exact upd_get n3 h62
            have h73 : H7 C3 = some (.lst ((row.map (part * ·)).map V.int)) := by rw [e7, upd_same]
            rw [← e7]
            walk_at "sw"
            refine i_neT (dp_ints h72) (dp_ints h73) (lay_ints _) ?_
            walk_at "sw"
            refine ⟨_, rfl, ⟨_, rfl⟩, ?_⟩
            walk_at "sw"
            refine i_ite (fun h => by omega) (fun h => ?_)
            walk_at "sw"
            rw [List.length_map]
            refine i_ite (fun h => ?_) (fun h => ?_)
            · walk_at "sw"
              have er : row = [] := List.eq_nil_of_length_eq_zero (by omega)
              have : F = 1 := by rw [eF, er]; rfl
              rw [decide_eq_true this]
              exact q _
            · have hne : row ≠ [] := fun z => by
                rw [z] at h
                exact h rfl
              obtain ⟨L, hL, L0, Ld, LM, Lp⟩ := found_is p0 hrow hne
              rw [← eF] at hL
              have hpos2 : ∀ r ∈ row, 0 < r := fun r hr => by have := (hrow r hr).1; omega
              have hL2 : F / part = L := by
                rw [hL]
                exact Int.mul_ediv_cancel_left _ (by omega)
              have hL3 : F % part = 0 := by
                rw [hL]
                exact Int.mul_emod_right ..
              walk_at "sw"
              rw [hL3, decide_eq_true rfl]
              walk_at "sw"
              rw [hL2]
              refine ⟨C, row, L, rfl, h7C, hpos2, hr60, fun H8 s8 => ?_⟩
              have allT : (row.all fun r => decide (L % r = 0)) = true := by
                rw [List.all_eq_true]
                intro r hr
                exact decide_eq_true (Int.emod_eq_zero_of_dvd (Ld r hr))
              rw [allT]
              walk_at "sw"
              rw [hL2]
              intro pl npl
              obtain ⟨H9, e9⟩ : ∃ X, X = upd H8 pl (.lst (primes.map V.int)) := ⟨_, rfl⟩
              have s9 : Same H7 H9 := by
                rw [e9]
                exact s8.trans (same_new npl)
              have h9p : H9 pl = some (.lst (primes.map V.int)) := by rw [e9, upd_same]
              have e9' : upd H8 pl (.lst [.int 2, .int 3, .int 5, .int 7, .int 11, .int 13, .int 17, .int 19, .int 23, .int 29, .int 31, .int 37, .int 41, .int 43, .int 47, .int 53, .int 59]) = H9 := by
                rw [e9]
                rfl
              rw [e9']
              clear e9 e9'
              walk_at "sw"
              refine ⟨pl, rfl, ⟨_, SqL.of h9p⟩, l_lst (xs := primes.map V.int) (fun i σ H' => ∃ v8 v9, σ = [some (.ref a), some (.ref s), some (.int part), some (.ref C), some (.ref C2), some (.int F), some (.int L), some (.int (restAt L i)), v8, v9, none, none] ∧ Same H9 H') ⟨_, _, rfl, Same.refl _⟩ ?_ ?_ ?_⟩
              · rintro i σ H' hi ⟨v8, v9, rfl, h⟩
                exact SqL.of (h _ _ h9p)
              · rintro i x σ H' hx ⟨v8, v9, rfl, hH'⟩
                obtain ⟨p, hp, rfl⟩ := int_at hx
                have hi : i < 17 := (List.getElem?_eq_some_iff.mp hp).1
                have pe : primes.getD i 2 = p := by
                  rw [List.getD_eq_getElem?_getD, hp]
                  rfl
                obtain ⟨p2, p59⟩ := primes_two ⟨i, hi⟩
                rw [show primes.getD (Fin.val ⟨i, hi⟩) 2 = p from pe] at p2 p59
                have hC' := hH' _ _ (s9 _ _ h7C)
                walk_at "sw"
                refine i_cut (fun σ H2 => σ = [some (.ref a), some (.ref s), some (.int part), some (.ref C), some (.ref C2), some (.int F), some (.int L), some (.int (restAt L i)), some (.int p), v9, none, none] ∧ Same H9 H2) ?_ ?_
                · walk_at "sw"
                  refine i_ite (fun hz => ?_) (fun hz => ?_)
                  · walk_at "sw"
                    refine ⟨C, row, L / p, rfl, hC', hpos2, hr60, fun H10 s10 => ?_⟩
                    have nall : (row.all fun r => decide (L / p % r = 0)) = false := by
                      rw [Bool.eq_false_iff]
                      intro hall
                      rw [List.all_eq_true] at hall
                      exact Lp p p2 (Int.dvd_of_emod_eq_zero hz) fun r hr => Int.dvd_of_emod_eq_zero (of_decide_eq_true (hall r hr))
                    rw [nall]
                    walk_at "sw"
                    exact ⟨rfl, hH'.trans s10⟩
                  · walk_at "sw"
                    exact ⟨rfl, hH'⟩
                · rintro σ H2 ⟨rfl, hH2⟩
                  walk_at "sw"
                  refine ⟨by decide, by decide, l_rng (fun k σ H3 => ∃ v9, σ = [some (.ref a), some (.ref s), some (.int part), some (.ref C), some (.ref C2), some (.int F), some (.int L), some (.int (strip p k (restAt L i))), some (.int p), v9, none, none] ∧ H3 = H2) ⟨_, rfl, rfl⟩ ?_ ?_⟩
                  · rintro k σ H3 hk ⟨v9, rfl, rfl⟩
                    have es : strip p (k + 1) (restAt L i) = if strip p k (restAt L i) % p = 0 then strip p k (restAt L i) / p else strip p k (restAt L i) := rfl
                    walk_at "sw"
                    refine i_ite (fun hz => ?_) (fun hz => ?_)
                    · walk_at "sw"
                      exact ⟨some (.int (0 + (k : Int))), by rw [es, if_pos hz]; rfl, rfl⟩
                    · walk_at "sw"
                      exact ⟨some (.int (0 + (k : Int))), by rw [es, if_neg hz]; rfl, rfl⟩
                  · rintro σ H3 ⟨v9, rfl, rfl⟩
                    have er : restAt L (i + 1) = strip p 40 (restAt L i) := by
                      show strip (primes.getD i 2) 40 (restAt L i) = _
                      rw [pe]
                    exact ⟨some (.int p), v9, by rw [er]; rfl, hH2⟩
              · rintro σ H' ⟨v8, v9, rfl, hH'⟩
                have e17 : (primes.map V.int).length = 17 := rfl
                rw [e17, rest_one L0 LM]
                walk_at "sw"
                exact q _

end
theorem all_mk {l : PySem.W.OpenLaw} {w : World} {K : PySem.W.Frag} {h : Heap} {mg : Str → Option Value} {fa : Addr} (X : K.In h) (G : h.Ns mainGlobals mg) (hfa : mg "law" = some (.ref fa))
    {f0 : Addr} {od0 an0 : Option Addr} {sl0 : Array (Option Value)} {oc0 kV0 dc0 pm0 cd0 ct0 : Value}
    {f1 : Addr} {od1 an1 : Option Addr} {sl1 : Array (Option Value)} {oc1 kV1 dc1 pm1 cd1 ct1 : Value}
    {f2 : Addr} {od2 an2 : Option Addr} {sl2 : Array (Option Value)} {oc2 kV2 dc2 pm2 cd2 ct2 : Value}
    {f3 : Addr} {od3 an3 : Option Addr} {sl3 : Array (Option Value)} {oc3 kV3 dc3 pm3 cd3 ct3 : Value}
    {f4 : Addr} {od4 an4 : Option Addr} {sl4 : Array (Option Value)} {oc4 kV4 dc4 pm4 cd4 ct4 : Value}
    {f5 : Addr} {od5 an5 : Option Addr} {sl5 : Array (Option Value)} {oc5 kV5 dc5 pm5 cd5 ct5 : Value}
    {f6 : Addr} {od6 an6 : Option Addr} {sl6 : Array (Option Value)} {oc6 kV6 dc6 pm6 cd6 ct6 : Value}
    (a0 : PySem.W.nsIn K mainGlobals "common" = some (some (.ref f0))) (l0 : K.lookup f0 = some ⟨oc0, od0, .func (PySem.W.fnOf "common" "common" (defArgs s_common) (defBody s_common) (defScope s_common) .none kV0 dc0 pm0 an0 cd0 ct0), sl0⟩) (c0 : PySem.W.codeIn K cd0 "common" = true) (k0 : PySem.W.keepIn K (.ref f0) = true)
    (a1 : PySem.W.nsIn K mainGlobals "together" = some (some (.ref f1))) (l1 : K.lookup f1 = some ⟨oc1, od1, .func (PySem.W.fnOf "together" "together" (defArgs s_together) (defBody s_together) (defScope s_together) .none kV1 dc1 pm1 an1 cd1 ct1), sl1⟩) (c1 : PySem.W.codeIn K cd1 "together" = true) (k1 : PySem.W.keepIn K (.ref f1) = true)
    (a2 : PySem.W.nsIn K mainGlobals "_law_start" = some (some (.ref f2))) (l2 : K.lookup f2 = some ⟨oc2, od2, .func (PySem.W.fnOf "_law_start" "_law_start" (defArgs s_law_start) (defBody s_law_start) (defScope s_law_start) .none kV2 dc2 pm2 an2 cd2 ct2), sl2⟩) (c2 : PySem.W.codeIn K cd2 "_law_start" = true) (k2 : PySem.W.keepIn K (.ref f2) = true)
    (a3 : PySem.W.nsIn K mainGlobals "_law_draw" = some (some (.ref f3))) (l3 : K.lookup f3 = some ⟨oc3, od3, .func (PySem.W.fnOf "_law_draw" "_law_draw" (defArgs s_law_draw) (defBody s_law_draw) (defScope s_law_draw) .none kV3 dc3 pm3 an3 cd3 ct3), sl3⟩) (c3 : PySem.W.codeIn K cd3 "_law_draw" = true) (k3 : PySem.W.keepIn K (.ref f3) = true)
    (a4 : PySem.W.nsIn K mainGlobals "_law_whole" = some (some (.ref f4))) (l4 : K.lookup f4 = some ⟨oc4, od4, .func (PySem.W.fnOf "_law_whole" "_law_whole" (defArgs s_law_whole) (defBody s_law_whole) (defScope s_law_whole) .none kV4 dc4 pm4 an4 cd4 ct4), sl4⟩) (c4 : PySem.W.codeIn K cd4 "_law_whole" = true) (k4 : PySem.W.keepIn K (.ref f4) = true)
    (a5 : PySem.W.nsIn K mainGlobals "_law_all" = some (some (.ref f5))) (l5 : K.lookup f5 = some ⟨oc5, od5, .func (PySem.W.fnOf "_law_all" "_law_all" (defArgs s_law_all) (defBody s_law_all) (defScope s_law_all) .none kV5 dc5 pm5 an5 cd5 ct5), sl5⟩) (c5 : PySem.W.codeIn K cd5 "_law_all" = true) (k5 : PySem.W.keepIn K (.ref f5) = true)
    (a6 : PySem.W.nsIn K mainGlobals "law" = some (some (.ref f6))) (l6 : K.lookup f6 = some ⟨oc6, od6, .func (PySem.W.fnOf "law" "law" (defArgs s_law) (defBody s_law) (defScope s_law) .none kV6 dc6 pm6 an6 cd6 ct6), sl6⟩) (c6 : PySem.W.codeIn K cd6 "law" = true) (k6 : PySem.W.keepIn K (.ref f6) = true)
    (z_abs : PySem.W.nsIn K mainGlobals "abs" = some none)
    (z_all : PySem.W.nsIn K mainGlobals "all" = some none)
    (z_bool : PySem.W.nsIn K mainGlobals "bool" = some none)
    (z_int : PySem.W.nsIn K mainGlobals "int" = some none)
    (z_isinstance : PySem.W.nsIn K mainGlobals "isinstance" = some none)
    (z_len : PySem.W.nsIn K mainGlobals "len" = some none)
    (z_list : PySem.W.nsIn K mainGlobals "list" = some none)
    (z_range : PySem.W.nsIn K mainGlobals "range" = some none) :
    ∃ fd : FuncData, (∀ (s : Shared) (v : Value), BindsTo s fd ⟨[v], []⟩ [("_law_script", v)]) ∧ ∀ base : Heap, K.In base → base.Ns mainGlobals mg → FnOk l.prog w K mg base CX0 3 fa fd ["_law_script"] (spLaw K) := by
  have e := hfa.symm.trans (PySem.W.mg_of X G a6)
  cases e
  have F0 := fun_mk (st := s_common) l0 c0 k0
  have b0 := F0.binds (ps := ["p", "q"]) fun _ _ _ _ _ _ us hl => match us, hl with | [_, _], _ => rfl
  have F1 := fun_mk (st := s_together) l1 c1 k1
  have b1 := F1.binds (ps := ["rounds"]) fun _ _ _ _ _ _ us hl => match us, hl with | [_], _ => rfl
  have F2 := fun_mk (st := s_law_start) l2 c2 k2
  have b2 := F2.binds (ps := ["_law_script"]) fun _ _ _ _ _ _ us hl => match us, hl with | [_], _ => rfl
  have F3 := fun_mk (st := s_law_draw) l3 c3 k3
  have b3 := F3.binds (ps := ["_law_s", "_law_many"]) fun _ _ _ _ _ _ us hl => match us, hl with | [_, _], _ => rfl
  have F4 := fun_mk (st := s_law_whole) l4 c4 k4
  have b4 := F4.binds (ps := ["_law_x"]) fun _ _ _ _ _ _ us hl => match us, hl with | [_], _ => rfl
  have F5 := fun_mk (st := s_law_all) l5 c5 k5
  have b5 := F5.binds (ps := ["_law_row", "_law_number"]) fun _ _ _ _ _ _ us hl => match us, hl with | [_, _], _ => rfl
  have F6 := fun_mk (st := s_law) l6 c6 k6
  have b6 := F6.binds (ps := ["_law_script"]) fun _ _ _ _ _ _ us hl => match us, hl with | [_], _ => rfl
  refine ⟨PySem.W.fnOf "law" "law" (defArgs s_law) (defBody s_law) (defScope s_law) .none kV6 dc6 pm6 an6 cd6 ct6, fun s v => .of_eq rfl, fun base _ _ => ?_⟩
  exact ok_law (T := ({ f_common := f0, fd_common := _, F_common := F0, b_common := b0, g_common := PySem.W.mg_of X G a0, f_together := f1, fd_together := _, F_together := F1, b_together := b1, g_together := PySem.W.mg_of X G a1, f_law_start := f2, fd_law_start := _, F_law_start := F2, b_law_start := b2, g_law_start := PySem.W.mg_of X G a2, f_law_draw := f3, fd_law_draw := _, F_law_draw := F3, b_law_draw := b3, g_law_draw := PySem.W.mg_of X G a3, f_law_whole := f4, fd_law_whole := _, F_law_whole := F4, b_law_whole := b4, g_law_whole := PySem.W.mg_of X G a4, f_law_all := f5, fd_law_all := _, F_law_all := F5, b_law_all := b5, g_law_all := PySem.W.mg_of X G a5, f_law := fa, fd_law := _, F_law := F6, b_law := b6, g_law := PySem.W.mg_of X G a6, z_abs := PySem.W.mg_none_of X G z_abs, z_all := PySem.W.mg_none_of X G z_all, z_bool := PySem.W.mg_none_of X G z_bool, z_int := PySem.W.mg_none_of X G z_int, z_isinstance := PySem.W.mg_none_of X G z_isinstance, z_len := PySem.W.mg_none_of X G z_len, z_list := PySem.W.mg_none_of X G z_list, z_range := PySem.W.mg_none_of X G z_range } : Tx K mg))

end SW
open PySem PySem.W PyProof.Rows
set_option maxRecDepth 100000 in
set_option maxHeartbeats 0 in
theorem PySem.Challenge.cw_slotwright_k02_rounds_together_holds : PySem.Challenge.rw_slotwright_k02_rounds_together.Holds := by
  w_on; o_law; k_head; (case hw => w_witness2)
  k_fill
  refine L2.walk_ofB (l := PySem.Challenge.rw_slotwright_k02_rounds_together) (n := 63) (k := 3) (x := "_law_script") (CX := fun _ => L2.CX0) (sp := fun w => SW.spLaw _) rfl (by decide) rfl ⟨rfl, by decide, by decide⟩ (fun w h Y => PySem.W.kIn_of Y) ?F (fun _ _ a ns hl hb _ hS => ⟨a, ns, rfl, hS, hl, hb, fun _ => rfl⟩) (fun _ _ _ _ _ h => h)
  case F =>
    intro w mg fa h KX G hmg
    refine' SW.all_mk KX G hmg ?a0 ?l0 ?c0 ?k0 ?a1 ?l1 ?c1 ?k1 ?a2 ?l2 ?c2 ?k2 ?a3 ?l3 ?c3 ?k3 ?a4 ?l4 ?c4 ?k4 ?a5 ?l5 ?c5 ?k5 ?a6 ?l6 ?c6 ?k6 ?z_abs ?z_all ?z_bool ?z_int ?z_isinstance ?z_len ?z_list ?z_range
    (case a0 => k_is)
    (case l0 => k_is)
    (case c0 => k_is)
    (case k0 => k_is)
    (case a1 => k_is)
    (case l1 => k_is)
    (case c1 => k_is)
    (case k1 => k_is)
    (case a2 => k_is)
    (case l2 => k_is)
    (case c2 => k_is)
    (case k2 => k_is)
    (case a3 => k_is)
    (case l3 => k_is)
    (case c3 => k_is)
    (case k3 => k_is)
    (case a4 => k_is)
    (case l4 => k_is)
    (case c4 => k_is)
    (case k4 => k_is)
    (case a5 => k_is)
    (case l5 => k_is)
    (case c5 => k_is)
    (case k5 => k_is)
    (case a6 => k_is)
    (case l6 => k_is)
    (case c6 => k_is)
    (case k6 => k_is)
    (case z_abs => k_is)
    (case z_all => k_is)
    (case z_bool => k_is)
    (case z_int => k_is)
    (case z_isinstance => k_is)
    (case z_len => k_is)
    (case z_list => k_is)
    (case z_range => k_is)
#print axioms PySem.Challenge.cw_slotwright_k02_rounds_together_holds

