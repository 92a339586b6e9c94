import PyProof.Rows.All
import Wide.All
import OpenK.AllK
import Wide.FinOn
import HandS.ForMost
import HandS.Wide
import HandS.IsInst
import HandS.EndBits
import HandS.Flow
import HandS.Defaults
import HandS.MakeKwOnly
import HandS.Exc
import HandS.ExcOwn
import HandS.WordsExc
import HandS.TryOnly
import HandS.HotCalls
import HandS.Small
import HandS.ExcField
import KE.KExcIs
import HandS.ExcIs
import HandS.CallSlots
import HandS.MakeKw
import HandS.Walk
import HandS.Style
import HandS.TupAny
import HandS.Deep
import HandS.Strs
import HandS.Set
import HandS.Zip
import HandS.Text
import HandS.Codes
import HandS.Steps
import PyProof.Rows.SortShellAny
import HandS.Sort
import HandS.TryOnly
import KE.KDictSum
import HandS.ExcValue
import HandS.WordsDict
import KE.GoesMore
import KE.SortKeyHeap
import HandS.Lambda
import HandS.SortKw
import HandS.EndOwn
import KE.KNestM
import HandS.DictComp
import HandS.TupLen
import KE.KDictCopyH
import KE.DataMinMax
import HandS.ExcInit
import PyProof.TwoTypesSub
import PyProof.IsRules
import HandS.DictComp
import PySem.Challenge.RW_slotwright_k07_drop_and_full
set_option Elab.async false
set_option linter.all false
set_option maxRecDepth 100000
set_option maxHeartbeats 4000000
namespace SW
open PySem L2
theorem same_new {U : Hp} {p : Addr} {o : HO} (h : U p = none) : Same U (upd U p o) := fun b x e => by
  rw [upd_ne (ne_of_none e h)]
  exact e
theorem same_mut {U H : Hp} {p : Addr} {o : HO} (e : Same U H) (h : U p = none) : Same U (upd H p o) := fun a u ha => by
  rw [upd_ne (ne_of_none ha h)]
  exact e a u ha
theorem upd_get {H : Hp} {p a : Addr} {o x : HO} (n : H p = none) (h : H a = some x) : upd H p o a = some x := by
  rw [upd_ne (ne_of_none h n)]
  exact h
/-- neither a table of codes nor a code -/
def plO : HO → Bool
  | .tbl _ => false
  | .ext _ => false
  | _ => true
def Pl (H : Hp) (p : Addr) : Prop := ∃ o, H p = some o ∧ plO o = true
theorem ntb {o : HO} (h : plO o = true) : ∀ ps, o ≠ .tbl ps := fun ps z => by
  subst z
  cases h
theorem Pl.ne {H : Hp} {p : Addr} (h : Pl H p) : H p ≠ none := by
  obtain ⟨o, e, _⟩ := h
  rw [e]
  intro z
  cases z
theorem Pl.of {H : Hp} {p : Addr} {o : HO} (h : H p = some o) (k : plO o = true) : Pl H p := ⟨o, h, k⟩
theorem Pl.eq {H H' : Hp} {p : Addr} (h : Pl H p) (e : H' p = H p) : Pl H' p := by
  obtain ⟨o, h1, h2⟩ := h
  exact ⟨o, e.trans h1, h2⟩
/-- a view without tables -/
def NT (U : Hp) : Prop := ∀ a ps, U a ≠ some (.tbl ps)
theorem nt_upd {U : Hp} {p : Addr} {o : HO} (h : NT U) (n : ∀ ps, o ≠ .tbl ps) : NT (upd U p o) := fun a ps z => by
  by_cases e : a = p
  · subst e
    rw [upd_same] at z
    exact n ps (Option.some.inj z)
  · rw [upd_ne e] at z
    exact h a ps z
/-- a table of codes stands on where it and its codes do -/
theorem tab_keep {H H' : Hp} {P : Addr} {q : Str} (h : LamX.TabS H P q) (k : ∀ b o, H b = some o → plO o = false → H' b = some o) : LamX.TabS H' P q := by
  obtain ⟨ps, h1, h2, h3⟩ := h
  refine ⟨ps, k _ _ h1 rfl, h2, fun pos cv hc => ?_⟩
  obtain ⟨c, e1, e2⟩ := h3 pos cv hc
  exact ⟨c, e1, k _ _ e2 rfl⟩
theorem tab_mut {H : Hp} {p P : Addr} {q : Str} {o : HO} (h : LamX.TabS H P q) (old : ∀ x, H p = some x → plO x = true) : LamX.TabS (upd H p o) P q := tab_keep h fun b x e n => by
  rw [upd_ne fun z => by
    subst z
    rw [old x e] at n
    cases n]
  exact e
/-- the name of the codes that a table holds -/
class QN where
  qn : Addr → Str
variable [QN]
structure Gr (M : List Addr) (U H U' H' : Hp) : Prop where
  vv : Same U U'
  vh : Same U' H'
  hh : ∀ a o, a ∉ M → (∀ ps, o ≠ .tbl ps) → H a = some o → H' a = some o
  dom : ∀ a, H a ≠ none → H' a ≠ none
  fr : ∀ a, U a = none → H a ≠ none → U' a = none
  tb : ∀ P, LamX.TabS H P (QN.qn P) → LamX.TabS H' P (QN.qn P)
  nt : NT U → NT U'
theorem Gr.refl {M : List Addr} {U H : Hp} (e : Same U H) : Gr M U H U H := ⟨Same.refl _, e, fun _ _ _ _ h => h, fun _ h => h, fun _ h _ => h, fun _ h => h, id⟩
theorem Gr.trans {M : List Addr} {U0 H0 U1 H1 U2 H2 : Hp} (a : Gr M U0 H0 U1 H1) (b : Gr M U1 H1 U2 H2) : Gr M U0 H0 U2 H2 :=
  ⟨a.vv.trans b.vv, b.vh, fun x o m n h => b.hh x o m n (a.hh x o m n h), fun x h => b.dom x (a.dom x h), fun x h k => b.fr x (a.fr x h k) (a.dom x k), fun P h => b.tb P (a.tb P h), fun h => b.nt (a.nt h)⟩
theorem Gr.weak {M N : List Addr} {U0 H0 U1 H1 : Hp} (a : Gr M U0 H0 U1 H1) (s : ∀ x, x ∈ M → x ∈ N) : Gr N U0 H0 U1 H1 :=
  ⟨a.vv, a.vh, fun x o m n h => a.hh x o (fun z => m (s x z)) n h, a.dom, a.fr, a.tb, a.nt⟩
theorem Gr.any {N : List Addr} {U0 H0 U1 H1 : Hp} (a : Gr [] U0 H0 U1 H1) : Gr N U0 H0 U1 H1 := a.weak fun _ h => nomatch h
theorem Gr.at {M : List Addr} {U0 H0 U1 H1 : Hp} {p : Addr} (a : Gr M U0 H0 U1 H1) (m : p ∉ M) (h : Pl H0 p) : H1 p = H0 p := by
  obtain ⟨o, e, n⟩ := h
  rw [e, a.hh p o m (ntb n) e]
/-- a new object that never changes -/
theorem Gr.new {M : List Addr} {U0 H0 U H : Hp} {p : Addr} {o : HO} (g : Gr M U0 H0 U H) (n : H p = none) (no : ∀ ps, o ≠ .tbl ps := by intro _ z; cases z) : Gr M U0 H0 (upd U p o) (upd H p o) := by
  have nu : U p = none := g.vh.free n
  have n0 : H0 p = none := by
    cases e : H0 p with
    | none => rfl
    | some x => exact absurd n (g.dom p (by rw [e]; intro z; cases z))
  refine ⟨g.vv.trans (same_new nu), fun a x h => ?_, fun a x m nn h => ?_, fun a h => ?_, fun a h k => ?_, fun P h => tab_mut (g.tb P h) (fun x e => by rw [n] at e; cases e), fun h => nt_upd (g.nt h) no⟩
  · by_cases e : a = p
    · subst e
      rw [upd_same] at h ⊢
      exact h
    · rw [upd_ne e] at h ⊢
      exact g.vh a x h
  · rw [upd_ne (ne_of_none h n0)]
    exact g.hh a x m nn h
  · by_cases e : a = p
    · subst e
      rw [upd_same]
      intro z
      cases z
    · rw [upd_ne e]
      exact g.dom a h
  · have e : a ≠ p := fun z => by
      subst z
      exact k n0
    rw [upd_ne e]
    exact g.fr a h k
/-- a new object that will change -/
theorem Gr.newM {M : List Addr} {U0 H0 U H : Hp} {p : Addr} {o : HO} (g : Gr M U0 H0 U H) (n : H p = none) : Gr M U0 H0 U (upd H p o) := by
  have nu : U p = none := g.vh.free n
  refine ⟨g.vv, same_mut g.vh nu, fun a x m nn h => ?_, fun a h => ?_, g.fr, fun P h => tab_mut (g.tb P h) (fun x e => by rw [n] at e; cases e), g.nt⟩
  · rw [upd_ne (ne_of_none (g.hh a x m nn h) n)]
    exact g.hh a x m nn h
  · by_cases e : a = p
    · subst e
      rw [upd_same]
      intro z
      cases z
    · rw [upd_ne e]
      exact g.dom a h
/-- an object outside of the view changes: one of M, or one that is newer than H0 -/
theorem Gr.mut {M : List Addr} {U0 H0 U H : Hp} {p : Addr} {o : HO} (g : Gr M U0 H0 U H) (nu : U p = none) (n0 : p ∈ M ∨ H0 p = none) (old : Pl H p) : Gr M U0 H0 U (upd H p o) := by
  refine ⟨g.vv, same_mut g.vh nu, fun a x m nn h => ?_, fun a h => ?_, g.fr, fun P h => tab_mut (g.tb P h) (fun x e => by
    obtain ⟨y, e1, e2⟩ := old
    rw [e1] at e
    cases e
    exact e2), g.nt⟩
  · have e : a ≠ p := fun z => by
      subst z
      rcases n0 with n0 | n0
      · exact m n0
      · rw [n0] at h
        cases h
    rw [upd_ne e]
    exact g.hh a x m nn h
  · by_cases e : a = p
    · subst e
      rw [upd_same]
      intro z
      cases z
    · rw [upd_ne e]
      exact g.dom a h
theorem Gr.fresh {M : List Addr} {U0 H0 U H : Hp} {p : Addr} (g : Gr M U0 H0 U H) (n : H p = none) : H0 p = none := by
  cases e : H0 p with
  | none => rfl
  | some x => exact absurd n (g.dom p (by rw [e]; intro z; cases z))
section
variable {X : Cx} {K : PySem.W.Frag}
theorem ix_listK (h : X.K = K) : IxR X (rIxL K) := by subst h; exact ix_list
theorem ix_tupK (h : X.K = K) : IxR X (rIxT K) := by subst h; exact ix_tup
theorem sl_listK (h : X.K = K) : SlR X (rSlL K) := by subst h; exact sl_list
theorem op_inK (h : X.K = K) : OpR X (compareOp .In) (rIn K false) := by subst h; exact op_in_seq
theorem op_notInK (h : X.K = K) : OpR X (compareOp .NotIn) (rIn K true) := by subst h; exact op_notIn_seq
theorem op_eqDK (h : X.K = K) (hu : X.A.units + 64 < cLine) : OpR X (compareOp .Eq) (rEqD K) := by subst h; exact op_eqD hu
theorem op_neDK (h : X.K = K) (hu : X.A.units + 64 < cLine) : OpR X (compareOp .NotEq) (rNeD K) := by subst h; exact op_neD hu
def rLenK (K : PySem.W.Frag) : List V → Hp → VK → Prop := fun xs H Q => ∃ p ys, xs = [.ref p] ∧ (SqL K H p ys ∨ SqT K H p ys) ∧ Q (.int ys.length) H
def rListK (K : PySem.W.Frag) : List V → Hp → VK → Prop := fun xs H Q => ∃ p ys, xs = [.ref p] ∧ (SqL K H p ys ∨ SqT K H p ys) ∧ ∀ l, H l = none → Q (.ref l) (upd H l (.lst ys))
def rTupleK (K : PySem.W.Frag) : List V → Hp → VK → Prop := fun xs H Q => ∃ p ys, xs = [.ref p] ∧ ((SqL K H p ys ∧ ∀ l, H l = none → Q (.ref l) (upd H l (.tup ys))) ∨ (SqT K H p ys ∧ Q (.ref p) H))
theorem call_lenK (h : X.K = K) : CallR X (.builtin "len") (rLenK K) := by subst h; exact call_len_seq
theorem call_listK (h : X.K = K) : CallR X (.type "list") (rListK K) := by subst h; exact call_list_of
theorem call_tupleK (h : X.K = K) : CallR X (.type "tuple") (rTupleK K) := by subst h; exact call_tuple_of
theorem cr_allK (h : X.K = K) (hc : X.calm = true) : CallR X (.builtin "all") (rAll K) := by subst h; exact cr_all hc
theorem call_isiKK (h : X.K = K) : CallR X (.builtin "isinstance") (rIsi K) := by subst h; exact call_isi
theorem pi_listK {tg e : Expr} {te : TE} (h : X.K = K) (he : PE X e te) : PI X tg e (iList K te) := by subst h; exact pi_list he
theorem pi_tupK {tg e : Expr} {te : TE} (h : X.K = K) (he : PE X e te) : PI X tg e (iTup K te) := by subst h; exact pi_tup he
theorem pg_tupK {pos : Pos} {es : List Expr} {k : Nat} {t : TGs} {n : Nat} (h : X.K = K) (hc : X.calm = true) (hh : PGs X es t) (hn : (assignEach es X.env).length = n := by rfl) (hst : (assignEach es X.env).findIdx? (·.1) = none := by rfl) : PG X (.Tuple es k pos) (gTup K n t) := by subst h; exact pg_tup hc hh hn hst
theorem pe_fldK {pos : Pos} {e : Expr} {ta : TE} {f : Str} (h : X.K = K) (he : PE X e ta) (hb : attributeBase e f X.env (eval e X.env) = eval e X.env) : PE X (.Attribute e f pos) (tFld K ta f) := by subst h; exact pe_fld he hb
end
section
variable {σ : L2.St} {H : Hp} {Q : VK} {te ta tb tc : TE} {i : Nat} {v x y : V} {K : PySem.W.Frag} {n bk ct : L2.St → Hp → Prop} {rt : VK} {t u : TS} {g : TG}
theorem i_var (h : σ[i]? = some (some v)) (q : Q v H) : tVar i σ H Q := ⟨v, h, q⟩
theorem i_c (q : Q v H) : tC v σ H Q := q
theorem i_op {r : R2} (q : ta σ H (fun x H1 => tb σ H1 fun y H2 => r x y H2 Q)) : tOp r ta tb σ H Q := q
theorem i_un {r : V → Hp → VK → Prop} (q : ta σ H (fun x H1 => r x H1 Q)) : tUn r ta σ H Q := q
theorem i_rI0 {f : Int → Int → V} {a b : Int} (q : Q (f a b) H) : rI0 f (.int a) (.int b) H Q := ⟨a, b, rfl, rfl, q⟩
theorem i_rI {C : Int → Int → Prop} {f : Int → Int → V} {a b : Int} (c : C a b) (q : Q (f a b) H) : rI C f (.int a) (.int b) H Q := ⟨a, b, rfl, rfl, c, q⟩
theorem i_rU {f : Int → V} {a : Int} (q : Q (f a) H) : rU f (.int a) H Q := ⟨a, rfl, q⟩
theorem i_eqI {a b : Int} (q : Q (.bl (decide (a = b))) H) : rEq (.int a) (.int b) H Q := ⟨rfl, by
  have e : decide (V.int a = V.int b) = decide (a = b) := by
    by_cases h : a = b
    · rw [decide_eq_true h, decide_eq_true (congrArg V.int h)]
    · rw [decide_eq_false h, decide_eq_false (fun z => h (V.int.inj z))]
  show Q (.bl (decide (V.int a = V.int b))) H
  rw [e]
  exact q⟩
theorem i_neI {a b : Int} (q : Q (.bl (!decide (a = b))) H) : rNe (.int a) (.int b) H Q := ⟨rfl, by
  have e : decide (V.int a = V.int b) = decide (a = b) := by
    by_cases h : a = b
    · rw [decide_eq_true h, decide_eq_true (congrArg V.int h)]
    · rw [decide_eq_false h, decide_eq_false (fun z => h (V.int.inj z))]
  show Q (.bl (!decide (V.int a = V.int b))) H
  rw [e]
  exact q⟩
theorem i_eqS {a b : Str} (q : Q (.bl (decide (a = b))) H) : rEq (.str a) (.str b) H Q := ⟨rfl, by
  have e : decide (V.str a = V.str b) = decide (a = b) := by
    by_cases h : a = b
    · rw [decide_eq_true h, decide_eq_true (congrArg V.str h)]
    · rw [decide_eq_false h, decide_eq_false (fun z => h (V.str.inj z))]
  show Q (.bl (decide (V.str a = V.str b))) H
  rw [e]
  exact q⟩
theorem i_neS {a b : Str} (q : Q (.bl (!decide (a = b))) H) : rNe (.str a) (.str b) H Q := ⟨rfl, by
  have e : decide (V.str a = V.str b) = decide (a = b) := by
    by_cases h : a = b
    · rw [decide_eq_true h, decide_eq_true (congrArg V.str h)]
    · rw [decide_eq_false h, decide_eq_false (fun z => h (V.str.inj z))]
  show Q (.bl (!decide (V.str a = V.str b))) H
  rw [e]
  exact q⟩
theorem i_nil {R : List V → Hp → Prop} (q : R [] H) : tNil σ H R := q
theorem i_cons {R : List V → Hp → Prop} {tr : TA} (q : ta σ H (fun x H1 => tr σ H1 fun xs H2 => R (x :: xs) H2)) : tCons ta tr σ H R := q
theorem i_cb {r : List V → Hp → VK → Prop} {tr : TA} (q : tr σ H (fun vs H1 => r vs H1 Q)) : tCB r tr σ H Q := q
theorem i_call {sp : Sp} {dvs : List V} {E : XK} {tr : TA} (q : tr σ H (fun vs H1 => sp (vs ++ dvs) H1 Q E)) : tCall sp dvs E tr σ H Q := q
theorem i_callN {k m : Nat} {sp : Sp} {gV : List V → List V → List V} {E : XK} {tr tk : TA} (q : tr σ H fun vs H1 => tk σ H1 fun zs H2 => vs.length = k ∧ zs.length = m ∧ sp (gV vs zs) H2 Q E) : tCallN k m sp gV E tr tk σ H Q := q
theorem i_seq (q : t ⟨u ⟨n, rt, bk, ct⟩, rt, bk, ct⟩ σ H) : tSeq t u ⟨n, rt, bk, ct⟩ σ H := q
theorem i_next (q : n σ H) : tNext ⟨n, rt, bk, ct⟩ σ H := q
theorem i_brk (q : bk σ H) : tBreak ⟨n, rt, bk, ct⟩ σ H := q
theorem i_cont (q : ct σ H) : tCont ⟨n, rt, bk, ct⟩ σ H := q
theorem i_set (q : te σ H (fun x H1 => n (σ.set i (some x)) H1)) : tAsg te (gName i) ⟨n, rt, bk, ct⟩ σ H := q
theorem i_asg (q : te σ H (fun x H1 => g x σ H1 n)) : tAsg te g ⟨n, rt, bk, ct⟩ σ H := q
theorem i_drop (q : te σ H (fun _ H1 => n σ H1)) : tDrop te ⟨n, rt, bk, ct⟩ σ H := q
theorem i_ret (q : te σ H rt) : tRet te ⟨n, rt, bk, ct⟩ σ H := q
theorem i_retN (q : rt .non H) : tRetN ⟨n, rt, bk, ct⟩ σ H := q
theorem i_if {c : TT} (q : c σ H (fun b H1 => if b = true then t ⟨n, rt, bk, ct⟩ σ H1 else u ⟨n, rt, bk, ct⟩ σ H1)) : tIfS c t u ⟨n, rt, bk, ct⟩ σ H := q
theorem i_test {R : Bool → Hp → Prop} (q : te σ H (fun x H1 => ∃ k, x = .bl k ∧ R k H1)) : tTest te σ H R := q
theorem i_B {R : Bool → Hp → Prop} (q : te σ H (fun x H1 => ∃ k, x = .bl k ∧ R k H1)) : tB te σ H R := q
theorem i_bl {b : Bool} {R : Bool → Hp → Prop} (q : R b H) : ∃ k, V.bl b = .bl k ∧ R k H := ⟨b, rfl, q⟩
theorem i_not {c : TT} {R : Bool → Hp → Prop} (q : c σ H (fun b H1 => R (!b) H1)) : tNot c σ H R := q
theorem i_and {c d : TT} {R : Bool → Hp → Prop} (q : c σ H (fun b H1 => if b = true then d σ H1 R else R false H1)) : tAnd c d σ H R := q
theorem i_or {c d : TT} {R : Bool → Hp → Prop} (q : c σ H (fun b H1 => if b = true then R true H1 else d σ H1 R)) : tOr c d σ H R := q
theorem i_andV (q : ta σ H (fun x H1 => ∃ c, x = .bl c ∧ if c = true then tb σ H1 Q else Q (.bl false) H1)) : tAndV ta tb σ H Q := q
theorem i_orV (q : ta σ H (fun x H1 => ∃ c, x = .bl c ∧ if c = true then Q (.bl true) H1 else tb σ H1 Q)) : tOrV ta tb σ H Q := q
theorem i_notV (q : ta σ H (fun x H1 => ∃ c, x = .bl c ∧ Q (.bl (!c)) H1)) : tNotV ta σ H Q := q
theorem i_blV {b : Bool} {R : Bool → Prop} (q : R b) : ∃ k, V.bl b = .bl k ∧ R k := ⟨b, rfl, q⟩
theorem i_ifE {c : TT} (q : c σ H (fun b H1 => if b = true then ta σ H1 Q else tb σ H1 Q)) : tIf c ta tb σ H Q := q
theorem i_chain {r r' : R2} (q : ta σ H fun x H1 => tb σ H1 fun y H2 => r x y H2 fun z H3 => ∃ k, z = .bl k ∧ (if k = true then tc σ H3 fun w' H4 => r' y w' H4 Q else Q (.bl false) H3)) : tChain r r' ta tb tc σ H Q := q
theorem i_itT {A B : Prop} (q : A) : if true = true then A else B := by rw [if_pos rfl]; exact q
theorem i_itF {A B : Prop} (q : B) : if false = true then A else B := by rw [if_neg Bool.false_ne_true]; exact q
theorem i_ite {p : Prop} [Decidable p] {A B : Prop} (h1 : p → A) (h2 : ¬ p → B) : if decide p = true then A else B := by
  by_cases h : p
  · rw [decide_eq_true h, if_pos rfl]; exact h1 h
  · rw [decide_eq_false h, if_neg Bool.false_ne_true]; exact h2 h
theorem i_iteNT {A B : Prop} (q : B) : if (!true) = true then A else B := i_itF q
theorem i_iteNF {A B : Prop} (q : A) : if (!false) = true then A else B := i_itT q
theorem i_iteNN {b : Bool} {A B : Prop} (q : if b = true then A else B) : if (!!b) = true then A else B := by rw [Bool.not_not]; exact q
theorem i_ixL {p : Addr} {xs : List V} {k : Int} (h : H p = some (.lst xs)) (ha : atI xs k = some v) (q : Q v H) : rIxL K (.ref p) (.int k) H Q := ⟨p, xs, k, v, rfl, rfl, SqL.of h, ha, q⟩
theorem i_ixT {p : Addr} {xs : List V} {k : Int} (h : H p = some (.tup xs)) (ha : atI xs k = some v) (q : Q v H) : rIxT K (.ref p) (.int k) H Q := ⟨p, xs, k, v, rfl, rfl, SqT.of h, ha, q⟩
theorem i_sub {to ti : TE} {s : TSet} {R : L2.St → Hp → Prop} (q : to σ H fun o H1 => ti σ H1 fun j H2 => s o j v H2 fun H3 => R σ H3) : gSub to ti s v σ H R := q
theorem i_setL {p : Addr} {xs : List V} {k : Int} {j : Nat} {R : Hp → Prop} (h : H p = some (.lst xs)) (hk : ixN xs.length k = some j) (q : R (upd H p (.lst (xs.set j v)))) : rSetL (.ref p) (.int k) v H R := ⟨p, xs, k, j, rfl, rfl, h, hk, q⟩
theorem i_lst {tr : TA} (q : tr σ H fun xs H1 => xs.length ≤ sizeLine ∧ ∀ p, H1 p = none → Q (.ref p) (upd H1 p (.lst xs))) : tLst tr σ H Q := q
theorem i_tup {tr : TA} (q : tr σ H fun xs H1 => xs.length ≤ sizeLine ∧ ∀ p, H1 p = none → Q (.ref p) (upd H1 p (.tup xs))) : tTup tr σ H Q := q
theorem i_sl {r : V → Option Int → Option Int → Hp → VK → Prop} {tl th : TO} (q : te σ H fun x H1 => tl σ H1 fun l H2 => th σ H2 fun u H3 => r x l u H3 Q) : tSl r te tl th σ H Q := q
theorem i_nopart {R : Option Int → Hp → Prop} (q : R none H) : tNoPart σ H R := q
theorem i_part {R : Option Int → Hp → Prop} (q : te σ H fun x H1 => ∃ i, x = .int i ∧ R (some i) H1) : tPart te σ H R := q
theorem i_partE {k : Int} {R : Int → Prop} (q : R k) : ∃ i, V.int k = .int i ∧ R i := ⟨k, rfl, q⟩
theorem i_slL {a : Addr} {xs : List V} {lo hi : Option Int} (h : H a = some (.lst xs)) (q : ∀ p, H p = none → Q (.ref p) (upd H p (.lst (cutV xs lo hi)))) : rSlL K (.ref a) lo hi H Q := ⟨a, xs, rfl, SqL.of h, q⟩
theorem i_lenL {p : Addr} {xs : List V} (h : H p = some (.lst xs)) (q : Q (.int xs.length) H) : rLenK K [.ref p] H Q := ⟨p, xs, rfl, .inl (SqL.of h), q⟩
theorem i_lenT {p : Addr} {xs : List V} (h : H p = some (.tup xs)) (q : Q (.int xs.length) H) : rLenK K [.ref p] H Q := ⟨p, xs, rfl, .inr (SqT.of h), q⟩
theorem i_listL {p : Addr} {xs : List V} (h : H p = some (.lst xs)) (q : ∀ l, H l = none → Q (.ref l) (upd H l (.lst xs))) : rListK K [.ref p] H Q := ⟨p, xs, rfl, .inl (SqL.of h), q⟩
theorem i_listT {p : Addr} {xs : List V} (h : H p = some (.tup xs)) (q : ∀ l, H l = none → Q (.ref l) (upd H l (.lst xs))) : rListK K [.ref p] H Q := ⟨p, xs, rfl, .inr (SqT.of h), q⟩
theorem i_tupleL {p : Addr} {xs : List V} (h : H p = some (.lst xs)) (q : ∀ l, H l = none → Q (.ref l) (upd H l (.tup xs))) : rTupleK K [.ref p] H Q := ⟨p, xs, rfl, .inl ⟨SqL.of h, q⟩⟩
theorem i_tupleT {p : Addr} {xs : List V} (h : H p = some (.tup xs)) (q : Q (.ref p) H) : rTupleK K [.ref p] H Q := ⟨p, xs, rfl, .inr ⟨SqT.of h, q⟩⟩
theorem i_bm {Ty : String} {r : V → List V → Hp → VK → Prop} {to : TE} {t : TA} (q : to σ H fun x H1 => tyV K Ty x H1 ∧ t σ H1 fun xs H2 => r x xs H2 Q) : tBM K Ty r to t σ H Q := q
theorem i_bm0 {Ty : String} {r : V → List V → Hp → VK → Prop} {to : TE} (q : to σ H fun x H1 => tyV K Ty x H1 ∧ r x [] H1 Q) : tBM0 K Ty r to σ H Q := q
theorem i_tyL {p : Addr} {xs : List V} {R : Prop} (h : H p = some (.lst xs)) (q : R) : tyV K "list" (.ref p) H ∧ R := ⟨.inl ⟨rfl, _, SqL.of h⟩, q⟩
theorem i_app {p : Addr} {xs : List V} {y : V} (h : H p = some (.lst xs)) (hl : xs.length ≤ 1000) (q : Q .non (upd H p (.lst (xs ++ [y])))) : rAppend (.ref p) [y] H Q := ⟨p, xs, y, rfl, rfl, h, small1000 hl, q⟩
end
def LOOP (J : It) (g : TG) (tb : TS) (D : Ends) (σ : L2.St) (H : Hp) : Prop := ∃ W : Nat → Nat → L2.St → Hp → Prop, (∃ m, W 0 m σ H) ∧ ∀ i m σ H, W i m σ H →
  (J.stop i H ∧ D.nx σ H) ∨ (J.go i H ∧ ∃ N : L2.St → Hp → Prop, (∀ σ' H', N σ' H' → ∃ m', m' < m ∧ W (i + 1) m' σ' H') ∧ ∀ x H', J.yld i H x H' → g x σ H' fun σ2 H2 => tb { D with nx := N, ct := N, bk := D.nx } σ2 H2)
section
variable {σ : L2.St} {H : Hp} {K : PySem.W.Frag} {n bk ct : L2.St → Hp → Prop} {rt : VK} {tb : TS} {g : TG} {te : TE} {ta : TA}
theorem i_for1 (q : ta σ H fun vs H1 => ∃ j : Int, vs = [.int j] ∧ -(2 ^ 62) ≤ j ∧ j < 2 ^ 62 ∧ LOOP (Itr 0 j.toNat) g tb ⟨n, rt, bk, ct⟩ σ H1) : tFor (iRng1 ta) g tb ⟨n, rt, bk, ct⟩ σ H := q
theorem i_for2 (q : ta σ H fun vs H1 => ∃ i j : Int, vs = [.int i, .int j] ∧ (-(2 ^ 62) ≤ i ∧ i < 2 ^ 62 ∧ -(2 ^ 62) ≤ j ∧ j < 2 ^ 62) ∧ LOOP (Itr i (j - i).toNat) g tb ⟨n, rt, bk, ct⟩ σ H1) : tFor (iRng2 ta) g tb ⟨n, rt, bk, ct⟩ σ H := q
theorem i_for3 (q : ta σ H fun vs H1 => ∃ (i j c : Int) (m : Nat), vs = [.int i, .int j, .int c] ∧ RgC i j c m ∧ LOOP (Itc i c m) g tb ⟨n, rt, bk, ct⟩ σ H1) : tFor (iRng3 ta) g tb ⟨n, rt, bk, ct⟩ σ H := q
theorem i_forL (q : te σ H fun x H1 => ∃ a, x = .ref a ∧ (∃ xs, SqL K H1 a xs) ∧ LOOP (Itl K a) g tb ⟨n, rt, bk, ct⟩ σ H1) : tFor (iList K te) g tb ⟨n, rt, bk, ct⟩ σ H := q
theorem i_forT (q : te σ H fun x H1 => ∃ a, x = .ref a ∧ (∃ xs, SqT K H1 a xs) ∧ LOOP (Itt K a) g tb ⟨n, rt, bk, ct⟩ σ H1) : tFor (iTup K te) g tb ⟨n, rt, bk, ct⟩ σ H := q
theorem i_par {i j : Nat} (q : ta σ H fun vs H1 => ∃ v w, vs = [v, w] ∧ n ((σ.set i (some v)).set j (some w)) H1) : tPar i j ta ⟨n, rt, bk, ct⟩ σ H := q
theorem i_parE {x y : V} {R : V → V → Prop} (q : R x y) : ∃ v w, [x, y] = [v, w] ∧ R v w := ⟨x, y, rfl, q⟩
theorem i_aug {i : Nat} {ti : TIp} {x : V} (h : σ[i]? = some (some x)) (q : te σ H fun y H1 => ti x y H1 fun z H2 => n (σ.set i (some z)) H2) : tAug i te ti ⟨n, rt, bk, ct⟩ σ H := ⟨_, h, q⟩
theorem i_ipI {f : Int → Int → Int} {a b : Int} {Q : VK} (q : Q (.int (f a b)) H) : ipI f (.int a) (.int b) H Q := ⟨a, b, rfl, rfl, q⟩
theorem i_asg2 {g1 g2 : TG} (q : te σ H fun x H1 => g1 x σ H1 fun σ1 H2 => g2 x σ1 H2 n) : tAsg2 te g1 g2 ⟨n, rt, bk, ct⟩ σ H := q
theorem i_gtup {a : Addr} {xs : List V} {k : Nat} {tg : TGs} {R : L2.St → Hp → Prop} (h : H a = some (.tup xs)) (hl : xs.length = k) (q : tg xs σ H R) : gTup K k tg (.ref a) σ H R := ⟨a, xs, rfl, SqT.of h, hl, q⟩
theorem i_gcons {v : V} {r : List V} {tg : TGs} {R : L2.St → Hp → Prop} (q : g v σ H fun σ' H' => tg r σ' H' R) : gCons g tg (v :: r) σ H R := ⟨v, r, rfl, q⟩
theorem i_gnil {R : L2.St → Hp → Prop} (q : R σ H) : gNil [] σ H R := ⟨rfl, q⟩
theorem i_gname {i : Nat} {x : V} {R : L2.St → Hp → Prop} (q : R (σ.set i (some x)) H) : gName i x σ H R := q
end
def COMP (J : It) (g : TG) (tt : TT) (te : TE) (vs : List Nat) (σ : L2.St) (H1 : Hp) (D : Addr) (Q : VK) : Prop := ∃ W : Nat → Nat → Hp → Prop, (∃ m, W 0 m (upd H1 D (.lst []))) ∧ ∀ i m H, W i m H →
  (J.stop i H ∧ Q (.ref D) H) ∨ (J.go i H ∧ ∃ Nx : Hp → Prop, (∀ H', Nx H' → ∃ m', m' < m ∧ W (i + 1) m' H') ∧ ∀ x H', J.yld i H x H' → g x (wipe σ vs) H' fun σ2 H2 => wipe σ2 vs = wipe σ vs ∧ tt σ2 H2 fun b H3 =>
    if b = true then te σ2 H3 fun y H4 => ∃ acc, H4 D = some (.lst acc) ∧ acc.length < sizeLine ∧ Nx (upd H4 D (.lst (acc ++ [y]))) else Nx H3)
section
variable {σ : L2.St} {H : Hp} {K : PySem.W.Frag} {Q : VK} {g : TG} {tt : TT} {te tl : TE} {ta : TA} {vs : List Nat}
theorem i_lc1 (q : ta σ H fun us H1 => ∃ j : Int, us = [.int j] ∧ -(2 ^ 62) ≤ j ∧ j < 2 ^ 62 ∧ ∀ D, H1 D = none → COMP (Itr 0 j.toNat) g tt te vs σ H1 D Q) : tLc (iRng1 ta) g tt te vs σ H Q := q
theorem i_lc2 (q : ta σ H fun us H1 => ∃ i j : Int, us = [.int i, .int j] ∧ (-(2 ^ 62) ≤ i ∧ i < 2 ^ 62 ∧ -(2 ^ 62) ≤ j ∧ j < 2 ^ 62) ∧ ∀ D, H1 D = none → COMP (Itr i (j - i).toNat) g tt te vs σ H1 D Q) : tLc (iRng2 ta) g tt te vs σ H Q := q
theorem i_lcL (q : tl σ H fun x H1 => ∃ a, x = .ref a ∧ (∃ xs, SqL K H1 a xs) ∧ ∀ D, H1 D = none → COMP (Itl K a) g tt te vs σ H1 D Q) : tLc (iList K tl) g tt te vs σ H Q := q
theorem i_lcT (q : tl σ H fun x H1 => ∃ a, x = .ref a ∧ (∃ xs, SqT K H1 a xs) ∧ ∀ D, H1 D = none → COMP (Itt K a) g tt te vs σ H1 D Q) : tLc (iTup K tl) g tt te vs σ H Q := q
theorem i_yes {R : Bool → Hp → Prop} (q : R true H) : tYes σ H R := q
end
def LT (U : Hp) (p : Addr) (rows : List (List V)) : Prop := ∃ as : List Addr, U p = some (.lst (as.map V.ref)) ∧ Paired (fun a r => U a = some (.tup r)) as rows
theorem Paired.imp {α β : Type} {F G : α → β → Prop} (h : ∀ a b, F a b → G a b) : ∀ {xs : List α} {ys : List β}, Paired F xs ys → Paired G xs ys
  | _, _, .nil => .nil
  | _, _, .cons a t => .cons (h _ _ a) (Paired.imp h t)
theorem Paired.at {α β : Type} {F : α → β → Prop} : ∀ {xs : List α} {ys : List β}, Paired F xs ys → ∀ (i : Nat) (y : β), ys[i]? = some y → ∃ x, xs[i]? = some x ∧ F x y
  | _, _, .nil, i, y, e => by simp at e
  | _, _, .cons a t, 0, y, e => by
    have e' := Option.some.inj e
    subst e'
    exact ⟨_, rfl, a⟩
  | _, _, .cons a t, i + 1, y, e => Paired.at t i y e
theorem Paired.at' {α β : Type} {F : α → β → Prop} : ∀ {xs : List α} {ys : List β}, Paired F xs ys → ∀ (i : Nat) (x : α), xs[i]? = some x → ∃ y, ys[i]? = some y ∧ F x y
  | _, _, .nil, i, y, e => by simp at e
  | _, _, .cons a t, 0, y, e => by
    have e' := Option.some.inj e
    subst e'
    exact ⟨_, rfl, a⟩
  | _, _, .cons a t, i + 1, y, e => Paired.at' t i y e
theorem Paired.len {α β : Type} {F : α → β → Prop} : ∀ {xs : List α} {ys : List β}, Paired F xs ys → xs.length = ys.length
  | _, _, .nil => rfl
  | _, _, .cons _ t => congrArg (· + 1) (Paired.len t)
theorem Paired.dp {α β : Type} {F : α → β → Prop} : ∀ {xs : List α} {ys : List β} (k : Nat), Paired F xs ys → Paired F (xs.drop k) (ys.drop k)
  | _, _, 0, h => h
  | _, _, _ + 1, .nil => .nil
  | _, _, k + 1, .cons _ t => Paired.dp k t
theorem Paired.mp {α β γ : Type} {F : α → γ → Prop} {f : β → γ} : ∀ {xs : List α} {ys : List β}, Paired (fun a b => F a (f b)) xs ys → Paired F xs (ys.map f)
  | _, _, .nil => .nil
  | _, _, .cons a t => .cons a (Paired.mp t)
theorem LT.mono {U U' : Hp} {p : Addr} {rows : List (List V)} (e : Same U U') (h : LT U p rows) : LT U' p rows := by
  obtain ⟨as, h1, h2⟩ := h
  exact ⟨as, e _ _ h1, Paired.imp (fun a r x => e _ _ x) h2⟩
section
variable {σ : L2.St} {H U : Hp} {K : PySem.W.Frag} {n bk ct : L2.St → Hp → Prop} {rt : VK} {tb : TS} {g : TG} {te : TE} {ta : TA} {p : Addr} {rows : List (List V)}
theorem LT.len (h : LT U p rows) : ∃ xs : List V, U p = some (.lst xs) ∧ xs.length = rows.length := by
  obtain ⟨as, h1, h2⟩ := h
  exact ⟨_, h1, by rw [List.length_map, Paired.len h2]⟩
end
def dV : V → PyData
  | .int i => .int i
  | .bl b => .bool b
  | .str x => .str x
  | _ => .none
theorem LT.dp {K : PySem.W.Frag} {U H : Hp} {p : Addr} {rows : List (List V)} (e : Same U H) (h : LT U p rows) (f : ∀ r ∈ rows, ∀ v ∈ r, Dp K H v (dV v)) : Dp K H (.ref p) (.list (rows.map fun r => .tuple (r.map dV))) := by
  obtain ⟨as, h1, h2⟩ := h
  refine .lst (SqL.of (e _ _ h1)) ?_
  clear h1
  induction h2 with
  | nil => exact .nil
  | @cons a r as rows h t ih =>
    refine .cons (.tup (SqT.of (e _ _ h)) ?_) (ih fun x hx => f x (List.mem_cons_of_mem _ hx))
    have fr := f r List.mem_cons_self
    clear h ih t f
    induction r with
    | nil => exact .nil
    | cons v r ih => exact .cons (fr v List.mem_cons_self) (ih fun x hx => fr x (List.mem_cons_of_mem _ hx))
def Lay (n : Nat) (d : PyData) : Prop := d.canLay0 = true ∧ d.depth ≤ n
theorem lay_int {n : Nat} {i : Int} : Lay n (.int i) := ⟨rfl, Nat.zero_le _⟩
theorem lay_none {n : Nat} : Lay n .none := ⟨rfl, Nat.zero_le _⟩
theorem lay_bool {n : Nat} {b : Bool} : Lay n (.bool b) := ⟨rfl, Nat.zero_le _⟩
theorem Lay.shaped {n : Nat} {d : PyData} (h : Lay n d) (hn : n ≤ 64) : SeqAt.shaped d = true := by
  unfold SeqAt.shaped
  rw [h.1, decide_eq_true (Nat.le_trans h.2 hn)]
  rfl
theorem bt_len : bootBuiltins "len" = some (.builtin "len") := by decide +kernel
theorem bt_abs : bootBuiltins "abs" = some (.builtin "abs") := by decide +kernel
theorem bt_max : bootBuiltins "max" = some (.builtin "max") := by decide +kernel
theorem bt_min : bootBuiltins "min" = some (.builtin "min") := by decide +kernel
theorem bt_all : bootBuiltins "all" = some (.builtin "all") := by decide +kernel
theorem bt_sorted : bootBuiltins "sorted" = some (.builtin "sorted") := by decide +kernel
theorem bt_isinstance : bootBuiltins "isinstance" = some (.builtin "isinstance") := by decide +kernel
theorem bt_list : bootBuiltins "list" = some (.type "list") := by decide +kernel
theorem bt_tuple : bootBuiltins "tuple" = some (.type "tuple") := by decide +kernel
theorem bt_str : bootBuiltins "str" = some (.type "str") := by decide +kernel
theorem bt_int : bootBuiltins "int" = some (.type "int") := by decide +kernel
theorem bt_bool : bootBuiltins "bool" = some (.type "bool") := by decide +kernel
theorem bt_ValueError : bootBuiltins "ValueError" = some (.type "ValueError") := by decide +kernel
section
variable {K : PySem.W.Frag} {H : Hp} {Q : VK}
theorem i_isI {i : Int} (q : Q (.bl true) H) : rIsi K [.int i, .ty "int"] H Q := ⟨.int i, .ty "int", .type "int", .type "int", true, rfl, .ty _, .base (.int _), kit_ty (by decide +kernel), q⟩
theorem i_isB {i : Int} (q : Q (.bl false) H) : rIsi K [.int i, .ty "bool"] H Q := ⟨.int i, .ty "bool", .type "int", .type "bool", false, rfl, .ty _, .base (.int _), kit_ty (by decide +kernel), q⟩
theorem i_isBB {b : Bool} (q : Q (.bl true) H) : rIsi K [.bl b, .ty "bool"] H Q := ⟨.bl b, .ty "bool", .type "bool", .type "bool", true, rfl, .ty _, .base (.bl _), kit_ty (by decide +kernel), q⟩
theorem i_isL {p : Addr} {xs : List V} (h : H p = some (.lst xs)) (q : Q (.bl true) H) : rIsi K [.ref p, .ty "list"] H Q := ⟨.ref p, .ty "list", .type "list", .type "list", true, rfl, .ty _, .base (.lst h), kit_ty (by decide +kernel), q⟩
theorem i_isT {p : Addr} {xs : List V} (h : H p = some (.tup xs)) (q : Q (.bl true) H) : rIsi K [.ref p, .ty "tuple"] H Q := ⟨.ref p, .ty "tuple", .type "tuple", .type "tuple", true, rfl, .ty _, .base (.tup h), kit_ty (by decide +kernel), q⟩
end
structure Dr (U H : Hp) (s : Addr) : Prop where
  ex : ∃ (l : Addr) (ns : List Int) (i b e : Int), H s = some (.lst [.ref l, .int i, .int b, .int e]) ∧ U l = some (.lst (ns.map V.int)) ∧ 0 ≤ i ∧ i ≤ ns.length ∧ 0 ≤ b
  out : U s = none
def spStart (K : PySem.W.Frag) : Sp := fun vs H Q _ => ∃ (a : Addr) (ns : List Int) (U : Hp), vs = [.ref a] ∧ SqL K H a (ns.map V.int) ∧ Same U H ∧
  ∀ s U' H', Gr [] U H U' H' → Dr U' H' s → H s = none → Q (.ref s) H'
def spDraw : Sp := fun vs H Q _ => ∃ (s : Addr) (many : Int) (U : Hp), vs = [.ref s, .int many] ∧ 0 < many ∧ many < 2 ^ 200 ∧ Same U H ∧ Dr U H s ∧
  ∀ r H', 0 ≤ r → r < many → Same U H' → Dr U H' s → (∀ a, a ≠ s → H' a = H a) → Q (.int r) H'
theorem cut63 (ns : List Int) : ∃ ms : List Int, cutV (ns.map V.int) none (some 63) = ms.map V.int := by
  unfold cutV
  exact ⟨(ns.drop _).take _, by rw [List.map_take, List.map_drop]⟩
theorem Dr.mono {U U' H H' : Hp} {s : Addr} (d : Dr U H s) (e : Same U U') (h : H' s = H s) (n : U' s = none) : Dr U' H' s := by
  obtain ⟨⟨l, ns, i, b, e', h1, h2, h3⟩, _⟩ := d
  exact ⟨⟨l, ns, i, b, e', by rw [h]; exact h1, e _ _ h2, h3⟩, n⟩
theorem Dr.pl {U H : Hp} {s : Addr} (d : Dr U H s) : Pl H s := by
  obtain ⟨⟨l, ns, i, b, e', h1, _⟩, _⟩ := d
  exact .of h1 rfl
theorem Dr.some {U H : Hp} {s : Addr} (d : Dr U H s) : H s ≠ none := by
  obtain ⟨⟨l, ns, i, b, e', h1, _⟩, _⟩ := d
  rw [h1]
  intro z
  cases z
/-- a new thing that never changes; a new one that will -/
theorem Dr.new {U H : Hp} {s p : Addr} {o : HO} (d : Dr U H s) (n : H p = none) (e : Same U H) : Dr (upd U p o) (upd H p o) s := by
  have ne : s ≠ p := fun z => by
    subst z
    exact d.some n
  exact d.mono (same_new (e.free n)) (upd_ne ne) (by rw [upd_ne ne]; exact d.out)
theorem Dr.newM {U H : Hp} {s p : Addr} {o : HO} (d : Dr U H s) (n : H p = none) : Dr U (upd H p o) s := by
  have ne : s ≠ p := fun z => by
    subst z
    exact d.some n
  exact d.mono (Same.refl _) (upd_ne ne) d.out
theorem Dr.mut {U H : Hp} {s p : Addr} {o : HO} (d : Dr U H s) (ne : s ≠ p) : Dr U (upd H p o) s := d.mono (Same.refl _) (upd_ne ne) d.out
/-- behind a call that leaves all as it was -/
theorem Dr.gr {M : List Addr} {U U' H H' : Hp} {s : Addr} (d : Dr U H s) (g : Gr M U H U' H') (m : s ∉ M) : Dr U' H' s := by
  obtain ⟨⟨l, ns, i, b, e', h1, h2, h3⟩, n⟩ := d
  exact ⟨⟨l, ns, i, b, e', g.hh _ _ m (ntb rfl) h1, g.vv _ _ h2, h3⟩, g.fr s n (by rw [h1]; intro z; cases z)⟩
section
variable {σ : L2.St} {H : Hp} {K : PySem.W.Frag} {Q : VK} {tt : TT} {te : TE} {vs : List Nat} {a D : Addr} {j : Nat}
theorem upd_id {H H' : Hp} {D : Addr} {o : HO} (h : H' D = some o) (e : ∀ b, b ≠ D → H' b = H b) : H' = upd H D o := by
  funext b
  by_cases z : b = D
  · subst z
    rw [upd_same, h]
  · rw [upd_ne z, e b z]
end
abbrev Tups (U : Hp) (as : List Addr) (rows : List (List V)) : Prop := Paired (fun a r => U a = some (.tup r)) as rows
theorem Tups.mono {U U' : Hp} {as : List Addr} {rows : List (List V)} (e : Same U U') (h : Tups U as rows) : Tups U' as rows := Paired.imp (fun _ _ x => e _ _ x) h
theorem Paired.setAt {α β : Type} {F : α → β → Prop} {a : α} {b : β} (h : F a b) : ∀ {xs : List α} {ys : List β} (i : Nat), Paired F xs ys → Paired F (xs.set i a) (ys.set i b)
  | _, _, _, .nil => .nil
  | _, _, 0, .cons _ t => .cons h t
  | _, _, i + 1, .cons x t => .cons x (Paired.setAt h i t)
theorem Paired.erase {α β : Type} {F : α → β → Prop} : ∀ {xs : List α} {ys : List β} (i : Nat), Paired F xs ys → Paired F (xs.eraseIdx i) (ys.eraseIdx i)
  | _, _, _, .nil => .nil
  | _, _, 0, .cons _ t => t
  | _, _, i + 1, .cons x t => .cons x (Paired.erase i t)
theorem Tups.erase {U : Hp} {as : List Addr} {rows : List (List V)} (i : Nat) (hT : Tups U as rows) : Tups U (as.eraseIdx i) (rows.eraseIdx i) := Paired.erase i hT
theorem Tups.snoc {U : Hp} {as : List Addr} {rows : List (List V)} {a : Addr} {r : List V} (h : U a = some (.tup r)) (hT : Tups U as rows) : Tups U (as ++ [a]) (rows ++ [r]) := Paired.snoc hT h
theorem ixN_of {n j : Nat} {k : Int} (e : k = (j : Int)) (h : j < n) : ixN n k = some j := by
  unfold ixN
  rw [e, if_pos (by omega), if_pos (by omega), Int.toNat_natCast]
theorem Tups.dp {K : PySem.W.Frag} {U H : Hp} {p : Addr} {as : List Addr} {rows : List (List V)} (h2 : Tups U as rows) (e : Same U H) (h1 : SqL K H p (as.map V.ref)) (f : ∀ r ∈ rows, ∀ v ∈ r, Dp K H v (dV v)) : Dp K H (.ref p) (.list (rows.map fun r => .tuple (r.map dV))) := by
  refine .lst h1 ?_
  clear h1
  induction h2 with
  | nil => exact .nil
  | @cons a r as rows h t ih =>
    refine .cons (.tup (SqT.of (e _ _ h)) ?_) (ih fun x hx => f x (List.mem_cons_of_mem _ hx))
    have fr := f r List.mem_cons_self
    clear h ih t f
    induction r with
    | nil => exact .nil
    | cons v r ih => exact .cons (fr v List.mem_cons_self) (ih fun x hx => fr x (List.mem_cons_of_mem _ hx))
end SW
namespace SWS
open PySem PySem.Spec PyProof.Rows SS
/-- how many unlike ones -/
inductive DCnt : List Str → Nat → Prop
  | nil : DCnt [] 0
  | old {xs : List Str} {c : Nat} {x : Str} : DCnt xs c → x ∈ xs → DCnt (xs ++ [x]) c
  | new {xs : List Str} {c : Nat} {x : Str} : DCnt xs c → x ∉ xs → DCnt (xs ++ [x]) (c + 1)
theorem DCnt.le {xs : List Str} {c : Nat} (h : DCnt xs c) : c ≤ xs.length ∧ (c = xs.length ↔ xs.Nodup) := by
  induction h with
  | nil => exact ⟨Nat.le_refl _, by simp⟩
  | @old xs c x h hx ih =>
    obtain ⟨i1, i2⟩ := ih
    rw [List.length_append, List.length_singleton]
    refine ⟨by omega, ⟨fun e => by omega, fun n => ?_⟩⟩
    exact absurd rfl ((List.nodup_append.mp n).2.2 x hx x (List.mem_singleton.mpr rfl))
  | @new xs c x h hx ih =>
    obtain ⟨i1, i2⟩ := ih
    rw [List.length_append, List.length_singleton]
    refine ⟨by omega, ⟨fun e => ?_, fun n => ?_⟩⟩
    · refine List.nodup_append.mpr ⟨i2.mp (by omega), by simp, fun a ha b hb z => ?_⟩
      rw [List.mem_singleton.mp hb] at z
      exact hx (z ▸ ha)
    · have := i2.mpr (List.nodup_append.mp n).1
      omega
section
variable {prog : Program} {w : World} {A : Around} {R : Result → Shared → Prop} {I : Addr} {fp wr : List Addr} {G : Array GenState → Array GenState → Prop} {n : Nat} {P : Nat → Value → Prop} {St : Nat → Shared → Prop}
theorem loopS (W : WalksS prog w A.in1 I fp wr G n P St) (S : Addr) (hSf : S ∉ fp) (xs : List Str) (hsz : xs.length = n) (hb : n + 1 < scanBound)
    (hval : ∀ i v, P i v → ∃ t, v = .str (xs.getD i Str.empty) t) :
    ∀ (k i : Nat) (s : Shared), n - i = k → i ≤ n → St i s →
      (∃ c, DCnt (xs.take i) c ∧ s.heap.SetOf (PySem.strKind prog w) S (fun k' => (xs.take i).any (· == k')) c) →
      (∀ s' c, Moved (S :: wr) G s s' → DCnt xs c → s'.heap.SetOf (PySem.strKind prog w) S (fun k' => xs.any (· == k')) c → R (.ok (.ret .none)) s') →
      codeAny (model prog w) A (.builtin "set.update.loop" ⟨[.ref S, .ref I], []⟩) R s := by
  have hSw : S ∉ wr := fun h => hSf (W.sub _ h)
  have hsub : ∀ b ∈ wr, b ∈ S :: wr := fun b hb => List.mem_cons_of_mem _ hb
  intro k
  induction k with
  | zero =>
    intro i s hk hi hst ⟨c, hc, hS⟩ hR
    have hin : i = n := by omega
    subst hin
    refine codeAny_builtin PyProof.Rows.F.entry_set_update_loop ?_
    rw [Around.under_plainId PyProof.Rows.F.plain_set_update_loop _]
    show wpAny _ A.in1 (pyNext (.ref I) >>= _) _ _ s
    refine wpAny_bind (W.done s _ _ hst fun s' hm => ?_)
    show wpAny _ A.in1 (ret Value.none) _ _ s'
    have e : xs.take i = xs := List.take_of_length_le (by omega)
    rw [e] at hc hS
    exact wpAny_pure (hR s' c (hm.mono hsub) hc (by
      obtain ⟨o, es, ep, t, ho, rest⟩ := hS
      exact ⟨o, es, ep, t, hm.heap S _ hSw ho, rest⟩))
  | succ k ih =>
    intro i s hk hi hst ⟨c, hc, hS⟩ hR
    have hlt : i < n := by omega
    have hcn : c ≤ i := by
      have := hc.le.1
      rw [List.length_take] at this
      omega
    refine codeAny_builtin PyProof.Rows.F.entry_set_update_loop ?_
    rw [Around.under_plainId PyProof.Rows.F.plain_set_update_loop _]
    show wpAny _ A.in1 (pyNext (.ref I) >>= _) _ _ s
    refine wpAny_bind (W.item i s _ _ hlt hst fun v s' hP hst' hm => ?_)
    obtain ⟨t, rfl⟩ := hval i v hP
    have hS' : s'.heap.SetOf (PySem.strKind prog w) S (fun k' => (xs.take i).any (· == k')) c := by
      obtain ⟨o, es, ep, tb, ho, rest⟩ := hS
      exact ⟨o, es, ep, tb, hm.heap S _ hSw ho, rest⟩
    show wpAny _ A.in1 (holding [Value.str (xs.getD i Str.empty) t] (setAdd S (.str (xs.getD i Str.empty) t)) >>= _) _ _ s'
    refine wpAny_bind (wpAny_holding ?_)
    unfold setAdd
    refine wpAny_holding ?_
    refine wpAny_bind ((PySem.strKind prog w).pyHash (k := xs.getD i Str.empty) (strKind_is _ _ _ _) ?_)
    refine wpAny_setAddHashed_of (knd := PySem.strKind prog w) (s := { s' with toks := s'.toks + 1 }) (strKind_is _ _ _ _) rfl hS' (by omega) fun h' hsb hS2 => ?_
    have hi' : i < xs.length := by omega
    have ex : xs.getD i Str.empty = xs[i] := by rw [List.getD_eq_getElem?_getD, List.getElem?_eq_getElem hi']; rfl
    have et : xs.take (i + 1) = xs.take i ++ [xs[i]] := by rw [List.take_add_one, List.getElem?_eq_getElem hi']; rfl
    rw [ex] at hS2
    have hSi : ∃ c', DCnt (xs.take (i + 1)) c' ∧ h'.SetOf (PySem.strKind prog w) S (fun k' => (xs.take (i + 1)).any (· == k')) c' := by
      have hcg : ∀ k' : Str, ((xs.take i).any (· == k') || decide (k' = xs[i])) = (xs.take (i + 1)).any (· == k') := fun k' => by
        rw [et, List.any_append]
        congr 1
        by_cases e : k' = xs[i]
        · subst e; simp
        · have hb : (xs[i] == k') = false := by simpa [beq_iff_eq] using (fun h' : xs[i] = k' => e h'.symm)
          simp [hb, e]
      have hm : (xs.take i).any (· == xs[i]) = true ↔ xs[i] ∈ xs.take i := by
        rw [List.any_eq_true]
        exact ⟨fun ⟨y, h1, h2⟩ => (eq_of_beq h2) ▸ h1, fun h => ⟨_, h, beq_self_eq_true _⟩⟩
      rw [et]
      by_cases hz : xs[i] ∈ xs.take i
      · rw [if_pos (hm.mpr hz)] at hS2
        exact ⟨c, .old hc hz, SetOf_congr hS2 (by rw [← et]; exact hcg) rfl⟩
      · rw [if_neg fun z => hz (hm.mp z)] at hS2
        exact ⟨c + 1, .new hc hz, SetOf_congr hS2 (by rw [← et]; exact hcg) rfl⟩
    refine wpAny_pure ⟨plainId_quiet PyProof.Rows.F.plain_set_update_loop _, ih (i + 1) _ (by omega) hlt (W.frame _ s' _ _ hst' (Nat.le_succ _) fun b hb o e => ?_) hSi fun s'' c'' hm'' hc'' hS'' => ?_⟩
    · rw [hsb.2 b (fun h : b = S => hSf (by rw [← h]; exact hb))]; exact e
    · refine hR s'' c'' (Moved.trans W.gtrans ((hm.mono hsub).then_heap (Nat.le_succ _) fun b o hb e => ?_) hm'') hc'' hS''
      rw [hsb.2 b (fun h : b = S => hb (by rw [h]; exact List.mem_cons_self))]; exact e
end
section
variable {prog : Program} {w : World} {A : Around} {E : Value → Shared → Prop} {s : Shared}
abbrev setO (led : Bool) : Obj := { cls := .type "set", dict := none, data := .set #[] 0 (.fresh 0 0 led) }
theorem set_list {l : Addr} {items : Array Value} {xs : List Str} {Q : Value → Shared → Prop}
    (hh : A.handled = none) (hl : s.heap.IsList l items) (hi : PyProof.Rows.StrsAre items.toList xs) (hb : xs.length + 1 < scanBound)
    (h : ∀ (h' : Heap) (tk c : Nat), DCnt xs c → h'.SetOf (PySem.strKind prog w) s.heap.objs.size (fun k' => xs.any (· == k')) c →
      (∀ b o, b < s.heap.objs.size → s.heap.get? b = some o → h'.get? b = some o) → Q (.ref s.heap.objs.size) { s with heap := h', toks := tk }) :
    wpAny (model prog w) A (call (.type "set") [.ref l]) Q E s := by
  obtain ⟨c, tl, hmro⟩ := PySem.F.called_set.mro
  have hmade := PySem.F.called_set.made
  have hsub := PySem.F.called_set.sub
  refine wpAny_call (codeAny_of_tree ?_)
  show wpAny _ _ (callAny (.type "set") _) _ _ _
  refine wpAny_pure ⟨Code.quiet_builtin _ (by decide +kernel), codeAny_builtin PySem.F.entry_type_call ?_⟩
  rw [Around.under_plain (weight_type_call_type "set" [.ref l] []) rfl]
  have h1 := PySem.F.called_set.notType
  have h2 := PySem.F.called_set.canCreate
  have hct := PySem.F.typeCall_set_1 (.ref l)
  repeat (any_goals (first | assumption | wp_step))

  refine codeAny_mono (code_set_new_1 (.ref l) (E := E) (Q₁ := fun obj s₁ => ∃ led : Bool, obj = .ref s.heap.objs.size ∧ s₁ = { s with heap := s.heap.push (setO led) }) fun led => ⟨led, rfl, rfl⟩) fun r s₁ hr => ?_
  cases r with
  | error e => exact hr
  | ok fl =>
    cases fl with
    | ret obj =>
      obtain ⟨led, rfl, rfl⟩ := hr
      have hS : (s.heap.push (setO led)).get? s.heap.objs.size = some (setO led) := Heap.get?_push_size _ rfl
      have hT : Shared.TypeIs { s with heap := s.heap.push (setO led) } (.ref s.heap.objs.size) "set" := ⟨_, hS, rfl⟩
      have hli := PySem.F.called_set.init.lookup
      have hbi := PySem.F.called_set.init.bind (.ref s.heap.objs.size)
      repeat (any_goals (first | assumption | wp_step))

      refine codeAny_mono (codeAny_call_builtin (R := wants (fun r s₂ => r = .none ∧ ∃ h' tk c, s₂ = { s with heap := h', toks := tk } ∧ DCnt xs c ∧
          h'.SetOf (PySem.strKind prog w) s.heap.objs.size (fun k' => xs.any (· == k')) c ∧
          (∀ b o, b < s.heap.objs.size → s.heap.get? b = some o → h'.get? b = some o)) E) PySem.F.called_set.init.plain PySem.F.entry_set_init (check_set_init_1 hT ?_)) fun r₂ s₂ hr₂ => ?_
      · obtain ⟨ol, hol, hcl, nl, hdl⟩ := hl
        obtain ⟨ocls, odict, odata, oslots⟩ := ol
        simp only at hcl hdl
        subst hcl; subst hdl
        have hol' : (s.heap.push (setO led)).get? l = some { cls := .type "list", dict := odict, data := .seq items nl, slots := oslots } := Heap.get?_push_of_some _ hol
        have hsls := PySem.F.sub_list_set
        have hslf := PySem.F.sub_list_frozenset
        have hne : (Value.type "list" == Value.type "dict") = false := by decide
        have hl1 : (s.heap.push (setO led)).IsList l items := ⟨_, hol', rfl, nl, rfl⟩
        unfold Builtin.«set.__init__» noKeywords Builtin.Frozenset.updateFrom
        generalize hPI : pyIter = PI
        with_reducible refine wpAny_bind ?_
        ((with_reducible apply wpAny_ite_true); focus (rfl))
        with_reducible refine wpAny_pure ?_
        wp_delta
        with_reducible refine wpAny_bind ?_
        wp_delta
        with_reducible refine wpAny_bind ?_
        wp_delta
        with_reducible refine wpAny_bind ?_
        with_reducible refine wpAny_typeOf (by assumption) ?_
        ((with_reducible apply wpAny_ite_false); focus (rfl))
        with_reducible refine wpAny_pure ?_
        wp_delta
        wp_delta
        with_reducible refine wpAny_pure ?_
        with_reducible refine wpAny_bind ?_
        wp_delta
        ((with_reducible apply wpAny_ite_false); focus (rfl))
        ((with_reducible apply wpAny_ite_false); focus (rfl))
        ((with_reducible apply wpAny_ite_false); focus (rfl))
        with_reducible refine wpAny_pure ?_
        with_reducible refine wpAny_bind ?_
        wp_delta
        with_reducible refine wpAny_pure ?_
        with_reducible refine wpAny_bind ?_
        wp_delta
        with_reducible refine wpAny_bind ?_
        wp_delta
        with_reducible refine wpAny_bind ?_
        ((with_reducible apply wpAny_load'); focus (heap_get))
        ((with_reducible apply wpAny_ite_false); focus (rfl))
        with_reducible refine wpAny_pure ?_
        with_reducible refine wpAny_pure ?_
        ((with_reducible apply wpAny_ite_false); focus (rfl))
        wp_delta
        with_reducible refine wpAny_bind ?_
        with_reducible refine wpAny_bind ?_
        wp_delta
        wp_delta
        with_reducible refine wpAny_bind ?_
        wp_delta
        with_reducible refine wpAny_bind ?_
        wp_delta
        with_reducible refine wpAny_bind ?_
        ((with_reducible apply wpAny_loadPart'); focus (heap_get))
        with_reducible refine wpAny_pure ?_
        with_reducible refine wpAny_of_eq (by assumption) ?_
        wp_delta
        wp_delta
        with_reducible refine wpAny_bind ?_
        wp_delta
        with_reducible refine wpAny_bind ?_
        ((with_reducible apply wpAny_loadPart'); focus (heap_get))
        with_reducible refine wpAny_pure ?_
        with_reducible refine wpAny_of_eq (by assumption) ?_
        ((with_reducible apply wpAny_ite_false); focus (rfl))
        with_reducible refine wpAny_bind ?_
        wp_delta
        with_reducible refine wpAny_bind ?_
        ((with_reducible apply wpAny_loadPart'); focus (heap_get))
        with_reducible refine wpAny_pure ?_
        ((with_reducible apply wpAny_ite_false); focus (rfl))
        with_reducible refine wpAny_bind ?_
        subst hPI

        refine wpAny_pyIter_list hl1 ?_
        refine wpAny_bind (wpAny_runValue ?_)
        have hlS : l < s.heap.objs.size := Heap.lt_size hol
        have hh3 : A.in1.in1.in1.handled = none := by simp [hh]
        have hneI : l ≠ (s.heap.push (setO led)).objs.size := by
          rw [Heap.size_push]; exact Nat.ne_of_lt (Nat.lt_succ_of_lt hlS)
        have hSf : s.heap.objs.size ∉ [(s.heap.push (setO led)).objs.size, l] := by
          rw [Heap.size_push]; simp only [List.mem_cons, List.mem_singleton, List.not_mem_nil, or_false, not_or]
          exact ⟨Nat.ne_of_lt (Nat.lt_succ_self _), Nat.ne_of_gt hlS⟩
        have hsz : xs.length = items.size := by rw [← StrsAre.len_eq hi, Array.length_toList]
        have hval : ∀ (i : Nat) (v : Value), items[i]? = some v → ∃ t, v = .str (xs.getD i Str.empty) t := fun i v hv => strs_at hi i v (by rw [Array.getElem?_toList]; exact hv)
        refine loopS ((Walks.list hh3 _ l hneI items).toS) s.heap.objs.size
          hSf xs hsz (by rw [← hsz]; exact hb) hval (items.size - 0) 0 _ (by omega) (Nat.zero_le _)
          ⟨⟨_, Heap.get?_push_size _ rfl, rfl, rfl⟩, (hl1.push _)⟩ ?hS0 ?hR
        case hS0 =>
          have hget : ((s.heap.push (setO led)).push { cls := .type "list_iterator", data := .fields #[.ref l, .int 0 0] }).get? s.heap.objs.size
              = some (setO led) := Heap.get?_push_of_some _ hS
          exact ⟨0, .nil, PyProof.Rows.SetOf_congr ((PyProof.Rows.setObjOf_fresh (knd := PySem.strKind prog w) led).setOf hget (by unfold scanBound; omega)) (fun _ => rfl) rfl⟩
        case hR =>
          intro s' c' hm hc' hS'
          obtain ⟨h', g', d', tk', os'⟩ := s'
          have eg : g' = s.gens := hm.gens
          have ed : d' = s.drawn := hm.drawn
          have eo : os' = s.os := hm.os
          subst eg; subst ed; subst eo
          show wpAny _ _ _ _ _ _
          refine wpAny_pure ?_
          show wpAny _ _ (ret Value.none) _ _ _
          refine wpAny_pure ⟨rfl, h', tk', c', rfl, hc', hS', fun b o hb e => ?_⟩
          have hb1 : b ≠ s.heap.objs.size := Nat.ne_of_lt hb
          have hb2 : b ≠ (s.heap.push (setO led)).objs.size := by
            rw [Heap.size_push]; exact Nat.ne_of_lt (Nat.lt_succ_of_lt hb)
          exact hm.heap b o (by simp only [List.mem_cons, List.mem_singleton, List.not_mem_nil, or_false, not_or]; exact ⟨hb1, hb2⟩) (Heap.get?_push_of_some _ (Heap.get?_push_of_some _ e))

      · cases r₂ with
        | error e => exact hr₂
        | ok fl₂ =>
          cases fl₂ with
          | ret r =>
            obtain ⟨rfl, h', tk, c', rfl, hc', hS', hk'⟩ := hr₂
            repeat (any_goals (first | assumption | wp_step))
            exact h _ _ _ hc' hS' hk'
          | _ => exact hr₂.elim
    | _ => exact hr.elim
theorem set_tuple {l : Addr} {items : Array Value} {xs : List Str} {Q : Value → Shared → Prop}
    (hh : A.handled = none) (hl : s.heap.IsTuple l items) (hi : PyProof.Rows.StrsAre items.toList xs) (hb : xs.length + 1 < scanBound)
    (h : ∀ (h' : Heap) (tk c : Nat), DCnt xs c → h'.SetOf (PySem.strKind prog w) s.heap.objs.size (fun k' => xs.any (· == k')) c →
      (∀ b o, b < s.heap.objs.size → s.heap.get? b = some o → h'.get? b = some o) → Q (.ref s.heap.objs.size) { s with heap := h', toks := tk }) :
    wpAny (model prog w) A (call (.type "set") [.ref l]) Q E s := by
  obtain ⟨c, tl, hmro⟩ := PySem.F.called_set.mro
  have hmade := PySem.F.called_set.made
  have hsub := PySem.F.called_set.sub
  refine wpAny_call (codeAny_of_tree ?_)
  show wpAny _ _ (callAny (.type "set") _) _ _ _
  refine wpAny_pure ⟨Code.quiet_builtin _ (by decide +kernel), codeAny_builtin PySem.F.entry_type_call ?_⟩
  rw [Around.under_plain (weight_type_call_type "set" [.ref l] []) rfl]
  have h1 := PySem.F.called_set.notType
  have h2 := PySem.F.called_set.canCreate
  have hct := PySem.F.typeCall_set_1 (.ref l)
  repeat (any_goals (first | assumption | wp_step))

  refine codeAny_mono (code_set_new_1 (.ref l) (E := E) (Q₁ := fun obj s₁ => ∃ led : Bool, obj = .ref s.heap.objs.size ∧ s₁ = { s with heap := s.heap.push (setO led) }) fun led => ⟨led, rfl, rfl⟩) fun r s₁ hr => ?_
  cases r with
  | error e => exact hr
  | ok fl =>
    cases fl with
    | ret obj =>
      obtain ⟨led, rfl, rfl⟩ := hr
      have hS : (s.heap.push (setO led)).get? s.heap.objs.size = some (setO led) := Heap.get?_push_size _ rfl
      have hT : Shared.TypeIs { s with heap := s.heap.push (setO led) } (.ref s.heap.objs.size) "set" := ⟨_, hS, rfl⟩
      have hli := PySem.F.called_set.init.lookup
      have hbi := PySem.F.called_set.init.bind (.ref s.heap.objs.size)
      repeat (any_goals (first | assumption | wp_step))

      refine codeAny_mono (codeAny_call_builtin (R := wants (fun r s₂ => r = .none ∧ ∃ h' tk c, s₂ = { s with heap := h', toks := tk } ∧ DCnt xs c ∧
          h'.SetOf (PySem.strKind prog w) s.heap.objs.size (fun k' => xs.any (· == k')) c ∧
          (∀ b o, b < s.heap.objs.size → s.heap.get? b = some o → h'.get? b = some o)) E) PySem.F.called_set.init.plain PySem.F.entry_set_init (check_set_init_1 hT ?_)) fun r₂ s₂ hr₂ => ?_
      · obtain ⟨ol, hol, hcl, nl, hdl⟩ := hl
        obtain ⟨ocls, odict, odata, oslots⟩ := ol
        simp only at hcl hdl
        subst hcl; subst hdl
        have hol' : (s.heap.push (setO led)).get? l = some { cls := .type "tuple", dict := odict, data := .seq items nl, slots := oslots } := Heap.get?_push_of_some _ hol
        have hsls := PySem.F.sub_tuple_set
        have hslf := PySem.F.sub_tuple_frozenset
        have hne : (Value.type "tuple" == Value.type "dict") = false := by decide
        have hl1 : (s.heap.push (setO led)).IsTuple l items := ⟨_, hol', rfl, nl, rfl⟩
        unfold Builtin.«set.__init__» noKeywords Builtin.Frozenset.updateFrom
        generalize hPI : pyIter = PI
        with_reducible refine wpAny_bind ?_
        ((with_reducible apply wpAny_ite_true); focus (rfl))
        with_reducible refine wpAny_pure ?_
        wp_delta
        with_reducible refine wpAny_bind ?_
        wp_delta
        with_reducible refine wpAny_bind ?_
        wp_delta
        with_reducible refine wpAny_bind ?_
        with_reducible refine wpAny_typeOf (by assumption) ?_
        ((with_reducible apply wpAny_ite_false); focus (rfl))
        with_reducible refine wpAny_pure ?_
        wp_delta
        wp_delta
        with_reducible refine wpAny_pure ?_
        with_reducible refine wpAny_bind ?_
        wp_delta
        ((with_reducible apply wpAny_ite_false); focus (rfl))
        ((with_reducible apply wpAny_ite_false); focus (rfl))
        ((with_reducible apply wpAny_ite_false); focus (rfl))
        with_reducible refine wpAny_pure ?_
        with_reducible refine wpAny_bind ?_
        wp_delta
        with_reducible refine wpAny_pure ?_
        with_reducible refine wpAny_bind ?_
        wp_delta
        with_reducible refine wpAny_bind ?_
        wp_delta
        with_reducible refine wpAny_bind ?_
        ((with_reducible apply wpAny_load'); focus (heap_get))
        ((with_reducible apply wpAny_ite_false); focus (rfl))
        with_reducible refine wpAny_pure ?_
        with_reducible refine wpAny_pure ?_
        ((with_reducible apply wpAny_ite_false); focus (rfl))
        wp_delta
        with_reducible refine wpAny_bind ?_
        with_reducible refine wpAny_bind ?_
        wp_delta
        wp_delta
        with_reducible refine wpAny_bind ?_
        wp_delta
        with_reducible refine wpAny_bind ?_
        wp_delta
        with_reducible refine wpAny_bind ?_
        ((with_reducible apply wpAny_loadPart'); focus (heap_get))
        with_reducible refine wpAny_pure ?_
        with_reducible refine wpAny_of_eq (by assumption) ?_
        wp_delta
        wp_delta
        with_reducible refine wpAny_bind ?_
        wp_delta
        with_reducible refine wpAny_bind ?_
        ((with_reducible apply wpAny_loadPart'); focus (heap_get))
        with_reducible refine wpAny_pure ?_
        with_reducible refine wpAny_of_eq (by assumption) ?_
        ((with_reducible apply wpAny_ite_false); focus (rfl))
        with_reducible refine wpAny_bind ?_
        wp_delta
        with_reducible refine wpAny_bind ?_
        ((with_reducible apply wpAny_loadPart'); focus (heap_get))
        with_reducible refine wpAny_pure ?_
        ((with_reducible apply wpAny_ite_false); focus (rfl))
        with_reducible refine wpAny_bind ?_
        subst hPI

        refine wpAny_pyIter_tuple hl1 ?_
        refine wpAny_bind (wpAny_runValue ?_)
        have hlS : l < s.heap.objs.size := Heap.lt_size hol
        have hh3 : A.in1.in1.in1.handled = none := by simp [hh]
        have hneI : l ≠ (s.heap.push (setO led)).objs.size := by
          rw [Heap.size_push]; exact Nat.ne_of_lt (Nat.lt_succ_of_lt hlS)
        have hSf : s.heap.objs.size ∉ [(s.heap.push (setO led)).objs.size, l] := by
          rw [Heap.size_push]; simp only [List.mem_cons, List.mem_singleton, List.not_mem_nil, or_false, not_or]
          exact ⟨Nat.ne_of_lt (Nat.lt_succ_self _), Nat.ne_of_gt hlS⟩
        have hsz : xs.length = items.size := by rw [← StrsAre.len_eq hi, Array.length_toList]
        have hval : ∀ (i : Nat) (v : Value), items[i]? = some v → ∃ t, v = .str (xs.getD i Str.empty) t := fun i v hv => strs_at hi i v (by rw [Array.getElem?_toList]; exact hv)
        refine loopS ((Walks.tuple hh3 _ l hneI items).toS) s.heap.objs.size
          hSf xs hsz (by rw [← hsz]; exact hb) hval (items.size - 0) 0 _ (by omega) (Nat.zero_le _)
          ⟨⟨_, Heap.get?_push_size _ rfl, rfl, rfl⟩, (hl1.push _)⟩ ?hS0 ?hR
        case hS0 =>
          have hget : ((s.heap.push (setO led)).push { cls := .type "tuple_iterator", data := .fields #[.ref l, .int 0 0] }).get? s.heap.objs.size
              = some (setO led) := Heap.get?_push_of_some _ hS
          exact ⟨0, .nil, PyProof.Rows.SetOf_congr ((PyProof.Rows.setObjOf_fresh (knd := PySem.strKind prog w) led).setOf hget (by unfold scanBound; omega)) (fun _ => rfl) rfl⟩
        case hR =>
          intro s' c' hm hc' hS'
          obtain ⟨h', g', d', tk', os'⟩ := s'
          have eg : g' = s.gens := hm.gens
          have ed : d' = s.drawn := hm.drawn
          have eo : os' = s.os := hm.os
          subst eg; subst ed; subst eo
          show wpAny _ _ _ _ _ _
          refine wpAny_pure ?_
          show wpAny _ _ (ret Value.none) _ _ _
          refine wpAny_pure ⟨rfl, h', tk', c', rfl, hc', hS', fun b o hb e => ?_⟩
          have hb1 : b ≠ s.heap.objs.size := Nat.ne_of_lt hb
          have hb2 : b ≠ (s.heap.push (setO led)).objs.size := by
            rw [Heap.size_push]; exact Nat.ne_of_lt (Nat.lt_succ_of_lt hb)
          exact hm.heap b o (by simp only [List.mem_cons, List.mem_singleton, List.not_mem_nil, or_false, not_or]; exact ⟨hb1, hb2⟩) (Heap.get?_push_of_some _ (Heap.get?_push_of_some _ e))

      · cases r₂ with
        | error e => exact hr₂
        | ok fl₂ =>
          cases fl₂ with
          | ret r =>
            obtain ⟨rfl, h', tk, c', rfl, hc', hS', hk'⟩ := hr₂
            repeat (any_goals (first | assumption | wp_step))
            exact h _ _ _ hc' hS' hk'
          | _ => exact hr₂.elim
    | _ => exact hr.elim
end
end SWS
namespace SW
open PySem PySem.Spec PyProof.Rows L2 SWS
/-- len(set(xs)) of texts -/
def tLenSetS (K : PySem.W.Frag) (ta : TE) : TE := fun σ H Q => ta σ H fun x H1 => ∃ l, ∃ xs : List Str, x = .ref l ∧ (SqL K H1 l (xs.map V.str) ∨ SqT K H1 l (xs.map V.str)) ∧ xs.length ≤ 1000 ∧ ∀ c, DCnt xs c → Q (.int (c : Nat)) H1
theorem pe_lenSetS {X : Cx} {a : Expr} {ta : TE} {p p2 q pos : Pos} (hc : X.calm = true) (hg : Gl X "len") (hm : X.mg "len" = none) (hg2 : Gl X "set") (hm2 : X.mg "set" = none) (ha : PE X a ta)
    (na : starEach [a] X.env = (false, eval a X.env) :: starEach [] X.env := by rfl) : PE X (.Call (.Name "len" p) [.Call (.Name "set" p2) [a] [] q] [] pos) (tLenSetS X.K ta) := by
  refine ⟨fun pins s σ H Q I h => ?_⟩
  refine Call_ (ld_blt I hg hm boot_len ?_)
  refine PyProof.Rows.callWith_builtin1 (PyProof.Rows.args_cons ?_ rfl) rfl rfl
  refine Call_ (ld_blt I hg2 hm2 boot_set ?_)
  refine PyProof.Rows.callWith_type1 (PyProof.Rows.args_cons (thn (ha.run pins s σ H _ I h) fun v s1 ⟨x, H1, I1, r1, q1⟩ => PyProof.Rows.args_nil ?_) na) na rfl
  obtain ⟨l, xs, rfl, hq, h1, q1⟩ := q1
  cases r1
  have fin : ∀ (h' : Heap) (tk c : Nat), DCnt xs c → h'.SetOf (PySem.strKind X.prog X.w) s1.heap.objs.size (fun k' => xs.any (· == k')) c →
      (∀ b o, b < s1.heap.objs.size → s1.heap.get? b = some o → h'.get? b = some o) →
      wpAny (model X.prog X.w) X.A (spliced (backTo pos (starEach [] X.env))) (fun vs s₂ => wpAny (model X.prog X.w) X.A (call (.builtin "len") (Value.ref s1.heap.objs.size :: vs)) (EP X pins σ Q) X.xe s₂) X.xe { s1 with heap := h', toks := tk } := fun h' tk c hc' hS hk => by
    refine PyProof.Rows.args_nil ?_
    have hle := hc'.le.1
    obtain ⟨o, es, ep, t, ho, hex, hd, _, _, _, hf, hn⟩ := hS
    have I2 : Inv X pins σ H1 { s1 with heap := h', toks := tk } := I1.kept fun b o e => hk b o (Heap.lt_size e) e
    refine call_len_set ho hex hd hf (by rw [hn]; omega) ⟨.int c, H1, I2.tok _, ⟨_, by rw [hn]⟩, q1 c hc'⟩
  rcases hq with hq | hq
  · obtain ⟨its, r, pl, hz⟩ := I1.list hq
    exact set_list (I1.ok.hd hc) pl.isList (by simpa using strsAre_of r) (by unfold scanBound; omega) fun h' tk c hc' hS hk => fin h' tk c hc' hS hk
  · obtain ⟨its, r, pl, hz⟩ := I1.tuple hq
    exact set_tuple (I1.ok.hd hc) pl (by simpa using strsAre_of r) (by unfold scanBound; omega) fun h' tk c hc' hS hk => fin h' tk c hc' hS hk
end SW
namespace SW
open PySem PySem.Spec PyProof.Rows L2
variable [QN]
theorem pmk_own0 {X : Cx} {C : Addr} {bmB : List Value} {B newId initId : String} {x : Str} {p pos : Pos} (F : ExcBaseFacts B newId initId bmB) (q : PySem.W.excIn X.K C bmB newId = true) (gC : X.mg x = some (.ref C))
    (kC : PySem.W.keepIn X.K (.ref C) = true) (r : Raises X (.ref C)) (hg : Gl X x) (hdb : (x == ("__debug__" : Str)) = false := by decide) :
    PMk X (.Call (.Name x p) [] [] pos) (fun _ H Q => Q (.ref C) none H) := by
  intro pins s σ H Q I h
  refine wpAny_Call_Name_kw (ld_glob I hg gC ?_ hdb)
  refine PySem.W.callWith_K0 I.kIn kC ?_
  show wpAny _ _ (call (.ref C) []) _ _ _
  obtain ⟨bm, N, nm, qn, bs, hdct, sn, sub, ab, col, dd, k0, k1, k2, k3, k5, mN, hC, hN, hni, T⟩ := exc_obj I.kIn q
  exact wpAny_call_exc_subT F T hC hN hni (fun h' e hm => mk_of I hm r h (I.hok.gone hm.new)) (Nat.zero_le _)
def errMro (C N : Addr) : List Value := [.ref C, .ref N, .type "ValueError", .type "Exception", .type "BaseException", .type "object"]
def errB (K : PySem.W.Frag) (C N : Addr) : Bool :=
  ((PySem.W.clsIn K C).any fun cd => cd.mro == errMro C N) && (PySem.W.typeIn K (.ref C) == some (.type "type")) && PySem.W.keepIn K (.ref C) && (PySem.W.findIn K (.ref C) "__getattribute__" == some (some (.builtin "BaseException.__getattribute__"))) &&
    (PySem.W.findIn K (.ref C) "__getattr__" == some none) && (PySem.W.findIn K (.ref C) "__class__" == some (some (.builtin "object.__class__"))) && PySem.W.hasDictIn K C
structure ErrC (K : PySem.W.Frag) (C N : Addr) : Prop where
  mro : ∃ cd, PySem.W.clsIn K C = some cd ∧ cd.mro = errMro C N
  ty : PySem.W.typeIn K (.ref C) = some (.type "type")
  kp : PySem.W.keepIn K (.ref C) = true
  ga : PySem.W.findIn K (.ref C) "__getattribute__" = some (some (.builtin "BaseException.__getattribute__"))
  gt : PySem.W.findIn K (.ref C) "__getattr__" = some none
  cl : PySem.W.findIn K (.ref C) "__class__" = some (some (.builtin "object.__class__"))
  hd : PySem.W.hasDictIn K C = true
theorem errC_of {K : PySem.W.Frag} {C N : Addr} (h : errB K C N = true) : ErrC K C N := by
  unfold errB at h
  simp only [Bool.and_eq_true, beq_iff_eq] at h
  obtain ⟨⟨⟨⟨⟨⟨h1, h2⟩, h3⟩, h4⟩, h5⟩, h6⟩, h7⟩ := h
  refine ⟨?_, h2, h3, h4, h5, h6, h7⟩
  cases e : PySem.W.clsIn K C with
  | none =>
    rw [e] at h1
    cases h1
  | some cd =>
    rw [e] at h1
    exact ⟨cd, rfl, beq_iff_eq.mp h1⟩
theorem ErrC.sub {K : PySem.W.Frag} {C N : Addr} (h : ErrC K C N) (b : Value) : PySem.W.subIn K (.ref C) b = some ((errMro C N).contains b) := by
  obtain ⟨cd, e, m⟩ := h.mro
  show PySem.W.mroIn K C b = _
  unfold PySem.W.mroIn
  rw [e, Option.bind_some, m]
  rfl
theorem ErrC.base {K : PySem.W.Frag} {C N : Addr} (h : ErrC K C N) : PySem.W.subIn K (.ref C) (.type "BaseException") = some true := by
  rw [h.sub]
  rfl
theorem ErrC.raises {X : Cx} {C N : Addr} (h : ErrC X.K C N) : Raises X (.ref C) := raises_own h.base h.ty
theorem mem_mro {C N D : Addr} : (errMro C N).contains (.ref D) = decide (D = C ∨ D = N) := by
  unfold errMro
  by_cases h1 : D = C
  · subst h1
    simp
  · by_cases h2 : D = N
    · subst h2
      simp
    · simp [h1, h2]
/-- isinstance(e, D) for e of the class C -/
theorem ErrC.kit {K : PySem.W.Frag} {C D N : Addr} (h : ErrC K C N) (g : ErrC K D N) (hN : C ≠ N) (hD : D ≠ N) : PySem.W.kitOne K (.ref C) (.ref D) = some (decide (D = C)) := by
  unfold PySem.W.kitOne
  by_cases e : C = D
  · subst e
    simp
  · have e1 : (Value.ref C == Value.ref D) = false := by simp [e]
    rw [e1, if_neg Bool.false_ne_true]
    obtain ⟨cd, c1, _⟩ := g.mro
    show (if ((PySem.W.clsIn K D).isSome && PySem.W.typeIn K (.ref D) == some (.type "type")) = true then PySem.W.subIn K (.ref C) (.ref D) else none) = _
    rw [c1, g.ty]
    show PySem.W.subIn K (.ref C) (.ref D) = _
    rw [h.sub, mem_mro]
    congr 1
    exact decide_eq_decide.mpr ⟨fun z => z.resolve_right hD, .inl⟩
theorem ErrC.kitVE {K : PySem.W.Frag} {C N : Addr} (h : ErrC K C N) : PySem.W.kitOne K (.ref C) (.type "ValueError") = some true := by
  unfold PySem.W.kitOne
  rw [show (Value.ref C == Value.type "ValueError") = false from rfl, if_neg Bool.false_ne_true]
  show (if PySem.W.kitMeta "ValueError" = true then PySem.W.subIn K (.ref C) (.type "ValueError") else none) = _
  rw [show PySem.W.kitMeta "ValueError" = true by decide +kernel, if_pos rfl, h.sub]
  rfl
/-- an except clause that names the common class -/
theorem ErrC.exm {K : PySem.W.Frag} {C N : Addr} (h : ErrC K C N) (hb : PySem.W.subIn K (.ref N) (.type "BaseException") = some true) (hd : PySem.W.hasDictIn K N = true) (ht : PySem.W.typeIn K (.ref N) = some (.type "type")) : PySem.W.exmOne K (.ref C) (.ref N) = some true :=
  PySem.W.exm_ref hb hd ht (by rw [h.sub, mem_mro]; simp)
def rIsW (K : PySem.W.Frag) (a : Addr) (cls : Value) (d : Option Addr) : List V → Hp → VK → Prop := fun xs H Q => ∃ (c : V) (cv : Value) (b : Bool), xs = [.ref a, c] ∧ ClsV c cv ∧ PySem.W.kitOne K cls cv = some b ∧ (∀ dd, d = some dd → ∃ fs, H dd = some (.xd fs)) ∧ Q (.bl b) H
theorem call_isW {X : Cx} {K : PySem.W.Frag} {p : Addr × Obj} {C N : Addr} {d : Option Addr} (hK : X.K = K) (hp : p ∈ X.pn) (T : ErrC K C N) (hn : PySem.W.specialIn K (.builtin "object.__class__") "__get__" = some (some (.builtin "getset_descriptor.__get__")))
    (ht : PySem.W.takesIn K (.builtin "object.__class__") = some true) (hz : Zc (.ref C) d p.2) (hf : ∃ vs, p.2.data = .fields vs) : CallR X (.builtin "isinstance") (rIsW K p.1 (.ref C) d) := by
  subst hK
  intro pins s σ H xs us Q I r h
  obtain ⟨c, cv, b, rfl, k, e, hdd, q⟩ := h
  obtain ⟨u1, u2, rfl, r1, r2⟩ := vals2 r
  obtain rfl : u1 = Value.ref p.1 := r1
  have e2 := k.eq r2
  subst e2
  have hget := (I.pin p (List.mem_append_left _ hp)).1
  obtain ⟨vs, hv⟩ := hf
  have hm : PySem.W.mroIn X.K C (.type "object") = some true := by
    have z := T.sub (.type "object")
    exact z
  have hcl : (PySem.W.clsIn X.K C).isSome = true := by
    obtain ⟨cd, c1, _⟩ := T.mro
    rw [c1]
    rfl
  have nc : PySem.W.notCls p.2 = true := by
    unfold PySem.W.notCls
    rw [hv]
  have J : ∃ od, PySem.W.InstAt s.heap p.1 p.2 C od := by
    cases d with
    | none => exact ⟨none, hget, hz.1, nc, by rw [hz.2]; trivial⟩
    | some dd =>
      obtain ⟨fs, hdx⟩ := hdd dd rfl
      obtain ⟨mA, hns, _⟩ := (show ObjOk X.prog X.w H s.heap dd (.xd fs) from I.hok dd _ hdx)
      obtain ⟨od, ho, _⟩ := lookIn_ns hns
      exact ⟨some od, hget, hz.1, nc, by rw [hz.2]; exact ho⟩
  obtain ⟨od, J⟩ := J
  exact PySem.W.kia_one (PySem.W.kitx_exc hcl T.ga T.gt T.base T.cl hn ht hm) I.kIn J e (fun z => nomatch z) fun tk => ⟨.bl b, H, I.tok tk, rfl, q⟩
abbrev SpW := Addr → Value → Option Addr → Sp
structure FnW (P : Program) (w : World) (K : PySem.W.Frag) (mg : Str → Option Value) (base : Heap) (k : Nat) (f : Addr) (fd : FuncData) (ps : List Str) (sp : SpW) : Prop where
  len : ∀ a cls d vs H Q E, sp a cls d vs H Q E → vs.length = ps.length
  run : ∀ (A : Around) (outer : List Env) (s : Shared) (H : Hp) (args : Args) (us : List Value) (vs : List V) (Q : VK) (E : XK) (p : Addr × Obj) (cls : Value) (d : Option Addr), L2H.RoomH k A → Zc cls d p.2 → (∃ fs, p.2.data = .fields fs) → L2H.PinOk outer H s p →
    Env0 P w K mg base A outer s H → BindsTo s fd args (ps.zip us) → Vals vs us → sp p.1 cls d vs H Q E → codeAny (model P w) A (.call (.ref f) args) (CR CX0 outer P w H s Q E) s
theorem fun_okW {P : Program} {w : World} {K : PySem.W.Frag} {mg : Str → Option Value} {base : Heap} {x qual : Str} {st : Stmt} {f : Addr} {fd : FuncData} {N ps : List Str} {k : Nat} {sp : SpW} (F : Fun K x qual st f fd) (S : FnScope N ps (defScope st))
    (len : ∀ a cls d vs H Q E, sp a cls d vs H Q E → vs.length = ps.length)
    (body : ∀ (cdv : Value) (A : Around) (outer : List Env) (s : Shared) (H : Hp) (vs : List V) (Q : VK) (E : XK) (p : Addr × Obj) (cls : Value) (d : Option Addr), L2H.RoomH k (A.deeper (envOfC qual (defScope st) s.heap.objs.size f cdv)) → Zc cls d p.2 → (∃ fs, p.2.data = .fields fs) → sp p.1 cls d vs H Q E →
      ∃ t, PSs (L2H.cxH CX0 P w K mg base N qual (defScope st) f cdv A outer s H E p) (defBody st) t ∧ t { nx := fun _ H' => Q .non H', rt := Q } (start N vs) H) : FnW P w K mg base (k + 1) f fd ps sp := by
  obtain ⟨oc, od, kV, doc, pm, an, cdv, ct, osl, rfl, lk, hcd⟩ := F.ex
  refine ⟨len, ?_⟩
  intro A outer s H args us vs Q E p cls d room hz hf pin env0 bind vals prom
  have inK : K.In s.heap := env0.mod.kin.keeps fun b o z => (env0.bs b o z).1
  have kinds : ∀ y ∈ ps.zip us, (defScope st).names.lookup y.1 = some .local ∨ ((defScope st).names.lookup y.1 = some .cell ∧ ((cellsFrom (s.heap.objs.size + 1) (defScope st).names []).lookup y.1).isSome = true) := by
    rintro ⟨n, v⟩ hy
    exact (S.par n (List.of_mem_zip hy).1).imp id fun z => ⟨z, PySem.W.cellsFrom_some _ _ _ (.inl z)⟩
  have nolim : s.heap.NoLimit := env0.mod.nolimit.keeps fun b o z => (env0.bs b o z).1
  apply codeAny_call_function room.depth (inK _ _ lk) rfl S.co S.gen rfl (PySem.W.codeRec_of inK hcd) (bind _ _ _ _ ?_)
  apply wpAny_newFunctionEnv_cells S.kind kinds
  intro env ee s1 inc
  subst ee
  refine ⟨nolim.keeps inc.toInCall.keep, codeAny_func ?_⟩
  obtain ⟨t, dt, rt⟩ := body cdv A outer s H vs Q E p cls d (room.deeper _) hz hf prom
  have I := L2H.inv_startH (CX := CX0) (E := E) S pin env0 (len _ _ _ _ _ _ _ prom) vals inc
  refine wpAny_mono (dt.run [] s1 _ H _ I rt) (fun fl s' z => ?_) fun _ _ z => z
  cases fl with
  | next =>
    obtain ⟨σ', H', J, z⟩ := z
    exact ⟨V.non, H', J.os, J.bare, J.base, J.hok, rfl, z⟩
  | ret u =>
    obtain ⟨v, σ', H', J, rv, z⟩ := z
    exact ⟨v, H', J.os, J.bare, J.base, J.hok, rv, z⟩
  | brk =>
    obtain ⟨_, _, _, z⟩ := z
    exact z.elim
  | cont =>
    obtain ⟨_, _, _, z⟩ := z
    exact z.elim
def tCallW (sp : SpW) (a : Addr) (cls : Value) (d : Option Addr) (t : TA) : TE := fun σ H Q => t σ H fun vs H1 => sp a cls d vs H1 Q E0
theorem pe_callW {X : Cx} {k : Nat} {f : Addr} {fd : FuncData} {ps : List Str} {sp : SpW} {x : Str} {n pos : Pos} {e : Expr} {es : List Expr} {t : TA} {p : Addr × Obj} {cls : Value} {d : Option Addr} (F : FnW X.prog X.w X.K X.mg X.base k f fd ps sp) (room : L2H.RoomH k X.A)
    (hp : p ∈ X.pn) (hz : Zc cls d p.2) (hf : ∃ fs, p.2.data = .fields fs) (hg : Gl X x) (hm : X.mg x = some (.ref f)) (hk : PySem.W.keepIn X.K (.ref f) = true) (hb : Binds X.K fd ps []) (ha : PA X (e :: es) t)
    (hdb : (x == ("__debug__" : Str)) = false := by decide) (he : starEach (e :: es) X.env = (false, eval e X.env) :: starEach es X.env := by rfl) (hpl : (backTo pos (starEach es X.env)).any (·.1) = false := by rfl) :
    PE X (.Call (.Name x n) (e :: es) [] pos) (tCallW sp p.1 cls d t) := by
  constructor
  intro pins s σ H Q I h
  refine wpAny_Call_Name_kw (ld_glob I hg hm (PySem.W.callWith_K (h₀ := X.base) I.ok.mod.kin hk (thn (ha.run pos pins s σ H _ I h) ?_) he hpl) hdb)
  rintro us s1 ⟨vs, H1, I1, r, z⟩
  refine ⟨I1.kIn, ?_⟩
  have b := hb s1 us I1.kIn (by rw [List.append_nil, ← r.length]; exact F.len _ _ _ _ _ _ _ z)
  rw [List.append_nil] at b
  obtain ⟨g1, g2, g3, g4, g5⟩ := I1.pin p (List.mem_append_left _ hp)
  have pin : L2H.PinOk X.stack H1 s1 p := ⟨g1, g2, fun hm => (List.mem_cons.mp (I1.stkSub p.1 hm)).elim g3 g4, g5⟩
  refine wpAny_call (codeAny_mono (F.run X.A X.stack s1 H1 ⟨us, []⟩ us vs Q E0 p cls d room hz hf pin I1.env0 b r z) ?_)
  intro res s' z
  cases res with
  | error e => exact z.elim
  | ok fl =>
    cases fl with
    | ret u => exact I1.after z
    | next => exact z.elim
    | brk => exact z.elim
    | cont => exact z.elim
theorem pe_callA {X : Cx} {k : Nat} {f : Addr} {fd : FuncData} {ps : List Str} {sp : SpW} {x : Str} {n pos : Pos} {e : Expr} {es : List Expr} {t : TA} (a : Addr) (oe : Obj) (cls : Value) (d : Option Addr) (F : FnW X.prog X.w X.K X.mg X.base k f fd ps sp) (room : L2H.RoomH k X.A)
    (hp : (a, oe) ∈ X.pn) (hz : Zc cls d oe) (hf : ∃ fs, oe.data = .fields fs) (hg : Gl X x) (hm : X.mg x = some (.ref f)) (hk : PySem.W.keepIn X.K (.ref f) = true) (hb : Binds X.K fd ps []) (ha : PA X (e :: es) t)
    (hdb : (x == ("__debug__" : Str)) = false := by decide) (he : starEach (e :: es) X.env = (false, eval e X.env) :: starEach es X.env := by rfl) (hpl : (backTo pos (starEach es X.env)).any (·.1) = false := by rfl) :
    PE X (.Call (.Name x n) (e :: es) [] pos) (tCallW sp a cls d t) := pe_callW (p := (a, oe)) F room hp hz hf hg hm hk hb ha hdb he hpl
theorem i_callW {σ : L2.St} {H : Hp} {Q : VK} {sp : SpW} {a : Addr} {cls : Value} {d : Option Addr} {t : TA} (q : t σ H fun vs H1 => sp a cls d vs H1 Q E0) : tCallW sp a cls d t σ H Q := q
theorem i_callS {σ : L2.St} {H : Hp} {Q : VK} {sp : Sp} {E : L2.St → XK} {t : TA} (q : t σ H fun vs H1 => sp vs H1 Q (E σ)) : tCallS sp E t σ H Q := q
theorem roomW {k : Nat} {A : Around} {v : Option Value} (r : Room k A) : L2H.RoomH k (A.mark v) := ⟨r.dp, r.un⟩
end SW
namespace SW
open PySem PySem.Spec PyProof.Rows L2
variable [QN]
theorem coldAt {X : Cx} (σ : L2.St) : PassesAt (L2.CX X.prog X.w) X σ ((fun _ => E0 : L2.St → XK) σ) := fun pins H s e s' I c => passL pins σ H s e s' I c
section
variable {X : Cx} {CX : CXT} {k n : Nat} {f C : Addr} {fd : FuncData} {ps ks : List Str} {sp : Sp} {dvs : List V} {ds : List Value} {E : L2.St → XK} {x m : Str} {p pos apos : Pos} {e o : Expr} {es : List Expr} {kws : List Keyword} {ta : TE} {t tk : TA} {g : List Value → List Value → List Value} {gV : List V → List V → List V}
def tMeS (C : Addr) (m : Str) (sp : Sp) (dvs : List V) (E : L2.St → XK) (ta : TE) (t : TA) : TE := fun σ H Q => ta σ H fun x H1 => ∃ a dx fs, x = .ref a ∧ H1 a = some (.ins C dx fs) ∧ fs.lookup m = none ∧
  t σ H1 fun vs H2 => sp (x :: (vs ++ dvs)) H2 Q (E σ)
theorem pe_meS {pl : Sem Bool} (he : PE X o ta) (c : Cls X.K C) (hm : Meth X.K C m f) (F : FnOk X.prog X.w X.K X.mg X.base CX k f fd ps sp) (hr : Room k X.A) (hb : Binds X.K fd ps ds) (hd : Vals dvs ds) (hx : ∀ σ, PassesAt CX X σ (E σ)) (ha : PA X (e :: es) t)
    (hst : starEach (e :: es) X.env = (false, eval e X.env) :: starEach es X.env := by rfl) (hpl : (backTo pos (starEach es X.env)).any (·.1) = false := by rfl)
    (ht : eval (.Call (.Attribute o m apos) (e :: es) [] pos) X.env = (do
      let ov ← eval o X.env
      standAt apos.atName
      let (f, first) ← holding [ov] (getMethod ov m pl)
      callWith pos f first (backTo pos (starEach (e :: es) X.env)) (backToKw pos (keywordEach [] X.env))) := by rfl) :
    PE X (.Call (.Attribute o m apos) (e :: es) [] pos) (tMeS C m sp dvs E ta t) := by
  refine ⟨fun pins s σ H Q I h => ?_⟩
  refine PySem.W.methodCall_KW (pl := pl) (thn (he.run pins s σ H _ I h) fun u s1 ⟨x, H1, I1, rx, a, dx, fs, ex, ea, l, q⟩ => ?_) ht
  subst ex
  obtain rfl : u = Value.ref a := rx
  refine getmeth_ok I1 ea c hm l ?_
  refine PySem.W.callWith_K (first := [.ref a]) (h₀ := X.base) I.ok.mod.kin hm.kp (thn (ha.run pos pins s1 σ H1 _ I1 q) fun us s2 ⟨vs, H2, I2, r, q2⟩ => ⟨I2.kIn, ?_⟩) hst hpl
  exact run_fnSD (us := .ref a :: us) (vs := .ref a :: vs) F hr hb hd (hx σ) I2 (.cons rfl r) q2
theorem run_mkS {pins : List (Addr × Obj)} {σ : L2.St} {H : Hp} {s : Shared} {Q : VK} {us : List Value} {vs : List V} (M : Mk X.K C f) (F : FnOk X.prog X.w X.K X.mg X.base CX k f fd ps sp) (hr : Room (k + 1) X.A) (hb : Binds X.K fd ps ds) (hd : Vals dvs ds)
    (hx : PassesAt CX X σ (E σ)) (I : Inv X pins σ H s) (r : Vals vs us)
    (h : ∀ x dx, H x = none → H dx = none → dx ≠ x → sp (.ref x :: (vs ++ dvs)) (upd (upd H dx (.own x)) x (.ins C dx [])) (fun v H2 => v = .non ∧ Q (.ref x) H2) (E σ)) :
    wpAny (model X.prog X.w) X.A (call (.ref C) us) (EP X pins σ Q) X.xe s := by
  have hq := h (s.heap.objs.size + 1) s.heap.objs.size (I.hok.fresh (Nat.le_succ _)) (I.hok.fresh (Nat.le_refl _)) (Nat.ne_of_lt (Nat.lt_succ_self _))
  have I2 := Inv.made (C := C) I
  have r2 : Vals (V.ref (s.heap.objs.size + 1) :: (vs ++ dvs)) (Value.ref (s.heap.objs.size + 1) :: (us ++ ds)) := .cons rfl (r.append hd)
  have hl : (Value.ref (s.heap.objs.size + 1) :: us ++ ds).length = ps.length := by
    have e := r2.length
    rw [F.len _ _ _ _ hq] at e
    exact e.symm
  refine wpAny_call (make_map (f := f) I.kIn M.makes M.init (beq_iff_eq.mp M.fn) (codeAny_mono (F.run _ X.stack _ _ ⟨Value.ref (s.heap.objs.size + 1) :: us, []⟩ (Value.ref (s.heap.objs.size + 1) :: (us ++ ds)) _ _ (E σ) (hr.make C us [])
    (I2.env0.make C us []) (hb _ (Value.ref (s.heap.objs.size + 1) :: us) I2.kIn hl) r2 hq) fun r s' hq' => ?_))
  cases r with
  | error e => exact hx pins _ _ e s' I2 hq'
  | ok fl =>
    cases fl with
    | ret u =>
      obtain ⟨v, H', I3, rv, ev, q3⟩ := I2.after hq'
      subst ev
      exact ⟨rv, ⟨V.ref (s.heap.objs.size + 1), H', I3, rfl, q3⟩⟩
    | next => exact False.elim hq'
    | brk => exact False.elim hq'
    | cont => exact False.elim hq'
def tMkS (C : Addr) (sp : Sp) (dvs : List V) (E : L2.St → XK) (t : TA) : TE := fun σ H Q => t σ H fun vs H1 => ∀ x dx, H1 x = none → H1 dx = none → dx ≠ x →
  sp (.ref x :: (vs ++ dvs)) (upd (upd H1 dx (.own x)) x (.ins C dx [])) (fun v H2 => v = .non ∧ Q (.ref x) H2) (E σ)
theorem pe_mkS0 (M : Mk X.K C f) (F : FnOk X.prog X.w X.K X.mg X.base CX k f fd ps sp) (hr : Room (k + 1) X.A) (hg : Gl X x) (hm : X.mg x = some (.ref C)) (hb : Binds X.K fd ps ds) (hd : Vals dvs ds) (hx : ∀ σ, PassesAt CX X σ (E σ))
    (hdb : (x == ("__debug__" : Str)) = false := by decide) : PE X (.Call (.Name x p) [] [] pos) (tMkS C sp dvs E tNil) := by
  refine ⟨fun pins s σ H Q I h => ?_⟩
  refine wpAny_Call_Name_kw (ld_glob I hg hm ?_ hdb)
  exact PySem.W.callWith_K0 I.kIn M.kp (run_mkS (us := []) M F hr hb hd (hx σ) I .nil h)
def tMkNS (C : Addr) (n m : Nat) (sp : Sp) (gV : List V → List V → List V) (E : L2.St → XK) (t tk : TA) : TE := fun σ H Q => t σ H fun vs H1 => tk σ H1 fun zs H2 => vs.length = n ∧ zs.length = m ∧
  ∀ x dx, H2 x = none → H2 dx = none → dx ≠ x → sp (gV (.ref x :: vs) zs) (upd (upd H2 dx (.own x)) x (.ins C dx [])) (fun v H3 => v = .non ∧ Q (.ref x) H3) (E σ)
def tCallNS (n m : Nat) (sp : Sp) (gV : List V → List V → List V) (E : L2.St → XK) (t tk : TA) : TE := fun σ H Q => t σ H fun vs H1 => tk σ H1 fun zs H2 => vs.length = n ∧ zs.length = m ∧ sp (gV vs zs) H2 Q (E σ)
end
section
variable {K : PySem.W.Frag} {σ : L2.St} {H : Hp} {Q : VK} {n bk ct : L2.St → Hp → Prop} {rt : VK} {C a dx : Addr} {fs : List (Str × V)} {f m : Str} {v x y : V} {ta tv : TE} {t tk : TA} {sp : Sp} {E : L2.St → XK} {dvs : List V}
theorem ps_fldK {X : Cx} {o value : Expr} {pos pos' : Pos} (hK : X.K = K) (ha : PE X o ta) (hv : PE X value tv) (hs : swapsWith value (some (.Attribute o f pos')) pos.line X.env = pure false) : PS X (.Assign [.Attribute o f pos'] value pos) (sFld K ta tv f) := by
  subst hK
  exact ps_fld ha hv hs
def rFld (K : PySem.W.Frag) (f : Str) : V → Hp → VK → Prop := fun x H Q => ∃ a C dx fs v, x = .ref a ∧ H a = some (.ins C dx fs) ∧ Cls K C ∧ NoAttr K C f ∧ fs.lookup f = some v ∧ Q v H
theorem i_fld (q : ta σ H fun x H1 => rFld K f x H1 Q) : tFld K ta f σ H Q := q
theorem i_fldI (h : H a = some (.ins C dx fs)) (c : Cls K C) (n : NoAttr K C f) (l : fs.lookup f = some v) (q : Q v H) : rFld K f (.ref a) H Q := ⟨a, C, dx, fs, v, rfl, h, c, n, l, q⟩
theorem i_sfld (q : tv σ H fun y H1 => ta σ H1 fun x H2 => ∃ a C dx fs, x = .ref a ∧ H2 a = some (.ins C dx fs) ∧ Cls K C ∧ NoAttr K C f ∧ fs.length < 1000 ∧ n σ (upd H2 a (.ins C dx (putF f y fs)))) : sFld K ta tv f ⟨n, rt, bk, ct⟩ σ H := q
theorem i_sfldI {fs' : List (Str × V)} {R : Hp → Prop} (h : H a = some (.ins C dx fs)) (c : Cls K C) (n : NoAttr K C f) (e : putF f y fs = fs') (l : fs.length < 1000) (q : R (upd H a (.ins C dx fs'))) :
    ∃ a' C dx fs, V.ref a = .ref a' ∧ H a' = some (.ins C dx fs) ∧ Cls K C ∧ NoAttr K C f ∧ fs.length < 1000 ∧ R (upd H a' (.ins C dx (putF f y fs))) := ⟨a, C, dx, fs, rfl, h, c, n, l, by rw [e]; exact q⟩
theorem i_meS (q : ta σ H fun x H1 => ∃ a dx fs, x = .ref a ∧ H1 a = some (.ins C dx fs) ∧ fs.lookup m = none ∧ t σ H1 fun vs H2 => sp (x :: (vs ++ dvs)) H2 Q (E σ)) : tMeS C m sp dvs E ta t σ H Q := q
theorem i_recv {R : Prop} (h : H a = some (.ins C dx fs)) (l : fs.lookup m = none) (q : R) : ∃ a' dx fs, V.ref a = .ref a' ∧ H a' = some (.ins C dx fs) ∧ fs.lookup m = none ∧ R := ⟨a, dx, fs, rfl, h, l, q⟩
theorem i_mkS (q : t σ H fun vs H1 => ∀ x dx, H1 x = none → H1 dx = none → dx ≠ x → sp (.ref x :: (vs ++ dvs)) (upd (upd H1 dx (.own x)) x (.ins C dx [])) (fun v H2 => v = .non ∧ Q (.ref x) H2) (E σ)) : tMkS C sp dvs E t σ H Q := q
theorem i_mkNS {k m : Nat} {gV : List V → List V → List V} (q : t σ H fun vs H1 => tk σ H1 fun zs H2 => vs.length = k ∧ zs.length = m ∧ ∀ x dx, H2 x = none → H2 dx = none → dx ≠ x → sp (gV (.ref x :: vs) zs) (upd (upd H2 dx (.own x)) x (.ins C dx [])) (fun v H3 => v = .non ∧ Q (.ref x) H3) (E σ)) :
    tMkNS C k m sp gV E t tk σ H Q := q
theorem i_callNS {k m : Nat} {gV : List V → List V → List V} (q : t σ H fun vs H1 => tk σ H1 fun zs H2 => vs.length = k ∧ zs.length = m ∧ sp (gV vs zs) H2 Q (E σ)) : tCallNS k m sp gV E t tk σ H Q := q
theorem i_callSD (q : t σ H fun vs H1 => sp (vs ++ dvs) H1 Q (E σ)) : tCallSD sp dvs E t σ H Q := q
theorem i_meth {E' : XK} (q : ta σ H fun x H1 => ∃ a dx fs, x = .ref a ∧ H1 a = some (.ins C dx fs) ∧ fs.lookup m = none ∧ t σ H1 fun vs H2 => sp (x :: (vs ++ dvs)) H2 Q E') : tMeth C m sp dvs E' ta t σ H Q := q
end
section
variable {σ : L2.St} {H : Hp} {K : PySem.W.Frag} {Q : VK} {n bk ct : L2.St → Hp → Prop} {rt : VK} {tb : TS} {g : TG} {tt : TT} {te : TE} {ta : TA} {vs : List Nat} {a b D : Addr}
theorem i_forE (q : ta σ H fun vs H1 => ∃ a xs, vs = [.ref a] ∧ SqL K H1 a xs ∧ LOOP (Ite K a) g tb ⟨n, rt, bk, ct⟩ σ H1) : tFor (iEnum K ta) g tb ⟨n, rt, bk, ct⟩ σ H := q
theorem i_forZ (q : ta σ H fun vs H1 => ∃ a b xs ys, vs = [.ref a, .ref b] ∧ SqL K H1 a xs ∧ SqL K H1 b ys ∧ LOOP (Itz K a b) g tb ⟨n, rt, bk, ct⟩ σ H1) : tFor (iZip K ta) g tb ⟨n, rt, bk, ct⟩ σ H := q
theorem i_lcE (q : ta σ H fun us H1 => ∃ a xs, us = [.ref a] ∧ SqL K H1 a xs ∧ ∀ D, H1 D = none → COMP (Ite K a) g tt te vs σ H1 D Q) : tLc (iEnum K ta) g tt te vs σ H Q := q
theorem i_lcZ (q : ta σ H fun us H1 => ∃ a b xs ys, us = [.ref a, .ref b] ∧ SqL K H1 a xs ∧ SqL K H1 b ys ∧ ∀ D, H1 D = none → COMP (Itz K a b) g tt te vs σ H1 D Q) : tLc (iZip K ta) g tt te vs σ H Q := q
end
end SW
namespace SW
open PySem PySem.Spec PyProof.Rows L2
variable [QN]
inductive D where
  | int (i : Int) | bl (b : Bool) | str (x : Str) | non | ty (n : String) | adr (a : Addr)
  | tup (ds : List D) | lst (ds : List D)
  | dK (ks : List Key) (ds : List D) | dT (ks : List (List Key)) (ds : List D)
  | obj (C : Addr) (ns : List Str) (ds : List D)
  /-- an exception that was caught: where it stands, its class, its dict, its fields -/
  | exn (a C : Addr) (o : Option Addr) (ns : List Str) (ds : List D)
mutual
def R (K : PySem.W.Frag) (U : Hp) : D → V → Prop
  | .int i, v => v = .int i
  | .bl b, v => v = .bl b
  | .str x, v => v = .str x
  | .non, v => v = .non
  | .ty n, v => v = .ty n
  | .adr a, v => v = .ref a
  | .tup ds, v => ∃ a xs, v = .ref a ∧ SqT K U a xs ∧ Rs K U ds xs
  | .lst ds, v => ∃ a xs, v = .ref a ∧ U a = some (.lst xs) ∧ Rs K U ds xs
  | .dK ks ds, v => ∃ a xs, v = .ref a ∧ U a = some (.dK (ks.zip xs)) ∧ ks.length = xs.length ∧ Rs K U ds xs
  | .dT ks ds, v => ∃ a xs, v = .ref a ∧ U a = some (.dT (ks.zip xs)) ∧ ks.length = xs.length ∧ Rs K U ds xs
  | .obj C ns ds, v => ∃ a dx xs, v = .ref a ∧ U a = some (.ins C dx (ns.zip xs)) ∧ ns.length = xs.length ∧ Rs K U ds xs
  | .exn a _ o ns ds, v => v = .ref a ∧ ((ns = [] ∧ o = none) ∨ ∃ d xs, o = some d ∧ U d = some (.xd (ns.zip xs)) ∧ ns.length = xs.length ∧ Rs K U ds xs)
def Rs (K : PySem.W.Frag) (U : Hp) : List D → List V → Prop
  | [], vs => vs = []
  | d :: ds, vs => ∃ v r, vs = v :: r ∧ R K U d v ∧ Rs K U ds r
end
section
variable {K : PySem.W.Frag} {U U' H H' : Hp}
theorem Same.tup {a : Addr} {xs : List V} (e : Same U U') (h : SqT K U a xs) : SqT K U' a xs := by
  rcases h with (h | ⟨o, h⟩) | h
  · exact .inl (.inl (e _ _ h))
  · exact .inl (.inr ⟨o, e _ _ h⟩)
  · exact .inr h
mutual
theorem R.mono (e : Same U U') : ∀ (d : D) (v : V), R K U d v → R K U' d v
  | .int _, _, h => h
  | .bl _, _, h => h
  | .str _, _, h => h
  | .non, _, h => h
  | .ty _, _, h => h
  | .adr _, _, h => h
  | .tup ds, _, ⟨a, xs, h1, h2, h3⟩ => ⟨a, xs, h1, Same.tup e h2, Rs.mono e ds xs h3⟩
  | .lst ds, _, ⟨a, xs, h1, h2, h3⟩ => ⟨a, xs, h1, e _ _ h2, Rs.mono e ds xs h3⟩
  | .dK _ ds, _, ⟨a, xs, h1, h2, h3, h4⟩ => ⟨a, xs, h1, e _ _ h2, h3, Rs.mono e ds xs h4⟩
  | .dT _ ds, _, ⟨a, xs, h1, h2, h3, h4⟩ => ⟨a, xs, h1, e _ _ h2, h3, Rs.mono e ds xs h4⟩
  | .obj _ _ ds, _, ⟨a, dx, xs, h1, h2, h3, h4⟩ => ⟨a, dx, xs, h1, e _ _ h2, h3, Rs.mono e ds xs h4⟩
  | .exn _ _ _ _ ds, _, ⟨h1, h2⟩ => ⟨h1, h2.imp id fun ⟨d, xs, k1, k2, k3, k4⟩ => ⟨d, xs, k1, e _ _ k2, k3, Rs.mono e ds xs k4⟩⟩
theorem Rs.mono (e : Same U U') : ∀ (ds : List D) (vs : List V), Rs K U ds vs → Rs K U' ds vs
  | [], _, h => h
  | d :: ds, _, ⟨v, r, h1, h2, h3⟩ => ⟨v, r, h1, R.mono e d v h2, Rs.mono e ds r h3⟩
end
theorem Rs.len : ∀ {ds : List D} {vs : List V}, Rs K U ds vs → ds.length = vs.length
  | [], _, h => by rw [show _ = [] from h]; rfl
  | d :: ds, _, ⟨v, r, h1, h2, h3⟩ => by rw [h1, List.length_cons, List.length_cons, Rs.len h3]
theorem Rs.snoc : ∀ {ds : List D} {vs : List V} {d : D} {v : V}, Rs K U ds vs → R K U d v → Rs K U (ds ++ [d]) (vs ++ [v])
  | [], _, d, v, h, k => by
    rw [show _ = [] from h]
    exact ⟨v, [], rfl, k, rfl⟩
  | e :: ds, _, d, v, ⟨w, r, h1, h2, h3⟩, k => by
    subst h1
    exact ⟨w, r ++ [v], rfl, h2, Rs.snoc h3 k⟩
theorem Rs.app : ∀ {ds es : List D} {vs ws : List V}, Rs K U ds vs → Rs K U es ws → Rs K U (ds ++ es) (vs ++ ws)
  | [], es, _, ws, h, k => by
    rw [show _ = [] from h]
    exact k
  | d :: ds, es, _, ws, ⟨v, r, h1, h2, h3⟩, k => by
    subst h1
    exact ⟨v, r ++ ws, rfl, h2, Rs.app h3 k⟩
theorem Rs.at : ∀ {ds : List D} {vs : List V}, Rs K U ds vs → ∀ (i : Nat) (d : D), ds[i]? = some d → ∃ v, vs[i]? = some v ∧ R K U d v
  | [], _, h, i, d, e => by simp at e
  | c :: ds, _, ⟨v, r, h1, h2, h3⟩, 0, d, e => by
    subst h1
    have e' := Option.some.inj e
    subst e'
    exact ⟨v, rfl, h2⟩
  | c :: ds, _, ⟨v, r, h1, h2, h3⟩, i + 1, d, e => by
    subst h1
    exact Rs.at h3 i d e
theorem Rs.at' : ∀ {ds : List D} {vs : List V}, Rs K U ds vs → ∀ (i : Nat) (v : V), vs[i]? = some v → ∃ d, ds[i]? = some d ∧ R K U d v
  | [], _, h, i, d, e => by rw [show _ = [] from h] at e; simp at e
  | c :: ds, _, ⟨v, r, h1, h2, h3⟩, 0, d, e => by
    subst h1
    have e' := Option.some.inj e
    subst e'
    exact ⟨c, rfl, h2⟩
  | c :: ds, _, ⟨v, r, h1, h2, h3⟩, i + 1, d, e => by
    subst h1
    exact Rs.at' h3 i d e
theorem Rs.take : ∀ {ds : List D} {vs : List V} (n : Nat), Rs K U ds vs → Rs K U (ds.take n) (vs.take n)
  | _, _, 0, _ => rfl
  | [], _, n + 1, h => by rw [show _ = [] from h]; rfl
  | c :: ds, _, n + 1, ⟨v, r, h1, h2, h3⟩ => by
    subst h1
    exact ⟨v, r.take n, rfl, h2, Rs.take n h3⟩
theorem Rs.drop : ∀ {ds : List D} {vs : List V} (n : Nat), Rs K U ds vs → Rs K U (ds.drop n) (vs.drop n)
  | _, _, 0, h => h
  | [], _, n + 1, h => by rw [show _ = [] from h]; rfl
  | c :: ds, _, n + 1, ⟨v, r, h1, h2, h3⟩ => by
    subst h1
    exact Rs.drop n h3
theorem Rs.set : ∀ {ds : List D} {vs : List V} {d : D} {v : V} (n : Nat), Rs K U ds vs → R K U d v → Rs K U (ds.set n d) (vs.set n v)
  | [], _, d, v, n, h, k => by rw [show _ = [] from h]; rfl
  | c :: ds, _, d, v, 0, ⟨w, r, h1, h2, h3⟩, k => by
    subst h1
    exact ⟨v, r, rfl, k, h3⟩
  | c :: ds, _, d, v, n + 1, ⟨w, r, h1, h2, h3⟩, k => by
    subst h1
    exact ⟨w, r.set n v, rfl, h2, Rs.set n h3 k⟩
theorem Rs.strs : ∀ {ns : List Str} {vs : List V}, Rs K U (ns.map D.str) vs → vs = ns.map V.str
  | [], _, h => h
  | n :: ns, _, ⟨v, r, h1, h2, h3⟩ => by
    rw [h1, Rs.strs h3, show v = V.str n from h2]
    rfl
theorem Rs.bls : ∀ {ns : List Bool} {vs : List V}, Rs K U (ns.map D.bl) vs → vs = ns.map V.bl
  | [], _, h => h
  | n :: ns, _, ⟨v, r, h1, h2, h3⟩ => by
    rw [h1, Rs.bls h3, show v = V.bl n from h2]
    rfl
end
inductive AV where
  | fz (d : D) | ol (ds : List D) | ok (ks : List Key) (ds : List D) | ot (ks : List (List Key)) (ds : List D) | dr
  /-- a list of things of one's own; an instance with such fields -/
  | on (ws : List V) (as : List AV) | ob (C dx : Addr) (ns : List Str) (ws : List V) (as : List AV)
  /-- a tuple of such things; what is not told -/
  | ut (ws : List V) (as : List AV) | un
abbrev Env := List (Option AV)
def AV.kind : AV → Nat
  | .fz _ => 0
  | .ol _ => 1
  | .ok _ _ => 2
  | .ot _ _ => 3
  | .dr => 4
  | .on _ _ => 5
  | .ob _ _ _ _ _ => 6
  | .ut _ _ => 7
  | .un => 8
def AV.isOwn : AV → Bool
  | .fz _ => false
  | _ => true
/-- what is seen of a thing within another -/
def seen : AV → V → D
  | .fz d, _ => d
  | _, .ref p => .adr p
  | _, _ => .non
def seens : List AV → List V → List D
  | a :: as, v :: vs => seen a v :: seens as vs
  | _, _ => []
/-- what is read of it, its items never changing -/
def AV.sh : AV → Option D
  | .fz d => some d
  | .ol ds => some (.lst ds)
  | .ok ks ds => some (.dK ks ds)
  | .ot ks ds => some (.dT ks ds)
  | .on ws as => some (.lst (seens as ws))
  | .ut ws as => some (.tup (seens as ws))
  | .ob C _ ns ws as => some (.obj C ns (seens as ws))
  | _ => none
mutual
def AV.frz : AV → Option D
  | .fz d => some d
  | .ol ds => some (.lst ds)
  | .ok ks ds => some (.dK ks ds)
  | .ot ks ds => some (.dT ks ds)
  | .dr => none
  | .on _ as => (frzs as).map .lst
  | .ob C _ ns _ as => (frzs as).map (.obj C ns)
  | .ut _ as => (frzs as).map .tup
  | .un => none
def frzs : List AV → Option (List D)
  | [] => some []
  | a :: as => match a.frz, frzs as with
    | some d, some ds => some (d :: ds)
    | _, _ => none
end
mutual
def RepA (K : PySem.W.Frag) (U H : Hp) : AV → V → Prop
  | .fz d, v => R K U d v
  | .ol ds, v => ∃ p xs, v = .ref p ∧ H p = some (.lst xs) ∧ Rs K U ds xs
  | .ok ks ds, v => ∃ p xs, v = .ref p ∧ H p = some (.dK (ks.zip xs)) ∧ ks.length = xs.length ∧ Rs K U ds xs
  | .ot ks ds, v => ∃ p xs, v = .ref p ∧ H p = some (.dT (ks.zip xs)) ∧ ks.length = xs.length ∧ Rs K U ds xs
  | .dr, v => ∃ s, v = .ref s ∧ Dr U H s
  | .on ws as, v => ∃ p, v = .ref p ∧ H p = some (.lst ws) ∧ RepAs K U H as ws
  | .ob C dx ns ws as, v => ∃ p, v = .ref p ∧ H p = some (.ins C dx (ns.zip ws)) ∧ ns.length = ws.length ∧ RepAs K U H as ws
  | .ut ws as, v => ∃ p, v = .ref p ∧ SqT K U p ws ∧ RepAs K U H as ws
  | .un, v => ∃ p, v = .ref p
def RepAs (K : PySem.W.Frag) (U H : Hp) : List AV → List V → Prop
  | [], vs => vs = []
  | a :: as, vs => ∃ v r, vs = v :: r ∧ RepA K U H a v ∧ RepAs K U H as r
end
mutual
def own : AV → V → List Addr
  | .ol _, .ref p => [p]
  | .ok _ _, .ref p => [p]
  | .ot _ _, .ref p => [p]
  | .dr, .ref p => [p]
  | .on ws as, .ref p => p :: ownAs as ws
  | .ob _ _ _ ws as, .ref p => p :: ownAs as ws
  | .ut ws as, .ref p => ownAs as ws
  | _, _ => []
def ownAs : List AV → List V → List Addr
  | a :: as, v :: vs => own a v ++ ownAs as vs
  | _, _ => []
end
theorem seen_r {K : PySem.W.Frag} {U H : Hp} {a : AV} {v : V} (h : RepA K U H a v) : R K U (seen a v) v := by
  cases a with
  | fz d => exact h
  | ol ds => obtain ⟨p, xs, rfl, _⟩ := h; exact rfl
  | ok ks ds => obtain ⟨p, xs, rfl, _⟩ := h; exact rfl
  | ot ks ds => obtain ⟨p, xs, rfl, _⟩ := h; exact rfl
  | dr => obtain ⟨p, rfl, _⟩ := h; exact rfl
  | on ws as => obtain ⟨p, rfl, _⟩ := h; exact rfl
  | ob C dx ns ws as => obtain ⟨p, rfl, _⟩ := h; exact rfl
  | ut ws as => obtain ⟨p, rfl, _⟩ := h; exact rfl
  | un => obtain ⟨p, rfl⟩ := h; exact rfl
theorem seens_r {K : PySem.W.Frag} {U H : Hp} : ∀ {as : List AV} {vs : List V}, RepAs K U H as vs → Rs K U (seens as vs) vs
  | [], _, h => by
    rw [show _ = [] from h]
    exact rfl
  | a :: as, _, ⟨v, r, e, h1, h2⟩ => by
    subst e
    exact ⟨v, r, rfl, seen_r h1, seens_r h2⟩
def RepS (K : PySem.W.Frag) (U H : Hp) : Option AV → Option V → Prop
  | none, _ => True
  | some av, some v => RepA K U H av v
  | some _, none => False
def ownS : Option AV → Option V → List Addr
  | some av, some v => own av v
  | _, _ => []
def owns : Env → L2.St → List Addr
  | a :: ρ, v :: σ => ownS a v ++ owns ρ σ
  | _, _ => []
section
variable {K : PySem.W.Frag} {U H U' H' : Hp}
mutual
theorem own_pl : ∀ (av : AV) (v : V), RepA K U H av v → ∀ p ∈ own av v, Pl H p
  | .fz _, v, _, p, hp => by cases hp
  | .ol _, _, ⟨q, xs, e, h, _⟩, p, hp => by
    subst e
    rw [List.mem_singleton.mp hp]
    exact .of h rfl
  | .ok _ _, _, ⟨q, xs, e, h, _⟩, p, hp => by
    subst e
    rw [List.mem_singleton.mp hp]
    exact .of h rfl
  | .ot _ _, _, ⟨q, xs, e, h, _⟩, p, hp => by
    subst e
    rw [List.mem_singleton.mp hp]
    exact .of h rfl
  | .dr, _, ⟨q, e, h⟩, p, hp => by
    subst e
    rw [List.mem_singleton.mp hp]
    exact h.pl
  | .on ws as, _, ⟨q, e, h, k⟩, p, hp => by
    subst e
    rcases List.mem_cons.mp hp with z | z
    · rw [z]
      exact .of h rfl
    · exact ownAs_pl as ws k p z
  | .ob _ _ _ ws as, _, ⟨q, e, h, _, k⟩, p, hp => by
    subst e
    rcases List.mem_cons.mp hp with z | z
    · rw [z]
      exact .of h rfl
    · exact ownAs_pl as ws k p z
  | .ut ws as, _, ⟨q, e, h, k⟩, p, hp => by
    subst e
    exact ownAs_pl as ws k p hp
  | .un, v, _, p, hp => by cases hp
theorem ownAs_pl : ∀ (as : List AV) (vs : List V), RepAs K U H as vs → ∀ p ∈ ownAs as vs, Pl H p
  | [], vs, _, p, hp => by cases vs <;> cases hp
  | a :: as, _, ⟨v, r, e, h1, h2⟩, p, hp => by
    subst e
    rcases List.mem_append.mp hp with z | z
    · exact own_pl a v h1 p z
    · exact ownAs_pl as r h2 p z
end
theorem own_some (av : AV) (v : V) (h : RepA K U H av v) (p : Addr) (hp : p ∈ own av v) : H p ≠ none := (own_pl av v h p hp).ne
theorem ownAs_some (as : List AV) (vs : List V) (h : RepAs K U H as vs) (p : Addr) (hp : p ∈ ownAs as vs) : H p ≠ none := (ownAs_pl as vs h p hp).ne
mutual
/-- what is one's own stands on where its own places stand as they did -/
theorem RepA.keep (s : Same U U') : ∀ (av : AV) (v : V), (∀ p ∈ own av v, H' p = H p ∧ U' p = none) → RepA K U H av v → RepA K U' H' av v
  | .fz d, v, _, h => R.mono s d v h
  | .ol ds, _, n, ⟨q, xs, e, h, r⟩ => by
    subst e
    exact ⟨q, xs, rfl, (n q (List.mem_singleton.mpr rfl)).1.trans h, Rs.mono s _ _ r⟩
  | .ok ks ds, _, n, ⟨q, xs, e, h, l, r⟩ => by
    subst e
    exact ⟨q, xs, rfl, (n q (List.mem_singleton.mpr rfl)).1.trans h, l, Rs.mono s _ _ r⟩
  | .ot ks ds, _, n, ⟨q, xs, e, h, l, r⟩ => by
    subst e
    exact ⟨q, xs, rfl, (n q (List.mem_singleton.mpr rfl)).1.trans h, l, Rs.mono s _ _ r⟩
  | .dr, _, n, ⟨q, e, h⟩ => by
    subst e
    exact ⟨q, rfl, h.mono s (n q (List.mem_singleton.mpr rfl)).1 (n q (List.mem_singleton.mpr rfl)).2⟩
  | .on ws as, _, n, ⟨q, e, h, k⟩ => by
    subst e
    exact ⟨q, rfl, (n q List.mem_cons_self).1.trans h, RepAs.keep s as ws (fun p hp => n p (List.mem_cons_of_mem _ hp)) k⟩
  | .ob C dx ns ws as, _, n, ⟨q, e, h, l, k⟩ => by
    subst e
    exact ⟨q, rfl, (n q List.mem_cons_self).1.trans h, l, RepAs.keep s as ws (fun p hp => n p (List.mem_cons_of_mem _ hp)) k⟩
  | .ut ws as, _, n, ⟨q, e, h, k⟩ => by
    subst e
    exact ⟨q, rfl, Same.tup s h, RepAs.keep s as ws n k⟩
  | .un, _, _, h => h
theorem RepAs.keep (s : Same U U') : ∀ (as : List AV) (vs : List V), (∀ p ∈ ownAs as vs, H' p = H p ∧ U' p = none) → RepAs K U H as vs → RepAs K U' H' as vs
  | [], _, _, h => h
  | a :: as, _, n, ⟨v, r, e, h1, h2⟩ => by
    subst e
    exact ⟨v, r, rfl, RepA.keep s a v (fun p hp => n p (List.mem_append_left _ hp)) h1, RepAs.keep s as r (fun p hp => n p (List.mem_append_right _ hp)) h2⟩
end
theorem RepAs.len : ∀ {as : List AV} {vs : List V}, RepAs K U H as vs → as.length = vs.length
  | [], _, h => by rw [show _ = [] from h]; rfl
  | a :: as, _, ⟨v, r, e, _, h2⟩ => by rw [e, List.length_cons, List.length_cons, RepAs.len h2]
theorem RepAs.paired : ∀ {as : List AV} {vs : List V}, RepAs K U H as vs → Paired (RepA K U H) as vs
  | [], _, h => by rw [show _ = [] from h]; exact .nil
  | a :: as, _, ⟨v, r, e, h1, h2⟩ => by rw [e]; exact .cons h1 (RepAs.paired h2)
theorem RepAs.of : ∀ {as : List AV} {vs : List V}, Paired (RepA K U H) as vs → RepAs K U H as vs
  | _, _, .nil => rfl
  | _, _, .cons h t => ⟨_, _, rfl, h, RepAs.of t⟩
end
structure Exn where
  C : Addr
  ns : List Str
  ds : List D
def XRep (K : PySem.W.Frag) (U H : Hp) (x : Exn) (cls : Value) (o : Option Addr) : Prop :=
  cls = .ref x.C ∧ ((x.ns = [] ∧ o = none) ∨ ∃ d xs, o = some d ∧ U d = some (.xd (x.ns.zip xs)) ∧ x.ns.length = xs.length ∧ Rs K U x.ds xs)
/-- the marked ones of a row -/
def selM {α : Type} : List Bool → List α → List α
  | true :: ks, a :: r => a :: selM ks r
  | false :: ks, _ :: r => selM ks r
  | _, _ => []
/-- each one's places are those it had, or new -/
def PerO (H0 : Hp) : List AV → List V → List (List Addr) → Prop
  | a :: as, v :: vs, o :: os => (∀ p ∈ own a v, p ∈ o ∨ H0 p = none) ∧ PerO H0 as vs os
  | [], [], _ => True
  | _, _, _ => False
structure DC where
  K : PySem.W.Frag
  /-- which parameters are one's own (the law's draws among them), their kinds, their values -/
  ks : List Bool
  pk : List Nat
  pv : List V
  /-- the places that were each slot's own at the beginning -/
  O : List (List Addr)
  M : List Addr
  U0 : Hp
  H0 : Hp
  X : Exn → List (Option AV) → Prop
  /-- what is wished of an exception that leaves, at the slots as they stand -/
  E : L2.St → XK
  /-- the tables of codes that stand, and their codes' names -/
  tb : List Addr
/-- the tables stand; the view has none -/
def TbOk (tb : List Addr) (U H : Hp) : Prop := (∀ p ∈ tb, LamX.TabS H p (QN.qn p)) ∧ NT U
theorem TbOk.gr {tb : List Addr} {M : List Addr} {U H U' H' : Hp} (h : TbOk tb U H) (g : Gr M U H U' H') : TbOk tb U' H' := ⟨fun p hp => g.tb _ (h.1 p hp), g.nt h.2⟩
/-- what the marked parameters hold -/
structure ParRep (c : DC) (U H : Hp) (as : List (Option AV)) : Prop where
  ex : ∃ avs : List AV, as = avs.map some ∧ RepAs c.K U H avs c.pv ∧ avs.map AV.kind = c.pk ∧ (ownAs avs c.pv).Nodup ∧ (∀ p ∈ ownAs avs c.pv, U p = none) ∧ PerO c.H0 avs c.pv (selM c.ks c.O)
structure DC.Ok (c : DC) : Prop where
  x : ∀ U H σ as x cls o, selM c.ks σ = c.pv.map some → σ.length = c.O.length → Gr c.M c.U0 c.H0 U H → ParRep c U H as → XRep c.K U H x cls o → c.X x as → c.E σ cls o H
  tb : TbOk c.tb c.U0 c.H0
def DC.x (c : DC) (ρ : Env) : Exn → Prop := fun x => c.X x (selM c.ks ρ)
def noPar (c : DC) (i : Nat) : Bool := !(c.ks.getD i false)
theorem sel_set {α : Type} : ∀ (ks : List Bool) (r : List α) (i : Nat) (x : α), ks.getD i false = false → selM ks (r.set i x) = selM ks r
  | [], r, i, x, _ => by cases r <;> cases i <;> rfl
  | k :: ks, [], i, x, _ => rfl
  | true :: ks, a :: r, 0, x, h => by cases h
  | false :: ks, a :: r, 0, x, h => rfl
  | true :: ks, a :: r, i + 1, x, h => congrArg (a :: ·) (sel_set ks r i x h)
  | false :: ks, a :: r, i + 1, x, h => sel_set ks r i x h
structure DI (c : DC) (U H : Hp) (σ : L2.St) (ρ : Env) : Prop where
  gr : Gr c.M c.U0 c.H0 U H
  rep : Paired (RepS c.K U H) ρ σ
  nd : (owns ρ σ).Nodup
  out : ∀ p ∈ owns ρ σ, U p = none ∧ (p ∈ c.M ∨ c.H0 p = none)
  par : selM c.ks σ = c.pv.map some ∧ ∃ avs : List AV, selM c.ks ρ = avs.map some ∧ avs.map AV.kind = c.pk
  ko : c.Ok
  ow : ∀ (i : Nat) (av : AV) (v : V), ρ[i]? = some (some av) → σ[i]? = some (some v) → ∀ p ∈ own av v, p ∈ c.O.getD i [] ∨ c.H0 p = none
  on : c.O.length = σ.length ∧ ∀ i, noPar c i = true → c.O.getD i [] = []
section
variable {K : PySem.W.Frag} {c : DC} {U H U' H' : Hp} {σ : L2.St} {ρ : Env}
theorem DI.vh (h : DI c U H σ ρ) : Same U H := h.gr.vh
theorem DI.nw (h : DI c U H σ ρ) (i : Nat) (av : AV) (v : V) (hi : noPar c i = true) (e1 : ρ[i]? = some (some av)) (e2 : σ[i]? = some (some v)) : ∀ p ∈ own av v, c.H0 p = none := fun p hp => by
  rcases h.ow i av v e1 e2 p hp with z | z
  · rw [h.on.2 i hi] at z
    cases z
  · exact z
theorem noPar_of {i : Nat} (h : noPar c i = true) : c.ks.getD i false = false := by
  unfold noPar at h
  rwa [Bool.not_eq_true'] at h
theorem DC.x_set {i : Nat} {a : Option AV} (h : noPar c i = true) : c.x (ρ.set i a) = c.x ρ := by
  unfold DC.x
  rw [sel_set _ _ _ _ (noPar_of h)]
theorem owns_pl : ∀ {ρ : Env} {σ : L2.St}, Paired (RepS K U H) ρ σ → ∀ p ∈ owns ρ σ, Pl H p
  | _, _, .nil, p, hp => by cases hp
  | _, _, .cons (a := a) (b := b) h t, p, hp => by
    rcases List.mem_append.mp hp with hp | hp
    · cases a with
      | none => cases hp
      | some av =>
        cases b with
        | none => cases hp
        | some v => exact own_pl av v h p hp
    · exact owns_pl t p hp
theorem owns_some {ρ : Env} {σ : L2.St} (h : Paired (RepS K U H) ρ σ) (p : Addr) (hp : p ∈ owns ρ σ) : H p ≠ none := (owns_pl h p hp).ne
theorem DI.pl (h : DI c U H σ ρ) : ∀ p ∈ owns ρ σ, Pl H p := owns_pl h.rep
theorem DI.ex (h : DI c U H σ ρ) : ∀ p ∈ owns ρ σ, H p ≠ none := owns_some h.rep
theorem DI.tbs (h : DI c U H σ ρ) : TbOk c.tb U H := h.ko.tb.gr h.gr
theorem DI.ne (h : DI c U H σ ρ) {q : Addr} (n : H q = none) : ∀ p ∈ owns ρ σ, p ≠ q := fun p hp z => by
  subst z
  exact h.ex p hp n
theorem keep_at {M : List Addr} (g : Gr M U H U' H') {p : Addr} (n : Pl H p) (m : p ∉ M) : H' p = H p := g.at m n
theorem RepA.gr {av : AV} {v : V} (g : Gr [] U H U' H') (nu : ∀ p ∈ own av v, U p = none) (h : RepA K U H av v) : RepA K U' H' av v :=
  RepA.keep g.vv av v (fun p hp => ⟨keep_at g (own_pl av v h p hp) (by simp), g.fr p (nu p hp) (own_some av v h p hp)⟩) h
/-- the slots' things stand on where their own places do -/
theorem reps_keep (s : Same U U') : ∀ {ρ : Env} {σ : L2.St}, (∀ p ∈ owns ρ σ, H' p = H p ∧ U' p = none) → Paired (RepS K U H) ρ σ → Paired (RepS K U' H') ρ σ
  | _, _, _, .nil => .nil
  | x :: _, y :: _, n, .cons h t => by
    refine .cons ?_ (reps_keep s (fun p hp => n p (List.mem_append_right _ hp)) t)
    cases x with
    | none => trivial
    | some av =>
      cases y with
      | none => exact h.elim
      | some v => exact RepA.keep s av v (fun p hp => n p (List.mem_append_left _ hp)) h
theorem DI.grow (h : DI c U H σ ρ) (g : Gr [] U H U' H') : DI c U' H' σ ρ :=
  have u : ∀ p ∈ owns ρ σ, U' p = none := fun p hp => g.fr p (h.out p hp).1 (h.ex p hp)
  ⟨h.gr.trans g.any, reps_keep g.vv (fun p hp => ⟨keep_at g (h.pl p hp) (by simp), u p hp⟩) h.rep, h.nd, fun p hp => ⟨u p hp, (h.out p hp).2⟩, h.par, h.ko, h.ow, h.on⟩
theorem rep_at : ∀ {ρ : Env} {σ : L2.St}, Paired (RepS K U H) ρ σ → ∀ (i : Nat) (av : AV), ρ[i]? = some (some av) → ∃ v, σ[i]? = some (some v) ∧ RepA K U H av v ∧ ∀ p ∈ own av v, p ∈ owns ρ σ
  | _, _, .nil, i, av, e => by simp at e
  | _, _, .cons (a := a) (b := b) h t, 0, av, e => by
    have e' := Option.some.inj e
    subst e'
    cases b with
    | none => exact h.elim
    | some v => exact ⟨v, rfl, h, fun p hp => List.mem_append_left _ hp⟩
  | _, _, .cons (a := a) (b := b) h t, i + 1, av, e => by
    obtain ⟨v, h1, h2, h3⟩ := rep_at t i av e
    exact ⟨v, h1, h2, fun p hp => List.mem_append_right _ (h3 p hp)⟩
theorem mem_owns : ∀ {ρ : Env} {σ : L2.St} {i : Nat} {av : AV} {v : V}, ρ[i]? = some (some av) → σ[i]? = some (some v) → ∀ p ∈ own av v, p ∈ owns ρ σ
  | [], _, i, av, v, h, k, p, hp => by simp at h
  | _ :: _, [], i, av, v, h, k, p, hp => by simp at k
  | x :: ρ, y :: σ, 0, av, v, h, k, p, hp => by
    have h' := Option.some.inj h
    have k' := Option.some.inj k
    subst h' k'
    exact List.mem_append_left _ hp
  | x :: ρ, y :: σ, i + 1, av, v, h, k, p, hp => List.mem_append_right _ (mem_owns (ρ := ρ) (σ := σ) h k p hp)
theorem owns_set_sub : ∀ (ρ : Env) (σ : L2.St) (i : Nat) (a : Option AV) (v : Option V), ownS a v = [] → (owns (ρ.set i a) (σ.set i v)).Sublist (owns ρ σ)
  | [], _, _, _, _, _ => by simp [owns]
  | _ :: _, [], i, a, v, _ => by cases i <;> simp [owns]
  | b :: ρ, w :: σ, 0, a, v, h => by
    show (ownS a v ++ owns ρ σ).Sublist (ownS b w ++ owns ρ σ)
    rw [h]
    exact List.sublist_append_right _ _
  | b :: ρ, w :: σ, i + 1, a, v, h => by
    show (ownS b w ++ owns (ρ.set i a) (σ.set i v)).Sublist (ownS b w ++ owns ρ σ)
    exact List.Sublist.append_left (owns_set_sub ρ σ i a v h) _
theorem owns_set_mem : ∀ (ρ : Env) (σ : L2.St) (i : Nat) (a : Option AV) (v : Option V), ∀ p ∈ owns (ρ.set i a) (σ.set i v), p ∈ owns ρ σ ∨ p ∈ ownS a v
  | [], _, _, _, _, p, hp => by simp [owns] at hp
  | _ :: _, [], i, a, v, p, hp => by cases i <;> simp [owns] at hp
  | b :: ρ, w :: σ, 0, a, v, p, hp => by
    rcases List.mem_append.mp hp with h | h
    · exact .inr h
    · exact .inl (List.mem_append_right _ h)
  | b :: ρ, w :: σ, i + 1, a, v, p, hp => by
    rcases List.mem_append.mp hp with h | h
    · exact .inl (List.mem_append_left _ h)
    · exact (owns_set_mem ρ σ i a v p h).imp (List.mem_append_right _) id
theorem owns_set_nd : ∀ (ρ : Env) (σ : L2.St) (i : Nat) (a : Option AV) (v : Option V), (owns ρ σ).Nodup → (ownS a v).Nodup → (∀ p ∈ ownS a v, p ∉ owns ρ σ) → (owns (ρ.set i a) (σ.set i v)).Nodup
  | [], _, _, _, _, _, _, _ => by simp [owns]
  | _ :: _, [], i, a, v, _, _, _ => by cases i <;> simp [owns]
  | b :: ρ, w :: σ, 0, a, v, h, k, n => by
    show (ownS a v ++ owns ρ σ).Nodup
    refine List.nodup_append.mpr ⟨k, (List.nodup_append.mp h).2.1, fun x hx y hy z => ?_⟩
    subst z
    exact n x hx (List.mem_append_right _ hy)
  | b :: ρ, w :: σ, i + 1, a, v, h, k, n => by
    show (ownS b w ++ owns (ρ.set i a) (σ.set i v)).Nodup
    obtain ⟨h1, h2, h3⟩ := List.nodup_append.mp h
    refine List.nodup_append.mpr ⟨h1, owns_set_nd ρ σ i a v h2 k fun p hp q => n p hp (List.mem_append_right _ q), fun x hx y hy z => ?_⟩
    subst z
    rcases owns_set_mem ρ σ i a v x hy with q | q
    · exact h3 x hx x q rfl
    · exact n x q (List.mem_append_left _ hx)
/-- what the marked parameters hold -/
theorem sel_owns : ∀ (ks : List Bool) (ρ : Env) (σ : L2.St) (avs : List AV) (vs : List V), Paired (RepS K U H) ρ σ → selM ks ρ = avs.map some → selM ks σ = vs.map some → RepAs K U H avs vs ∧ (ownAs avs vs).Sublist (owns ρ σ)
  | [], ρ, σ, avs, vs, _, e1, e2 => by
    have a1 : avs = [] := by cases avs with
      | nil => rfl
      | cons a as => cases ρ <;> cases e1
    have a2 : vs = [] := by cases vs with
      | nil => rfl
      | cons a as => cases σ <;> cases e2
    subst a1 a2
    exact ⟨rfl, List.nil_sublist _⟩
  | k :: ks, _, _, avs, vs, .nil, e1, e2 => by
    have a1 : avs = [] := by cases avs with
      | nil => rfl
      | cons a as => cases k <;> cases e1
    have a2 : vs = [] := by cases vs with
      | nil => rfl
      | cons a as => cases k <;> cases e2
    subst a1 a2
    exact ⟨rfl, List.nil_sublist _⟩
  | true :: ks, x :: ρ, y :: σ, avs, vs, .cons h t, e1, e2 => by
    cases avs with
    | nil => cases e1
    | cons a avs =>
      cases vs with
      | nil => cases e2
      | cons v vs =>
        have f1 := List.cons.inj e1
        have f2 := List.cons.inj e2
        obtain ⟨g1, g2⟩ := f1
        obtain ⟨g3, g4⟩ := f2
        subst g1 g3
        obtain ⟨k1, k2⟩ := sel_owns ks ρ σ avs vs t g2 g4
        exact ⟨⟨v, vs, rfl, h, k1⟩, List.Sublist.append_left k2 _⟩
  | false :: ks, x :: ρ, y :: σ, avs, vs, .cons h t, e1, e2 => by
    obtain ⟨k1, k2⟩ := sel_owns ks ρ σ avs vs t e1 e2
    exact ⟨k1, k2.trans (List.sublist_append_right _ _)⟩
theorem sel_per {H0 : Hp} : ∀ (ks : List Bool) (ρ : Env) (σ : L2.St) (O : List (List Addr)) (avs : List AV) (vs : List V), ρ.length = σ.length → O.length = σ.length → (∀ (i : Nat) (av : AV) (v : V), ρ[i]? = some (some av) → σ[i]? = some (some v) → ∀ p ∈ own av v, p ∈ O.getD i [] ∨ H0 p = none) → selM ks ρ = avs.map some → selM ks σ = vs.map some → PerO H0 avs vs (selM ks O)
  | [], ρ, σ, O, avs, vs, _, _, _, e1, e2 => by
    have a1 : avs = [] := by cases avs with
      | nil => rfl
      | cons a as => cases ρ <;> cases e1
    have a2 : vs = [] := by cases vs with
      | nil => rfl
      | cons a as => cases σ <;> cases e2
    subst a1 a2
    exact trivial
  | k :: ks, [], [], O, avs, vs, _, _, _, e1, e2 => by
    have a1 : avs = [] := by cases avs with
      | nil => rfl
      | cons a as => cases k <;> cases e1
    have a2 : vs = [] := by cases vs with
      | nil => rfl
      | cons a as => cases k <;> cases e2
    subst a1 a2
    exact trivial
  | true :: ks, x :: ρ, y :: σ, [], avs, vs, _, lo, _, e1, e2 => by cases lo
  | false :: ks, x :: ρ, y :: σ, [], avs, vs, _, lo, _, e1, e2 => by cases lo
  | true :: ks, x :: ρ, y :: σ, o :: O, avs, vs, l1, lo, h, e1, e2 => by
    cases avs with
    | nil => cases e1
    | cons a avs =>
      cases vs with
      | nil => cases e2
      | cons v vs =>
        obtain ⟨g1, g2⟩ := List.cons.inj e1
        obtain ⟨g3, g4⟩ := List.cons.inj e2
        subst g1 g3
        exact ⟨fun p hp => h 0 a v rfl rfl p hp, sel_per ks ρ σ O avs vs (Nat.succ.inj l1) (Nat.succ.inj lo) (fun i av w f1 f2 => h (i + 1) av w f1 f2) g2 g4⟩
  | false :: ks, x :: ρ, y :: σ, o :: O, avs, vs, l1, lo, h, e1, e2 => sel_per ks ρ σ O avs vs (Nat.succ.inj l1) (Nat.succ.inj lo) (fun i av w f1 f2 => h (i + 1) av w f1 f2) e1 e2
theorem DI.pars (h : DI c U H σ ρ) : ParRep c U H (selM c.ks ρ) := by
  obtain ⟨e1, avs, e2, e3⟩ := h.par
  obtain ⟨k1, k2⟩ := sel_owns c.ks ρ σ avs c.pv h.rep e2 e1
  exact ⟨avs, e2, k1, e3, k2.nodup h.nd, fun p hp => (h.out p (k2.mem hp)).1, sel_per c.ks ρ σ c.O avs c.pv h.rep.length h.on.1 h.ow e2 e1⟩
theorem DI.raise {x : Exn} {cls : Value} {o : Option Addr} (h : DI c U H σ ρ) (xr : XRep c.K U H x cls o) (z : c.x ρ x) : c.E σ cls o H := h.ko.x U H σ _ x cls o h.par.1 h.on.1.symm h.gr h.pars xr z
theorem par_set {ρ' : Env} {σ' : L2.St} (e1 : selM c.ks σ' = selM c.ks σ) (e2 : selM c.ks ρ' = selM c.ks ρ) (h : selM c.ks σ = c.pv.map some ∧ ∃ avs : List AV, selM c.ks ρ = avs.map some ∧ avs.map AV.kind = c.pk) :
    selM c.ks σ' = c.pv.map some ∧ ∃ avs : List AV, selM c.ks ρ' = avs.map some ∧ avs.map AV.kind = c.pk := by rw [e1, e2]; exact h
/-- a slot is written: with what never changes -/
theorem DI.setF (h : DI c U H σ ρ) {i : Nat} {d : D} {v : V} (r : R c.K U d v) (hi : noPar c i = true) : DI c U H (σ.set i (some v)) (ρ.set i (some (.fz d))) := by
  have hn := noPar_of hi
  refine ⟨h.gr, Paired.setAt (F := RepS c.K U H) (show RepS c.K U H (some (.fz d)) (some v) from r) i h.rep, (owns_set_sub ρ σ i _ _ rfl).nodup h.nd, fun p hp => h.out p ((owns_set_sub ρ σ i _ _ rfl).mem hp), par_set (sel_set _ _ _ _ hn) (sel_set _ _ _ _ hn) h.par, h.ko, fun k av w e1 e2 p hp => ?_, by rw [List.length_set]; exact h.on⟩
  by_cases z : i = k
  · subst z
    rw [List.getElem?_set] at e1
    simp at e1
    rw [← e1.2] at hp
    cases hp
  · rw [List.getElem?_set_ne z] at e1 e2
    exact h.ow k av w e1 e2 p hp
/-- with a new thing of one's own -/
theorem DI.setO (h : DI c U H σ ρ) {i : Nat} {av : AV} {v : V} (r : RepA c.K U H av v) (ndo : (own av v).Nodup) (n : ∀ p ∈ own av v, U p = none ∧ c.H0 p = none ∧ p ∉ owns ρ σ) (hi : noPar c i = true) : DI c U H (σ.set i (some v)) (ρ.set i (some av)) := by
  have hn := noPar_of hi
  refine ⟨h.gr, Paired.setAt (F := RepS c.K U H) (show RepS c.K U H (some av) (some v) from r) i h.rep, owns_set_nd ρ σ i (some av) (some v) h.nd ndo fun p hp => (n p hp).2.2, fun p hp => ?_, par_set (sel_set _ _ _ _ hn) (sel_set _ _ _ _ hn) h.par, h.ko, fun k av' w e1 e2 p hp => ?_, by rw [List.length_set]; exact h.on⟩
  · rcases owns_set_mem ρ σ i (some av) (some v) p hp with q | q
    · exact h.out p q
    · exact ⟨(n p q).1, .inr (n p q).2.1⟩
  · by_cases z : i = k
    · subst z
      rw [List.getElem?_set] at e1 e2
      simp at e1 e2
      rw [← e1.2, ← e2.2] at hp
      exact .inr (n p hp).2.1
    · rw [List.getElem?_set_ne z] at e1 e2
      exact h.ow k av' w e1 e2 p hp
end
abbrev AE := Env → (D → Prop) → (Exn → Prop) → Prop
abbrev AO := Env → (AV → Prop) → (Exn → Prop) → Prop
abbrev AT := Env → (Bool → Prop) → (Exn → Prop) → Prop
abbrev AL := Env → (List D → Prop) → (Exn → Prop) → Prop
inductive Arg where
  | val (d : D) | slot (i : Nat)
abbrev AA := Env → (List Arg → Prop) → (Exn → Prop) → Prop
structure AEnds where
  nx : Env → Prop
  rt : AV → Env → Prop
  bk : Env → Prop
  ct : Env → Prop
  ex : Exn → Env → Prop
abbrev AS := AEnds → Env → Prop
def drS : Option AV → Option V → List Addr
  | some .dr, some (.ref p) => [p]
  | _, _ => []
def drs : Env → L2.St → List Addr
  | a :: ρ, v :: σ => drS a v ++ drs ρ σ
  | _, _ => []
theorem drs_sub : ∀ {ρ : Env} {σ : L2.St}, ∀ p ∈ drs ρ σ, p ∈ owns ρ σ
  | [], _, p, hp => by simp [drs] at hp
  | _ :: _, [], p, hp => by simp [drs] at hp
  | a :: ρ, v :: σ, p, hp => by
    rcases List.mem_append.mp hp with h | h
    · refine List.mem_append_left _ ?_
      unfold drS at h
      split at h
      · exact h
      · cases h
    · exact List.mem_append_right _ (drs_sub p h)
/-- a slot's thing that stands now, or what never changes -/
inductive Within : AV → V → AV → V → Prop
  | here {a : AV} {v : V} : Within a v a v
  | on {ws : List V} {as : List AV} {v : V} {k : Nat} {a b : AV} {w u : V} : as[k]? = some a → ws[k]? = some w → Within a w b u → Within (.on ws as) v b u
  | ob {C dx : Addr} {ns : List Str} {ws : List V} {as : List AV} {v : V} {k : Nat} {a b : AV} {w u : V} : as[k]? = some a → ws[k]? = some w → Within a w b u → Within (.ob C dx ns ws as) v b u
  | ut {ws : List V} {as : List AV} {v : V} {k : Nat} {a b : AV} {w u : V} : as[k]? = some a → ws[k]? = some w → Within a w b u → Within (.ut ws as) v b u
theorem RepAs.at {K : PySem.W.Frag} {U H : Hp} : ∀ {as : List AV} {vs : List V}, RepAs K U H as vs → ∀ (k : Nat) (a : AV) (v : V), as[k]? = some a → vs[k]? = some v → RepA K U H a v
  | [], _, _, k, a, v, e, _ => by simp at e
  | b :: as, _, ⟨w, r, e1, h1, h2⟩, 0, a, v, e, f => by
    subst e1
    cases e
    cases f
    exact h1
  | b :: as, _, ⟨w, r, e1, h1, h2⟩, k + 1, a, v, e, f => by
    subst e1
    exact RepAs.at h2 k a v e f
theorem Within.rep {K : PySem.W.Frag} {U H : Hp} {a b : AV} {v w : V} (h : Within a v b w) : RepA K U H a v → RepA K U H b w := by
  induction h with
  | here => exact id
  | on h1 h2 _ ih => exact fun ⟨p, _, _, k⟩ => ih (RepAs.at k _ _ _ h1 h2)
  | ob h1 h2 _ ih => exact fun ⟨p, _, _, _, k⟩ => ih (RepAs.at k _ _ _ h1 h2)
  | ut h1 h2 _ ih => exact fun ⟨p, _, _, k⟩ => ih (RepAs.at k _ _ _ h1 h2)
theorem ownAs_at : ∀ {as : List AV} {vs : List V} {k : Nat} {a : AV} {v : V}, as[k]? = some a → vs[k]? = some v → ∀ p ∈ own a v, p ∈ ownAs as vs
  | [], _, k, a, v, e, _, p, _ => by simp at e
  | _ :: _, [], k, a, v, _, e, p, _ => by simp at e
  | b :: as, w :: vs, 0, a, v, e, f, p, hp => by
    cases e
    cases f
    exact List.mem_append_left _ hp
  | b :: as, w :: vs, k + 1, a, v, e, f, p, hp => List.mem_append_right _ (ownAs_at (as := as) (vs := vs) e f p hp)
theorem Within.own {K : PySem.W.Frag} {U H : Hp} {a b : AV} {v w : V} (h : Within a v b w) : RepA K U H a v → ∀ p ∈ own b w, p ∈ SW.own a v := by
  induction h with
  | here => exact fun _ p hp => hp
  | on h1 h2 _ ih =>
    rintro ⟨q, rfl, _, k⟩ p hp
    exact List.mem_cons_of_mem _ (ownAs_at h1 h2 p (ih (RepAs.at k _ _ _ h1 h2) p hp))
  | ob h1 h2 _ ih =>
    rintro ⟨q, rfl, _, _, k⟩ p hp
    exact List.mem_cons_of_mem _ (ownAs_at h1 h2 p (ih (RepAs.at k _ _ _ h1 h2) p hp))
  | ut h1 h2 _ ih =>
    rintro ⟨q, rfl, _, k⟩ p hp
    exact ownAs_at h1 h2 p (ih (RepAs.at k _ _ _ h1 h2) p hp)
theorem Within.dr {b : AV} {v w : V} (h : Within .dr v b w) : b = .dr := by cases h; rfl
def Wk (K : PySem.W.Frag) (U : Hp) (σ : L2.St) (ρ : Env) (d : D) (v : V) : Prop := R K U d v ∨ ∃ (i : Nat) (av : AV) (v0 : V) (b : AV), ρ[i]? = some (some av) ∧ σ[i]? = some (some v0) ∧ Within av v0 b v ∧ b.sh = some d
def CR (K : PySem.W.Frag) (U H : Hp) (d : D) (v : V) : Prop := ∃ av : AV, RepA K U H av v ∧ av.sh = some d
section
variable {K : PySem.W.Frag} {c : DC} {U H U' H' : Hp} {σ : L2.St} {ρ : Env} {d : D} {v : V}
theorem CR.of (h : R K U d v) : CR K U H d v := ⟨.fz d, h, rfl⟩
theorem Wk.cr (h : Wk c.K U σ ρ d v) (i : DI c U H σ ρ) : CR c.K U H d v := by
  rcases h with h | ⟨k, av, v0, b, h1, h2, h4, h3⟩
  · exact .of h
  · obtain ⟨w, e1, e2, _⟩ := rep_at i.rep k av h1
    rw [h2] at e1
    have e := Option.some.inj (Option.some.inj e1)
    subst e
    exact ⟨b, h4.rep e2, h3⟩
theorem Wk.mono (e : Same U U') (h : Wk K U σ ρ d v) : Wk K U' σ ρ d v := h.imp (R.mono e d v) id
theorem CR.int {i : Int} (h : CR K U H (.int i) v) : v = .int i := by
  obtain ⟨av, h1, h2⟩ := h
  cases av <;> first | (cases h2; exact h1) | cases h2
theorem CR.bl {b : Bool} (h : CR K U H (.bl b) v) : v = .bl b := by
  obtain ⟨av, h1, h2⟩ := h
  cases av <;> first | (cases h2; exact h1) | cases h2
theorem CR.str {x : Str} (h : CR K U H (.str x) v) : v = .str x := by
  obtain ⟨av, h1, h2⟩ := h
  cases av <;> first | (cases h2; exact h1) | cases h2
theorem CR.non (h : CR K U H .non v) : v = .non := by
  obtain ⟨av, h1, h2⟩ := h
  cases av <;> first | (cases h2; exact h1) | cases h2
theorem CR.ty {n : String} (h : CR K U H (.ty n) v) : v = .ty n := by
  obtain ⟨av, h1, h2⟩ := h
  cases av <;> first | (cases h2; exact h1) | cases h2
theorem CR.adr {a : Addr} (h : CR K U H (.adr a) v) : v = .ref a := by
  obtain ⟨av, h1, h2⟩ := h
  cases av <;> first | (cases h2; exact h1) | cases h2
theorem CR.exn {a C : Addr} {o : Option Addr} {ns : List Str} {ds : List D} (h : CR K U H (.exn a C o ns ds) v) : v = .ref a := by
  obtain ⟨av, h1, h2⟩ := h
  cases av <;> first | (cases h2; exact h1.1) | cases h2
theorem CR.tupR {ds : List D} (h : CR K U H (.tup ds) v) : R K U (.tup ds) v := by
  obtain ⟨av, h1, h2⟩ := h
  cases av <;> cases h2
  · exact h1
  · obtain ⟨p, e1, e2, e3⟩ := h1
    exact ⟨p, _, e1, e2, seens_r e3⟩
theorem CR.tup {ds : List D} (h : CR K U H (.tup ds) v) (s : Same U H) : ∃ a xs, v = .ref a ∧ SqT K H a xs ∧ Rs K U ds xs := by
  obtain ⟨a, xs, e1, e2, e3⟩ := h.tupR
  exact ⟨a, xs, e1, Same.tup s e2, e3⟩
theorem CR.lst {ds : List D} (h : CR K U H (.lst ds) v) (s : Same U H) : ∃ a xs, v = .ref a ∧ H a = some (.lst xs) ∧ Rs K U ds xs := by
  obtain ⟨av, h1, h2⟩ := h
  cases av <;> cases h2
  · obtain ⟨a, xs, e1, e2, e3⟩ := h1
    exact ⟨a, xs, e1, s _ _ e2, e3⟩
  · obtain ⟨a, xs, e1, e2, e3⟩ := h1
    exact ⟨a, xs, e1, e2, e3⟩
  · obtain ⟨a, e1, e2, e3⟩ := h1
    exact ⟨a, _, e1, e2, seens_r e3⟩
theorem CR.dK {ks : List Key} {ds : List D} (h : CR K U H (.dK ks ds) v) (s : Same U H) : ∃ a xs, v = .ref a ∧ H a = some (.dK (ks.zip xs)) ∧ ks.length = xs.length ∧ Rs K U ds xs := by
  obtain ⟨av, h1, h2⟩ := h
  cases av <;> cases h2
  · obtain ⟨a, xs, e1, e2, e3⟩ := h1
    exact ⟨a, xs, e1, s _ _ e2, e3⟩
  · obtain ⟨a, xs, e1, e2, e3⟩ := h1
    exact ⟨a, xs, e1, e2, e3⟩
theorem CR.dT {ks : List (List Key)} {ds : List D} (h : CR K U H (.dT ks ds) v) (s : Same U H) : ∃ a xs, v = .ref a ∧ H a = some (.dT (ks.zip xs)) ∧ ks.length = xs.length ∧ Rs K U ds xs := by
  obtain ⟨av, h1, h2⟩ := h
  cases av <;> cases h2
  · obtain ⟨a, xs, e1, e2, e3⟩ := h1
    exact ⟨a, xs, e1, s _ _ e2, e3⟩
  · obtain ⟨a, xs, e1, e2, e3⟩ := h1
    exact ⟨a, xs, e1, e2, e3⟩
theorem CR.obj {C : Addr} {ns : List Str} {ds : List D} (h : CR K U H (.obj C ns ds) v) (s : Same U H) : ∃ a dx xs, v = .ref a ∧ H a = some (.ins C dx (ns.zip xs)) ∧ ns.length = xs.length ∧ Rs K U ds xs := by
  obtain ⟨av, h1, h2⟩ := h
  cases av <;> cases h2
  · obtain ⟨a, dx, xs, e1, e2, e3⟩ := h1
    exact ⟨a, dx, xs, e1, s _ _ e2, e3⟩
  · obtain ⟨a, e1, e2, e3, e4⟩ := h1
    exact ⟨a, _, _, e1, e2, e3, seens_r e4⟩
end
/-- a new thing of one's own -/
structure Fresh (U' H : Hp) (av : AV) (v : V) : Prop where
  nd : (own av v).Nodup
  out : ∀ p ∈ own av v, U' p = none ∧ H p = none
theorem Fresh.back {U' H H1 : Hp} {av : AV} {v : V} (f : Fresh U' H1 av v) (h : ∀ p, H1 p = none → H p = none) : Fresh U' H av v := ⟨f.nd, fun p hp => ⟨(f.out p hp).1, h p (f.out p hp).2⟩⟩
theorem Fresh.one {U' H : Hp} {av : AV} {p : Addr} (e : own av (.ref p) = [p]) (h1 : U' p = none) (h2 : H p = none) : Fresh U' H av (.ref p) := ⟨by rw [e]; simp, fun q hq => by rw [e] at hq; rw [List.mem_singleton.mp hq]; exact ⟨h1, h2⟩⟩
theorem Fresh.fz {U' H : Hp} {d : D} {v : V} : Fresh U' H (.fz d) v := ⟨by cases v <;> exact List.nodup_nil, fun p hp => by cases v <;> cases hp⟩
def SimE (c : DC) (t : TE) (e : AE) : Prop := ∀ (U H : Hp) (σ : L2.St) (ρ : Env) (Q : D → Prop) (q : VK), DI c U H σ ρ → e ρ Q (c.x ρ) →
  (∀ U' H' d v, Gr (drs ρ σ) U H U' H' → DI c U' H' σ ρ → R c.K U' d v → Q d → q v H') → t σ H q
def SimW (c : DC) (t : TE) (e : AE) : Prop := ∀ (U H : Hp) (σ : L2.St) (ρ : Env) (Q : D → Prop) (q : VK), DI c U H σ ρ → e ρ Q (c.x ρ) →
  (∀ U' H' d v, Gr (drs ρ σ) U H U' H' → DI c U' H' σ ρ → Wk c.K U' σ ρ d v → Q d → q v H') → t σ H q
def SimO (c : DC) (t : TE) (e : AO) : Prop := ∀ (U H : Hp) (σ : L2.St) (ρ : Env) (Q : AV → Prop) (q : VK), DI c U H σ ρ → e ρ Q (c.x ρ) →
  (∀ U' H' av v, Gr (drs ρ σ) U H U' H' → DI c U' H' σ ρ → RepA c.K U' H' av v → Fresh U' H av v → Q av → q v H') → t σ H q
def SimT (c : DC) (t : TT) (e : AT) : Prop := ∀ (U H : Hp) (σ : L2.St) (ρ : Env) (Q : Bool → Prop) (q : Bool → Hp → Prop), DI c U H σ ρ → e ρ Q (c.x ρ) →
  (∀ U' H' b, Gr (drs ρ σ) U H U' H' → DI c U' H' σ ρ → Q b → q b H') → t σ H q
def SimL (c : DC) (t : TA) (e : AL) : Prop := ∀ (U H : Hp) (σ : L2.St) (ρ : Env) (Q : List D → Prop) (q : List V → Hp → Prop), DI c U H σ ρ → e ρ Q (c.x ρ) →
  (∀ U' H' ds vs, Gr (drs ρ σ) U H U' H' → DI c U' H' σ ρ → Rs c.K U' ds vs → Q ds → q vs H') → t σ H q
/-- arguments that are read alone -/
def SimLW (c : DC) (t : TA) (e : AL) : Prop := ∀ (U H : Hp) (σ : L2.St) (ρ : Env) (Q : List D → Prop) (q : List V → Hp → Prop), DI c U H σ ρ → e ρ Q (c.x ρ) →
  (∀ U' H' ds vs, Gr (drs ρ σ) U H U' H' → DI c U' H' σ ρ → Paired (Wk c.K U' σ ρ) ds vs → Q ds → q vs H') → t σ H q
def ArgR (K : PySem.W.Frag) (U : Hp) (σ : L2.St) : Arg → V → Prop
  | .val d, v => R K U d v
  | .slot i, v => σ[i]? = some (some v)
def SimA (c : DC) (t : TA) (e : AA) : Prop := ∀ (U H : Hp) (σ : L2.St) (ρ : Env) (Q : List Arg → Prop) (q : List V → Hp → Prop), DI c U H σ ρ → e ρ Q (c.x ρ) →
  (∀ U' H' as vs, Gr (drs ρ σ) U H U' H' → DI c U' H' σ ρ → Paired (ArgR c.K U' σ) as vs → Q as → q vs H') → t σ H q
structure Post (c : DC) (V : Hp) (N : AEnds) (n : L2.Ends) : Prop where
  nx : ∀ U H σ ρ, Same V U → DI c U H σ ρ → N.nx ρ → n.nx σ H
  rt : ∀ U H σ ρ av v, DI c U H σ ρ → RepA c.K U H av v → (own av v).Nodup → (∀ p ∈ own av v, U p = none ∧ c.H0 p = none ∧ p ∉ owns ρ σ) → N.rt av ρ → n.rt v H
  bk : ∀ U H σ ρ, Same V U → DI c U H σ ρ → N.bk ρ → n.bk σ H
  ct : ∀ U H σ ρ, Same V U → DI c U H σ ρ → N.ct ρ → n.ct σ H
theorem Post.mono {c : DC} {V V' : Hp} {N : AEnds} {n : L2.Ends} (s : Same V V') (P : Post c V N n) : Post c V' N n :=
  ⟨fun U H σ ρ e => P.nx U H σ ρ (s.trans e), P.rt, fun U H σ ρ e => P.bk U H σ ρ (s.trans e), fun U H σ ρ e => P.ct U H σ ρ (s.trans e)⟩
def SimS (c : DC) (t : TS) (a : AS) : Prop := ∀ (U H : Hp) (σ : L2.St) (ρ : Env) (N : AEnds) (n : L2.Ends), N.ex = (fun x ρ => c.x ρ x) → DI c U H σ ρ → a N ρ → Post c U N n → t n σ H
/-- a target: slots are written, the heap stays -/
abbrev AG := D → Env → (Env → Prop) → Prop
structure Put (js : List Nat) (σ σ' : L2.St) (ρ ρ' : Env) : Prop where
  len : σ'.length = σ.length
  at' : ∀ k, k ∉ js → σ'[k]? = σ[k]?
  dr : ∀ p ∈ drs ρ' σ', p ∈ drs ρ σ
  rat : ∀ k, k ∉ js → ρ'[k]? = ρ[k]?
  ow : ∀ p ∈ owns ρ' σ', p ∈ owns ρ σ
theorem sel_at {α : Type} : ∀ (ks : List Bool) (r r' : List α), (∀ k, ks.getD k false = true → r'[k]? = r[k]?) → selM ks r' = selM ks r
  | [], r, r', _ => by cases r <;> cases r' <;> rfl
  | true :: ks, [], [], _ => rfl
  | true :: ks, [], b :: r', h => by have := h 0 rfl; cases this
  | true :: ks, a :: r, [], h => by have := h 0 rfl; cases this
  | true :: ks, a :: r, b :: r', h => by
    have e := Option.some.inj (h 0 rfl)
    subst e
    exact congrArg (_ :: ·) (sel_at ks r r' fun k hk => h (k + 1) hk)
  | false :: ks, [], [], _ => rfl
  | false :: ks, [], b :: r', h => by
    have := sel_at ks [] r' fun k hk => by have := h (k + 1) hk; simpa using this
    show selM ks r' = []
    rw [this]
    cases ks with
    | nil => rfl
    | cons k ks => cases k <;> rfl
  | false :: ks, a :: r, [], h => by
    have := sel_at ks r [] fun k hk => by have := h (k + 1) hk; simpa using this
    show [] = selM ks r
    rw [← this]
    cases ks with
    | nil => rfl
    | cons k ks => cases k <;> rfl
  | false :: ks, a :: r, b :: r', h => sel_at ks r r' fun k hk => h (k + 1) hk
theorem Put.ex {c : DC} {js vs : List Nat} {σ σ' : L2.St} {ρ ρ' : Env} (p : Put js σ σ' ρ ρ') (hv : (vs.all fun i => noPar c i) = true) (h : ∀ j ∈ js, j ∈ vs) : c.x ρ' = c.x ρ := by
  unfold DC.x
  rw [sel_at c.ks ρ ρ' fun k hk => p.rat k fun z => by
    have := noPar_of (List.all_eq_true.mp hv k (h k z))
    rw [this] at hk
    cases hk]
def SimG (c : DC) (js : List Nat) (g : TG) (a : AG) : Prop := ∀ (U H : Hp) (σ : L2.St) (ρ : Env) (d : D) (v : V) (Q : Env → Prop) (q : L2.St → Hp → Prop), DI c U H σ ρ → R c.K U d v → a d ρ Q →
  (∀ σ' ρ', DI c U H σ' ρ' → Put js σ σ' ρ ρ' → Q ρ' → q σ' H) → g v σ H q
/-- what is walked: the items -/
def Walks (K : PySem.W.Frag) (U : Hp) (J : It) (ds : List D) (G : Hp → Prop) : Prop := ∃ Y, Walk J ds.length G Y ∧ ∀ (i : Nat) (H : Hp) (x : V) (H' : Hp) (d : D) (U2 : Hp), Same U U2 → Same U2 H → Y i H x H' → ds[i]? = some d → ∃ U3, Gr [] U2 H U3 H' ∧ R K U3 d x
def SimI (c : DC) (wi : TI) (a : AL) : Prop := ∀ (U H : Hp) (σ : L2.St) (ρ : Env) (Q : List D → Prop) (q : It → Hp → Prop), DI c U H σ ρ → a ρ Q (c.x ρ) →
  (∀ U' H' J ds, Gr (drs ρ σ) U H U' H' → DI c U' H' σ ρ → Walks c.K U' J ds (fun H'' => Same U' H'') → Q ds → q J H') → wi σ H q
def SimIW (c : DC) (wi : TI) (a : AL) : Prop := ∀ (U H : Hp) (σ : L2.St) (ρ : Env) (Q : List D → Prop) (q : It → Hp → Prop), DI c U H σ ρ → a ρ Q (c.x ρ) →
  (∀ U' H' J ds, Gr (drs ρ σ) U H U' H' → DI c U' H' σ ρ → Walks c.K U' J ds (fun H'' => ∃ U'', Gr (drs ρ σ) U' H' U'' H'') → Q ds → q J H') → wi σ H q
end SW
namespace SW
open PySem PySem.Spec PyProof.Rows L2
variable [QN]
section
variable {c : DC} {U H U' H' : Hp} {σ : L2.St} {ρ : Env} {t u ta tb tc : TE} {e a b : AE} {i j : Nat} {d : D} {v : V}
theorem SimE.w (h : SimE c t e) : SimW c t e := fun U H σ ρ Q q I he k => h U H σ ρ Q q I he fun U' H' d v g I' r z => k U' H' d v g I' (.inl r) z
def aVar (i : Nat) : AE := fun ρ Q _ => match ρ[i]? with
  | some (some (.fz d)) => Q d
  | _ => False
theorem sim_var : SimE c (tVar i) (aVar i) := fun U H σ ρ Q q I h k => by
  unfold aVar at h
  split at h
  · rename_i d e
    obtain ⟨v, e1, r, _⟩ := rep_at I.rep i _ e
    exact ⟨v, e1, k U H d v (Gr.refl I.vh) I r h⟩
  · exact h.elim
def aVarW (i : Nat) : AE := fun ρ Q _ => match ρ[i]? with
  | some (some (.fz d)) => Q d
  | some (some (.ol ds)) => Q (.lst ds)
  | some (some (.ok ks ds)) => Q (.dK ks ds)
  | some (some (.ot ks ds)) => Q (.dT ks ds)
  | some (some (.on ws as)) => Q (.lst (seens as ws))
  | some (some (.ut ws as)) => Q (.tup (seens as ws))
  | some (some (.ob C _ ns ws as)) => Q (.obj C ns (seens as ws))
  | _ => False
theorem sim_varW : SimW c (tVar i) (aVarW i) := fun U H σ ρ Q q I h k => by
  have go : ∀ (av : AV) (d : D), ρ[i]? = some (some av) → av.sh = some d → Q d → tVar i σ H q := fun av d e f z => by
    obtain ⟨v, e1, r, _⟩ := rep_at I.rep i _ e
    exact ⟨v, e1, k U H d v (Gr.refl I.vh) I (.inr ⟨i, av, v, av, e, e1, .here, f⟩) z⟩
  unfold aVarW at h
  split at h
  · exact go _ _ (by assumption) rfl h
  · exact go _ _ (by assumption) rfl h
  · exact go _ _ (by assumption) rfl h
  · exact go _ _ (by assumption) rfl h
  · exact go _ _ (by assumption) rfl h
  · exact go _ _ (by assumption) rfl h
  · exact go _ _ (by assumption) rfl h
  · exact h.elim
def aC (d : D) : AE := fun _ Q _ => Q d
theorem sim_c (h : ∀ U, R c.K U d v) : SimE c (tC v) (aC d) := fun U H σ ρ Q q I z k => k U H d v (Gr.refl I.vh) I (h U) z
theorem sim_int {n : Int} : SimE c (tC (.int n)) (aC (.int n)) := sim_c fun _ => rfl
theorem sim_bl {n : Bool} : SimE c (tC (.bl n)) (aC (.bl n)) := sim_c fun _ => rfl
theorem sim_str {n : Str} : SimE c (tC (.str n)) (aC (.str n)) := sim_c fun _ => rfl
theorem sim_ty {n : String} : SimE c (tC (.ty n)) (aC (.ty n)) := sim_c fun _ => rfl
/-- an operator on what is read -/
def OpD (K : PySem.W.Frag) (r : R2) (f : D → D → (D → Prop) → Prop) : Prop := ∀ (U H : Hp) (v w : V) (d e : D) (Q : D → Prop) (q : VK), Same U H → CR K U H d v → CR K U H e w → f d e Q →
  (∀ U' H' z u, Gr [] U H U' H' → R K U' z u → Q z → q u H') → r v w H q
def UnD (K : PySem.W.Frag) (r : V → Hp → VK → Prop) (f : D → (D → Prop) → Prop) : Prop := ∀ (U H : Hp) (v : V) (d : D) (Q : D → Prop) (q : VK), Same U H → CR K U H d v → f d Q →
  (∀ U' H' z u, Gr [] U H U' H' → R K U' z u → Q z → q u H') → r v H q
def BuD (K : PySem.W.Frag) (r : List V → Hp → VK → Prop) (f : List D → (D → Prop) → Prop) : Prop := ∀ (U H : Hp) (vs : List V) (ds : List D) (Q : D → Prop) (q : VK), Same U H → Paired (CR K U H) ds vs → f ds Q →
  (∀ U' H' z u, Gr [] U H U' H' → R K U' z u → Q z → q u H') → r vs H q
/-- the same with a new thing of one's own -/
def OpO (K : PySem.W.Frag) (r : R2) (f : D → D → (AV → Prop) → Prop) : Prop := ∀ (U H : Hp) (v w : V) (d e : D) (Q : AV → Prop) (q : VK), Same U H → CR K U H d v → CR K U H e w → f d e Q →
  (∀ U' H' av u, Gr [] U H U' H' → RepA K U' H' av u → Fresh U' H av u → Q av → q u H') → r v w H q
def BuO (K : PySem.W.Frag) (r : List V → Hp → VK → Prop) (f : List D → (AV → Prop) → Prop) : Prop := ∀ (U H : Hp) (vs : List V) (ds : List D) (Q : AV → Prop) (q : VK), Same U H → Paired (CR K U H) ds vs → f ds Q →
  (∀ U' H' av u, Gr [] U H U' H' → RepA K U' H' av u → Fresh U' H av u → Q av → q u H') → r vs H q
def aOp (f : D → D → (D → Prop) → Prop) (a b : AE) : AE := fun ρ Q X => a ρ (fun d => b ρ (fun e => f d e Q) X) X
def aOpO (f : D → D → (AV → Prop) → Prop) (a b : AE) : AO := fun ρ Q X => a ρ (fun d => b ρ (fun e => f d e Q) X) X
def aUn (f : D → (D → Prop) → Prop) (a : AE) : AE := fun ρ Q X => a ρ (fun d => f d Q) X
theorem sim_op {r : R2} {f : D → D → (D → Prop) → Prop} (h : OpD c.K r f) (ha : SimW c ta a) (hb : SimW c tb b) : SimE c (tOp r ta tb) (aOp f a b) := fun U H σ ρ Q q I z k =>
  ha U H σ ρ _ _ I z fun U1 H1 d v g1 I1 w1 z1 => hb U1 H1 σ ρ _ _ I1 z1 fun U2 H2 e w g2 I2 w2 z2 =>
    h U2 H2 v w d e Q q I2.vh ((w1.mono g2.vv).cr I2) (w2.cr I2) z2 fun U3 H3 y u' g3 r3 z3 => k U3 H3 y u' ((g1.trans g2).trans g3.any) (I2.grow g3) r3 z3
theorem sim_opO {r : R2} {f : D → D → (AV → Prop) → Prop} (h : OpO c.K r f) (ha : SimW c ta a) (hb : SimW c tb b) : SimO c (tOp r ta tb) (aOpO f a b) := fun U H σ ρ Q q I z k =>
  ha U H σ ρ _ _ I z fun U1 H1 d v g1 I1 w1 z1 => hb U1 H1 σ ρ _ _ I1 z1 fun U2 H2 e w g2 I2 w2 z2 =>
    h U2 H2 v w d e Q q I2.vh ((w1.mono g2.vv).cr I2) (w2.cr I2) z2 fun U3 H3 y u' g3 r3 n3 z3 => k U3 H3 y u' ((g1.trans g2).trans g3.any) (I2.grow g3) r3 (n3.back fun _ h => (g1.trans g2).fresh h) z3
theorem sim_un {r : V → Hp → VK → Prop} {f : D → (D → Prop) → Prop} (h : UnD c.K r f) (ha : SimW c ta a) : SimE c (tUn r ta) (aUn f a) := fun U H σ ρ Q q I z k =>
  ha U H σ ρ _ _ I z fun U1 H1 d v g1 I1 w1 z1 => h U1 H1 v d Q q I1.vh (w1.cr I1) z1 fun U3 H3 y u' g3 r3 z3 => k U3 H3 y u' (g1.trans g3.any) (I1.grow g3) r3 z3
def aNil : AL := fun _ Q _ => Q []
def aCons (a : AE) (r : AL) : AL := fun ρ Q X => a ρ (fun d => r ρ (fun ds => Q (d :: ds)) X) X
theorem sim_nil : SimL c tNil aNil := fun U H σ ρ Q q I z k => k U H [] [] (Gr.refl I.vh) I rfl z
theorem sim_cons {tr : TA} {r : AL} (ha : SimE c ta a) (hr : SimL c tr r) : SimL c (tCons ta tr) (aCons a r) := fun U H σ ρ Q q I z k =>
  ha U H σ ρ _ _ I z fun U1 H1 d v g1 I1 r1 z1 => hr U1 H1 σ ρ _ _ I1 z1 fun U2 H2 ds vs g2 I2 r2 z2 => k U2 H2 (d :: ds) (v :: vs) (g1.trans g2) I2 ⟨v, vs, rfl, R.mono g2.vv d v r1, r2⟩ z2
theorem sim_nilW : SimLW c tNil aNil := fun U H σ ρ Q q I z k => k U H [] [] (Gr.refl I.vh) I .nil z
theorem sim_consW {tr : TA} {r : AL} (ha : SimW c ta a) (hr : SimLW c tr r) : SimLW c (tCons ta tr) (aCons a r) := fun U H σ ρ Q q I z k =>
  ha U H σ ρ _ _ I z fun U1 H1 d v g1 I1 r1 z1 => hr U1 H1 σ ρ _ _ I1 z1 fun U2 H2 ds vs g2 I2 r2 z2 => k U2 H2 (d :: ds) (v :: vs) (g1.trans g2) I2 (.cons (r1.mono g2.vv) r2) z2
def aArg (a : AE) (r : AA) : AA := fun ρ Q X => a ρ (fun d => r ρ (fun ds => Q (.val d :: ds)) X) X
def aSlot (i : Nat) (r : AA) : AA := fun ρ Q X => match ρ[i]? with
  | some (some .dr) => r ρ (fun ds => Q (.slot i :: ds)) X
  | _ => False
def aArgs : AA := fun _ Q _ => Q []
theorem sim_args : SimA c tNil aArgs := fun U H σ ρ Q q I z k => k U H [] [] (Gr.refl I.vh) I .nil z
theorem sim_arg {tr : TA} {r : AA} (ha : SimE c ta a) (hr : SimA c tr r) : SimA c (tCons ta tr) (aArg a r) := fun U H σ ρ Q q I z k =>
  ha U H σ ρ _ _ I z fun U1 H1 d v g1 I1 r1 z1 => hr U1 H1 σ ρ _ _ I1 z1 fun U2 H2 ds vs g2 I2 r2 z2 => k U2 H2 (.val d :: ds) (v :: vs) (g1.trans g2) I2 (.cons (R.mono g2.vv d v r1) r2) z2
theorem sim_slot {tr : TA} {r : AA} (hr : SimA c tr r) : SimA c (tCons (tVar i) tr) (aSlot i r) := fun U H σ ρ Q q I z k => by
  unfold aSlot at z
  split at z
  · rename_i e0
    obtain ⟨v, e, _⟩ := rep_at I.rep i _ e0
    exact ⟨v, e, hr U H σ ρ _ _ I z fun U2 H2 ds vs g2 I2 r2 z2 => k U2 H2 (.slot i :: ds) (v :: vs) g2 I2 (.cons e r2) z2⟩
  · exact z.elim
theorem R.tup {K : PySem.W.Frag} {p : Addr} {xs : List V} {ds : List D} (h : U p = some (.tup xs)) (r : Rs K U ds xs) : R K U (.tup ds) (.ref p) := ⟨p, xs, rfl, SqT.of h, r⟩
theorem R.lst {K : PySem.W.Frag} {p : Addr} {xs : List V} {ds : List D} (h : U p = some (.lst xs)) (r : Rs K U ds xs) : R K U (.lst ds) (.ref p) := ⟨p, xs, rfl, h, r⟩
theorem le_size {n : Nat} (h : n ≤ 1000000) : n ≤ sizeLine := Nat.le_trans h (by decide)
theorem lt_size {n : Nat} (h : n < 1000000) : n < sizeLine := Nat.lt_of_lt_of_le h (by decide)
def aTup (r : AL) : AE := fun ρ Q X => r ρ (fun ds => ds.length ≤ 1000000 ∧ Q (.tup ds)) X
theorem sim_tup {tr : TA} {r : AL} (hr : SimL c tr r) : SimE c (tTup tr) (aTup r) := fun U H σ ρ Q q I z k =>
  hr U H σ ρ _ _ I z fun U1 H1 ds vs g1 I1 r1 z1 => ⟨le_size (by rw [← r1.len]; exact z1.1), fun p np => by
    have g2 : Gr [] U1 H1 (upd U1 p (.tup vs)) (upd H1 p (.tup vs)) := (Gr.refl I1.vh).new np
    exact k _ _ (.tup ds) (.ref p) (g1.trans g2.any) (I1.grow g2) (R.tup upd_same (Rs.mono g2.vv _ _ r1)) z1.2⟩
def aLst (r : AL) : AO := fun ρ Q X => r ρ (fun ds => ds.length ≤ 1000000 ∧ Q (.ol ds)) X
theorem sim_lst {tr : TA} {r : AL} (hr : SimL c tr r) : SimO c (tLst tr) (aLst r) := fun U H σ ρ Q q I z k =>
  hr U H σ ρ _ _ I z fun U1 H1 ds vs g1 I1 r1 z1 => ⟨le_size (by rw [← r1.len]; exact z1.1), fun p np => by
    have g2 : Gr [] U1 H1 U1 (upd H1 p (.lst vs)) := (Gr.refl I1.vh).newM np
    exact k _ _ (.ol ds) (.ref p) (g1.trans g2.any) (I1.grow g2) ⟨p, vs, rfl, upd_same, r1⟩ (.one rfl (I1.vh.free np) (g1.fresh np)) z1.2⟩
def sealU (U H : Hp) (as : List Addr) : Hp := fun a => if a ∈ as then H a else U a
theorem seal_in {as : List Addr} {p : Addr} (h : p ∈ as) : sealU U H as p = H p := if_pos h
theorem seal_out {as : List Addr} {p : Addr} (h : p ∉ as) : sealU U H as p = U p := if_neg h
theorem seal_same {as : List Addr} (h : ∀ p ∈ as, U p = none) : Same U (sealU U H as) := fun a o e => by
  rw [seal_out fun z => by rw [h a z] at e; cases e]
  exact e
theorem seal_vh {as : List Addr} (s : Same U H) : Same (sealU U H as) H := fun a o e => by
  by_cases z : a ∈ as
  · rw [seal_in z] at e
    exact e
  · rw [seal_out z] at e
    exact s a o e
theorem seal_nt {as : List Addr} (n : NT U) (pl : ∀ p ∈ as, Pl H p) : NT (sealU U H as) := fun a ps e => by
  by_cases z : a ∈ as
  · rw [seal_in z] at e
    obtain ⟨o, e1, e2⟩ := pl a z
    rw [e1] at e
    exact ntb e2 ps (Option.some.inj e)
  · rw [seal_out z] at e
    exact n a ps e
theorem Gr.sealL {M : List Addr} {U0 H0 : Hp} {as : List Addr} (g : Gr M U0 H0 U H) (h : ∀ p ∈ as, U p = none ∧ H0 p = none) (pl : ∀ p ∈ as, Pl H p) : Gr M U0 H0 (sealU U H as) H :=
  ⟨g.vv.trans (seal_same fun p hp => (h p hp).1), seal_vh g.vh, g.hh, g.dom, fun a e k => by
    rw [seal_out fun z => k (h a z).2]
    exact g.fr a e k, g.tb, fun n => seal_nt (g.nt n) pl⟩
theorem DI.sealL {as : List Addr} (I : DI c U H σ ρ) (h : ∀ p ∈ as, U p = none ∧ c.H0 p = none ∧ p ∉ owns ρ σ) (pl : ∀ p ∈ as, Pl H p) : DI c (sealU U H as) H σ ρ := by
  have out : ∀ q ∈ owns ρ σ, sealU U H as q = none := fun q hq => by
    rw [seal_out fun z => (h q z).2.2 hq]
    exact (I.out q hq).1
  exact ⟨I.gr.sealL (fun p hp => ⟨(h p hp).1, (h p hp).2.1⟩) pl, reps_keep (seal_same fun p hp => (h p hp).1) (fun q hq => ⟨rfl, out q hq⟩) I.rep, I.nd, fun q hq => ⟨out q hq, (I.out q hq).2⟩, I.par, I.ko, I.ow, I.on⟩
mutual
theorem RepA.frozen {K : PySem.W.Frag} {as : List Addr} (n : ∀ p ∈ as, U p = none) : ∀ (av : AV) (v : V) (d : D), RepA K U H av v → av.frz = some d → (∀ p ∈ own av v, p ∈ as) → R K (sealU U H as) d v
  | .fz d', v, d, h, e, _ => by
    cases e
    exact R.mono (seal_same n) d' v h
  | .ol ds, _, d, ⟨p, xs, e1, h, r⟩, e, k => by
    cases e
    subst e1
    exact ⟨p, xs, rfl, by rw [seal_in (k p (List.mem_singleton.mpr rfl))]; exact h, Rs.mono (seal_same n) _ _ r⟩
  | .ok ks ds, _, d, ⟨p, xs, e1, h, l, r⟩, e, k => by
    cases e
    subst e1
    exact ⟨p, xs, rfl, by rw [seal_in (k p (List.mem_singleton.mpr rfl))]; exact h, l, Rs.mono (seal_same n) _ _ r⟩
  | .ot ks ds, _, d, ⟨p, xs, e1, h, l, r⟩, e, k => by
    cases e
    subst e1
    exact ⟨p, xs, rfl, by rw [seal_in (k p (List.mem_singleton.mpr rfl))]; exact h, l, Rs.mono (seal_same n) _ _ r⟩
  | .dr, _, d, _, e, _ => by cases e
  | .on ws bs, _, d, ⟨p, e1, h, r⟩, e, k => by
    subst e1
    unfold AV.frz at e
    cases eb : frzs bs with
    | none => rw [eb] at e; cases e
    | some ds =>
      rw [eb] at e
      cases e
      exact ⟨p, ws, rfl, by rw [seal_in (k p List.mem_cons_self)]; exact h, RepAs.frozen n bs ws ds r eb fun q hq => k q (List.mem_cons_of_mem _ hq)⟩
  | .ob C dx ns ws bs, _, d, ⟨p, e1, h, l, r⟩, e, k => by
    subst e1
    unfold AV.frz at e
    cases eb : frzs bs with
    | none => rw [eb] at e; cases e
    | some ds =>
      rw [eb] at e
      cases e
      exact ⟨p, dx, ws, rfl, by rw [seal_in (k p List.mem_cons_self)]; exact h, l, RepAs.frozen n bs ws ds r eb fun q hq => k q (List.mem_cons_of_mem _ hq)⟩
  | .ut ws bs, _, d, ⟨p, e1, h, r⟩, e, k => by
    subst e1
    unfold AV.frz at e
    cases eb : frzs bs with
    | none => rw [eb] at e; cases e
    | some ds =>
      rw [eb] at e
      cases e
      exact ⟨p, ws, rfl, Same.tup (seal_same n) h, RepAs.frozen n bs ws ds r eb k⟩
  | .un, _, d, _, e, _ => by cases e
theorem RepAs.frozen {K : PySem.W.Frag} {as : List Addr} (n : ∀ p ∈ as, U p = none) : ∀ (bs : List AV) (vs : List V) (ds : List D), RepAs K U H bs vs → frzs bs = some ds → (∀ p ∈ ownAs bs vs, p ∈ as) → Rs K (sealU U H as) ds vs
  | [], vs, ds, h, e, _ => by
    cases e
    exact h
  | b :: bs, _, ds, ⟨v, r, e1, h1, h2⟩, e, k => by
    subst e1
    unfold frzs at e
    cases ea : b.frz with
    | none => rw [ea] at e; cases e
    | some d =>
      rw [ea] at e
      cases eb : frzs bs with
      | none => rw [eb] at e; cases e
      | some es =>
        rw [eb] at e
        cases e
        exact ⟨v, r, rfl, RepA.frozen n b v d h1 ea fun q hq => k q (List.mem_append_left _ hq), RepAs.frozen n bs r es h2 eb fun q hq => k q (List.mem_append_right _ hq)⟩
end
theorem freeze {M : List Addr} {av : AV} {d : D} {V H0' : Hp} (I0 : DI c V H0' σ ρ) (g : Gr M V H0' U H) (I : DI c U H σ ρ) (r : RepA c.K U H av v) (n : Fresh U H0' av v) (f : av.frz = some d) :
    ∃ U', Gr M V H0' U' H ∧ DI c U' H σ ρ ∧ R c.K U' d v ∧ Same U U' :=
  ⟨sealU U H (own av v), g.sealL n.out (own_pl av v r), I.sealL (fun p hp => ⟨(n.out p hp).1, I0.gr.fresh (n.out p hp).2, fun z => I0.ex p z (n.out p hp).2⟩) (own_pl av v r), RepA.frozen (fun p hp => (n.out p hp).1) av v d r f fun _ h => h, seal_same fun p hp => (n.out p hp).1⟩
def frzQ (Q : D → Prop) : AV → Prop
  | .fz d => Q d
  | .ol ds => Q (.lst ds)
  | .ok ks ds => Q (.dK ks ds)
  | .ot ks ds => Q (.dT ks ds)
  | .dr => False
  | .on ws as => ∃ ds, frzs as = some ds ∧ Q (.lst ds)
  | .ob C _ ns _ as => ∃ ds, frzs as = some ds ∧ Q (.obj C ns ds)
  | .ut _ as => ∃ ds, frzs as = some ds ∧ Q (.tup ds)
  | .un => False
theorem frzQ_some {Q : D → Prop} {av : AV} (h : frzQ Q av) : ∃ d, av.frz = some d ∧ Q d := by
  cases av with
  | on ws as =>
    obtain ⟨ds, e, q⟩ := h
    exact ⟨.lst ds, by unfold AV.frz; rw [e]; rfl, q⟩
  | ob C dx ns ws as =>
    obtain ⟨ds, e, q⟩ := h
    exact ⟨.obj C ns ds, by unfold AV.frz; rw [e]; rfl, q⟩
  | ut ws as =>
    obtain ⟨ds, e, q⟩ := h
    exact ⟨.tup ds, by unfold AV.frz; rw [e]; rfl, q⟩
  | _ => first | exact ⟨_, rfl, h⟩ | exact h.elim
def aFz (e : AO) : AE := fun ρ Q X => e ρ (frzQ Q) X
theorem sim_fz {e : AO} (h : SimO c t e) : SimE c t (aFz e) := fun U H σ ρ Q q I z k =>
  h U H σ ρ _ _ I z fun U1 H1 av v g1 I1 r1 n1 z1 => by
    obtain ⟨d, f, z2⟩ := frzQ_some z1
    obtain ⟨U2, g2, I2, r2, _⟩ := freeze I g1 I1 r1 n1 f
    exact k U2 H1 d v g2 I2 r2 z2
def aUp (e : AE) : AO := fun ρ Q X => e ρ (fun d => Q (.fz d)) X
def blQ (Q : Bool → Prop) : D → Prop
  | .bl b => Q b
  | _ => False
theorem blQ_of {Q : Bool → Prop} {d : D} (h : blQ Q d) : ∃ b, d = .bl b ∧ Q b := by
  cases d <;> first | exact ⟨_, rfl, h⟩ | exact h.elim
def aTest (e : AE) : AT := fun ρ Q X => e ρ (blQ Q) X
theorem sim_test (h : SimW c t e) : SimT c (tTest t) (aTest e) := fun U H σ ρ Q q I z k =>
  h U H σ ρ _ _ I z fun U1 H1 d v g1 I1 r1 z1 => by
    obtain ⟨b, rfl, z2⟩ := blQ_of z1
    exact ⟨b, (r1.cr I1).bl, k U1 H1 b g1 I1 z2⟩
def aNot (e : AT) : AT := fun ρ Q X => e ρ (fun b => Q (!b)) X
def aAnd (a b : AT) : AT := fun ρ Q X => a ρ (fun x => cond x (b ρ Q X) (Q false)) X
def aOr (a b : AT) : AT := fun ρ Q X => a ρ (fun x => cond x (Q true) (b ρ Q X)) X
theorem sim_not {t : TT} {e : AT} (h : SimT c t e) : SimT c (tNot t) (aNot e) := fun U H σ ρ Q q I z k => h U H σ ρ _ _ I z fun U1 H1 b g1 I1 z1 => k U1 H1 _ g1 I1 z1
theorem sim_and {t u : TT} {e f : AT} (h : SimT c t e) (h2 : SimT c u f) : SimT c (tAnd t u) (aAnd e f) := fun U H σ ρ Q q I z k =>
  h U H σ ρ _ _ I z fun U1 H1 b g1 I1 z1 => by
    cases b with
    | true => exact i_itT (h2 U1 H1 σ ρ _ _ I1 z1 fun U2 H2 b' g2 I2 z2 => k U2 H2 b' (g1.trans g2) I2 z2)
    | false => exact i_itF (k U1 H1 false g1 I1 z1)
theorem sim_or {t u : TT} {e f : AT} (h : SimT c t e) (h2 : SimT c u f) : SimT c (tOr t u) (aOr e f) := fun U H σ ρ Q q I z k =>
  h U H σ ρ _ _ I z fun U1 H1 b g1 I1 z1 => by
    cases b with
    | false => exact i_itF (h2 U1 H1 σ ρ _ _ I1 z1 fun U2 H2 b' g2 I2 z2 => k U2 H2 b' (g1.trans g2) I2 z2)
    | true => exact i_itT (k U1 H1 true g1 I1 z1)
def aAndV (a b : AE) : AE := fun ρ Q X => a ρ (blQ fun x => cond x (b ρ Q X) (Q (.bl false))) X
def aOrV (a b : AE) : AE := fun ρ Q X => a ρ (blQ fun x => cond x (Q (.bl true)) (b ρ Q X)) X
def aNotV (a : AE) : AE := fun ρ Q X => a ρ (blQ fun x => Q (.bl (!x))) X
def aIfE (t : AT) (a b : AE) : AE := fun ρ Q X => t ρ (fun x => cond x (a ρ Q X) (b ρ Q X)) X
theorem sim_andV (ha : SimW c ta a) (hb : SimE c tb b) : SimE c (tAndV ta tb) (aAndV a b) := fun U H σ ρ Q q I z k =>
  ha U H σ ρ _ _ I z fun U1 H1 d v g1 I1 r1 z1 => by
    obtain ⟨x, rfl, z2⟩ := blQ_of z1
    refine ⟨x, (r1.cr I1).bl, ?_⟩
    cases x with
    | true => exact i_itT (hb U1 H1 σ ρ _ _ I1 z2 fun U2 H2 d' v' g2 I2 r2 z3 => k U2 H2 d' v' (g1.trans g2) I2 r2 z3)
    | false => exact i_itF (k U1 H1 (.bl false) _ g1 I1 rfl z2)
def aChain (f g : D → D → (D → Prop) → Prop) (a b e : AE) : AE := fun ρ Q X => a ρ (fun x => b ρ (fun y => f x y (blQ fun k => cond k (e ρ (fun z => g y z Q) X) (Q (.bl false)))) X) X
theorem sim_chain {r r' : R2} {f g : D → D → (D → Prop) → Prop} {ae : AE} (hf : OpD c.K r f) (hg : OpD c.K r' g) (ha : SimW c ta a) (hb : SimW c tb b) (hc : SimW c tc ae) : SimE c (tChain r r' ta tb tc) (aChain f g a b ae) := fun U H σ ρ Q q I z k =>
  ha U H σ ρ _ _ I z fun U1 H1 d v g1 I1 w1 z1 => hb U1 H1 σ ρ _ _ I1 z1 fun U2 H2 e w g2 I2 w2 z2 =>
    hf U2 H2 v w d e _ _ I2.vh ((w1.mono g2.vv).cr I2) (w2.cr I2) z2 fun U3 H3 y u' g3 r3 z3 => by
      obtain ⟨x, rfl, z4⟩ := blQ_of z3
      have I3 := I2.grow g3
      refine ⟨x, r3, ?_⟩
      cases x with
      | true => exact i_itT (hc U3 H3 σ ρ _ _ I3 z4 fun U4 H4 m n g4 I4 w4 z5 => hg U4 H4 w n e m Q q I4.vh ((w2.mono (g3.vv.trans g4.vv)).cr I4) (w4.cr I4) z5 fun U5 H5 y2 u2 g5 r5 z6 => k U5 H5 y2 u2 ((((g1.trans g2).trans g3.any).trans g4).trans g5.any) (I4.grow g5) r5 z6)
      | false => exact i_itF (k U3 H3 (.bl false) _ ((g1.trans g2).trans g3.any) I3 rfl z4)
def aCB (f : List D → (D → Prop) → Prop) (r : AL) : AE := fun ρ Q X => r ρ (fun ds => f ds Q) X
def aCBO (f : List D → (AV → Prop) → Prop) (r : AL) : AO := fun ρ Q X => r ρ (fun ds => f ds Q) X
theorem wks_cr {ds : List D} {vs : List V} (I : DI c U H σ ρ) (h : Paired (Wk c.K U σ ρ) ds vs) : Paired (CR c.K U H) ds vs := Paired.imp (fun _ _ w => Wk.cr w I) h
theorem sim_cb {r : List V → Hp → VK → Prop} {f : List D → (D → Prop) → Prop} {tr : TA} {al : AL} (h : BuD c.K r f) (hr : SimLW c tr al) : SimE c (tCB r tr) (aCB f al) := fun U H σ ρ Q q I z k =>
  hr U H σ ρ _ _ I z fun U1 H1 ds vs g1 I1 w1 z1 => h U1 H1 vs ds Q q I1.vh (wks_cr I1 w1) z1 fun U3 H3 y u' g3 r3 z3 => k U3 H3 y u' (g1.trans g3.any) (I1.grow g3) r3 z3
theorem sim_cbO {r : List V → Hp → VK → Prop} {f : List D → (AV → Prop) → Prop} {tr : TA} {al : AL} (h : BuO c.K r f) (hr : SimLW c tr al) : SimO c (tCB r tr) (aCBO f al) := fun U H σ ρ Q q I z k =>
  hr U H σ ρ _ _ I z fun U1 H1 ds vs g1 I1 w1 z1 => h U1 H1 vs ds Q q I1.vh (wks_cr I1 w1) z1 fun U3 H3 y u' g3 r3 n3 z3 => k U3 H3 y u' (g1.trans g3.any) (I1.grow g3) r3 (n3.back fun _ h => g1.fresh h) z3
def lookD (f : Str) : List Str → List D → Option D
  | n :: ns, d :: ds => if f == n then some d else lookD f ns ds
  | _, _ => none
theorem look_of {K : PySem.W.Frag} {f : Str} : ∀ {ns : List Str} {ds : List D} {xs : List V} {d : D}, Rs K U ds xs → ns.length = xs.length → lookD f ns ds = some d → ∃ v, (ns.zip xs).lookup f = some v ∧ R K U d v
  | [], ds, xs, d, h, l, e => by simp [lookD] at e
  | n :: ns, [], xs, d, h, l, e => by simp [lookD] at e
  | n :: ns, y :: ds, _, d, ⟨v, r, h1, h2, h3⟩, l, e => by
    subst h1
    unfold lookD at e
    rw [List.zip_cons_cons, List.lookup_cons]
    cases hb : f == n with
    | true =>
      rw [hb, if_pos rfl] at e
      cases e
      exact ⟨v, rfl, h2⟩
    | false =>
      rw [hb, if_neg Bool.false_ne_true] at e
      exact look_of h3 (Nat.succ.inj l) e
def fldQ (C : Addr) (f : Str) (Q : D → Prop) : D → Prop
  | .obj C' ns ds => C' = C ∧ (match lookD f ns ds with | some d => Q d | none => False)
  | _ => False
theorem fldQ_of {C : Addr} {f : Str} {Q : D → Prop} {d : D} (h : fldQ C f Q d) : ∃ ns ds z, d = .obj C ns ds ∧ lookD f ns ds = some z ∧ Q z := by
  cases d with
  | obj C' ns ds =>
    obtain ⟨rfl, h⟩ := h
    cases e : lookD f ns ds with
    | none => rw [e] at h; exact h.elim
    | some z => rw [e] at h; exact ⟨ns, ds, z, rfl, e, h⟩
  | _ => exact h.elim
def aFld (C : Addr) (f : Str) (a : AE) : AE := fun ρ Q X => a ρ (fldQ C f Q) X
theorem sim_fld {C : Addr} {f : Str} (hc : Cls c.K C) (hn : NoAttr c.K C f) (ha : SimW c ta a) : SimE c (tFld c.K ta f) (aFld C f a) := fun U H σ ρ Q q I z k =>
  ha U H σ ρ _ _ I z fun U1 H1 d v g1 I1 w1 z1 => by
    obtain ⟨ns, ds, y, rfl, e, z2⟩ := fldQ_of z1
    obtain ⟨p, dx, xs, rfl, hp, hl, hrs⟩ := (w1.cr I1).obj I1.vh
    obtain ⟨w, e1, r1⟩ := look_of hrs hl e
    exact ⟨p, C, dx, _, w, rfl, hp, hc, hn, e1, k U1 H1 y w g1 I1 r1 z2⟩
end
end SW
namespace SW
open PySem PySem.Spec PyProof.Rows L2
variable [QN]
theorem reps_step {K : PySem.W.Frag} {M : List Addr} {U H U' H' : Hp} (g : Gr M U H U' H') : ∀ {ρ : Env} {σ : L2.St}, Paired (RepS K U H) ρ σ → (owns ρ σ).Nodup → (∀ p ∈ owns ρ σ, U p = none) → (∀ p ∈ M, p ∈ owns ρ σ → p ∈ drs ρ σ ∧ Dr U' H' p) → Paired (RepS K U' H') ρ σ
  | _, _, .nil, _, _, _ => .nil
  | x :: ρ, y :: σ, .cons h t, nd, hu, hM => by
    have nd' : (ownS x y ++ owns ρ σ).Nodup := nd
    obtain ⟨n1, n2, n3⟩ := List.nodup_append.mp nd'
    refine .cons ?_ (reps_step g t n2 (fun p hp => hu p (List.mem_append_right _ hp)) fun p hp ho => ?_)
    · cases x with
      | none => trivial
      | some av =>
        cases y with
        | none => exact h.elim
        | some v =>
          by_cases hdr : drS (some av) (some v) = []
          · refine RepA.keep g.vv av v (fun p hp => ⟨keep_at g (own_pl av v h p hp) (fun hpM => ?_), g.fr p (hu p (List.mem_append_left _ hp)) (own_some av v h p hp)⟩) h
            have k := (hM p hpM (List.mem_append_left _ hp)).1
            have k' : p ∈ drS (some av) (some v) ++ drs ρ σ := k
            rw [hdr, List.nil_append] at k'
            exact n3 p hp p (drs_sub p k') rfl
          · cases av with
            | dr =>
              obtain ⟨s, rfl, e⟩ := h
              by_cases hs : s ∈ M
              · exact ⟨s, rfl, (hM s hs (List.mem_append_left _ (List.mem_singleton.mpr rfl))).2⟩
              · exact ⟨s, rfl, e.gr g hs⟩
            | _ => exact absurd rfl hdr
    · obtain ⟨k, k2⟩ := hM p hp (List.mem_append_right _ ho)
      have k' : p ∈ drS x y ++ drs ρ σ := k
      rcases List.mem_append.mp k' with z | z
      · refine absurd rfl (n3 p ?_ p ho)
        unfold drS at z
        split at z
        · exact z
        · cases z
      · exact ⟨z, k2⟩
section
variable {c : DC} {U H U' H' : Hp} {σ : L2.St} {ρ : Env} {t u ta tb tc : TE} {e a b : AE} {i j : Nat} {d : D} {v : V}
theorem DI.step {M : List Addr} (I : DI c U H σ ρ) (g : Gr M U H U' H') (hM : ∀ p ∈ M, p ∈ drs ρ σ ∧ Dr U' H' p) : DI c U' H' σ ρ := by
  refine ⟨⟨I.gr.vv.trans g.vv, g.vh, fun x o m nn h => ?_, fun x h => g.dom x (I.gr.dom x h), fun x h k => g.fr x (I.gr.fr x h k) (I.gr.dom x k), fun P h => g.tb P (I.gr.tb P h), fun h => g.nt (I.gr.nt h)⟩, reps_step g I.rep I.nd (fun p hp => (I.out p hp).1) fun p hp _ => hM p hp, I.nd, fun p hp => ⟨g.fr p (I.out p hp).1 (I.ex p hp), (I.out p hp).2⟩, I.par, I.ko, I.ow, I.on⟩
  refine g.hh x o (fun z => ?_) nn (I.gr.hh x o m nn h)
  rcases (I.out x (drs_sub x (hM x z).1)).2 with k | k
  · exact m k
  · rw [k] at h
    cases h
abbrev AF := List AV → (AV → Prop) → (Exn → Prop) → Prop
/-- the promise of a def that changes nothing but the law's draws -/
def spD (K : PySem.W.Frag) (tb : List Addr) (A : AF) : Sp := fun vs H Q E => ∃ (U : Hp) (avs : List AV) (q : AV → Prop) (x : Exn → Prop), Same U H ∧ TbOk tb U H ∧ Paired (RepA K U H) avs vs ∧ (∀ a ∈ avs, a = .dr ∨ ∃ d, a = .fz d) ∧ (ownAs avs vs).length ≤ 1 ∧ A avs q x ∧
  (∀ U' H' av v, Gr (ownAs avs vs) U H U' H' → RepA K U' H' av v → Fresh U' H av v → (∀ p ∈ ownAs avs vs, Dr U' H' p) → q av → Q v H') ∧
  (∀ U' H' ex cls o, Gr (ownAs avs vs) U H U' H' → XRep K U' H' ex cls o → (∀ p ∈ ownAs avs vs, Dr U' H' p) → x ex → E cls o H')
def argAV (ρ : Env) : Arg → Option AV
  | .val d => some (.fz d)
  | .slot i => match ρ[i]? with
    | some (some .dr) => some .dr
    | _ => none
def argsAV (ρ : Env) : List Arg → Option (List AV)
  | [] => some []
  | a :: as => match argAV ρ a, argsAV ρ as with
    | some x, some xs => some (x :: xs)
    | _, _ => none
def slots : List Arg → Nat
  | [] => 0
  | .slot _ :: as => slots as + 1
  | _ :: as => slots as
theorem mem_drs : ∀ {ρ : Env} {σ : L2.St} {i : Nat} {p : Addr}, ρ[i]? = some (some .dr) → σ[i]? = some (some (.ref p)) → p ∈ drs ρ σ
  | [], _, i, p, h, k => by simp at h
  | _ :: _, [], i, p, h, k => by simp at k
  | x :: ρ, y :: σ, 0, p, h, k => by
    have h' := Option.some.inj h
    have k' := Option.some.inj k
    subst h' k'
    exact List.mem_append_left _ (List.mem_singleton.mpr rfl)
  | x :: ρ, y :: σ, i + 1, p, h, k => List.mem_append_right _ (mem_drs (ρ := ρ) (σ := σ) h k)
theorem args_rep (I : DI c U H σ ρ) : ∀ {as : List Arg} {vs : List V} {avs : List AV}, Paired (ArgR c.K U σ) as vs → argsAV ρ as = some avs → Paired (RepA c.K U H) avs vs ∧ (∀ p ∈ ownAs avs vs, p ∈ drs ρ σ) ∧ (ownAs avs vs).length = slots as
  | _, _, avs, .nil, e => by
    cases e
    exact ⟨.nil, fun p hp => (by cases hp), rfl⟩
  | a :: as, v :: vs, avs, .cons h t, e => by
    unfold argsAV at e
    cases ea : argAV ρ a with
    | none => rw [ea] at e; cases e
    | some x =>
      rw [ea] at e
      cases es : argsAV ρ as with
      | none => rw [es] at e; cases e
      | some xs =>
        rw [es] at e
        cases e
        obtain ⟨k1, k2, k3⟩ := args_rep I t es
        cases a with
        | val d =>
          cases ea
          exact ⟨.cons h k1, k2, k3⟩
        | slot i =>
          unfold argAV at ea
          dsimp only at ea
          split at ea
          · rename_i hρ
            cases ea
            obtain ⟨w, e1, e2, _⟩ := rep_at I.rep i _ hρ
            have hσ : σ[i]? = some (some v) := h
            rw [hσ] at e1
            have e' := Option.some.inj (Option.some.inj e1)
            subst e'
            obtain ⟨s, rfl, hd⟩ := id e2
            refine ⟨.cons e2 k1, fun p hp => ?_, ?_⟩
            · rcases List.mem_append.mp hp with z | z
              · rw [List.mem_singleton.mp z]
                exact mem_drs hρ hσ
              · exact k2 p z
            · show (own .dr (.ref s) ++ ownAs xs vs).length = slots as + 1
              rw [List.length_append, k3]
              show 1 + _ = _
              omega
          · cases ea
theorem dr_args {K : PySem.W.Frag} : ∀ {avs : List AV} {vs : List V}, Paired (RepA K U H) avs vs → (∀ a ∈ avs, a = .dr ∨ ∃ d, a = .fz d) → ∀ p ∈ ownAs avs vs, Dr U H p
  | _, _, .nil, _, p, hp => by cases hp
  | a :: as, v :: vs, .cons h t, k, p, hp => by
    rcases List.mem_append.mp hp with z | z
    · rcases k a List.mem_cons_self with rfl | ⟨d, rfl⟩
      · obtain ⟨s, rfl, hd⟩ := h
        rw [List.mem_singleton.mp z]
        exact hd
      · cases z
    · exact dr_args t (fun x hx => k x (List.mem_cons_of_mem _ hx)) p z
theorem args_kind : ∀ {as : List Arg} {avs : List AV}, argsAV ρ as = some avs → ∀ a ∈ avs, a = .dr ∨ ∃ d, a = .fz d
  | [], avs, e, a, ha => by cases e; cases ha
  | y :: as, avs, e, a, ha => by
    unfold argsAV at e
    cases ea : argAV ρ y with
    | none => rw [ea] at e; cases e
    | some x =>
      rw [ea] at e
      cases es : argsAV ρ as with
      | none => rw [es] at e; cases e
      | some xs =>
        rw [es] at e
        cases e
        rcases List.mem_cons.mp ha with rfl | ha
        · cases y with
          | val d => cases ea; exact .inr ⟨d, rfl⟩
          | slot i =>
            unfold argAV at ea
            dsimp only at ea
            split at ea
            · cases ea; exact .inl rfl
            · cases ea
        · exact args_kind es a ha
def callQ (A : AF) (ρ : Env) (Q : AV → Prop) (X : Exn → Prop) (as : List Arg) : Prop := slots as ≤ 1 ∧ match argsAV ρ as with
  | some avs => A avs Q X
  | none => False
theorem callQ_of {A : AF} {Q : AV → Prop} {X : Exn → Prop} {as : List Arg} (h : callQ A ρ Q X as) : slots as ≤ 1 ∧ ∃ avs, argsAV ρ as = some avs ∧ A avs Q X := by
  obtain ⟨h1, h2⟩ := h
  refine ⟨h1, ?_⟩
  cases e : argsAV ρ as with
  | none => rw [e] at h2; exact h2.elim
  | some avs => rw [e] at h2; exact ⟨avs, rfl, h2⟩
/-- the promise of a def, called where DI stands -/
theorem run_spD {A : AF} {as : List Arg} {vs : List V} {Q : AV → Prop} {q : VK} {E : XK} {X : Exn → Prop} (I : DI c U H σ ρ) (r : Paired (ArgR c.K U σ) as vs) (h : callQ A ρ Q X as)
    (k : ∀ U' H' av v, Gr (drs ρ σ) U H U' H' → DI c U' H' σ ρ → RepA c.K U' H' av v → Fresh U' H av v → Q av → q v H')
    (kx : ∀ U' H' x cls o, DI c U' H' σ ρ → XRep c.K U' H' x cls o → X x → E cls o H') : spD c.K c.tb A vs H q E := by
  obtain ⟨h1, avs, h2, h3⟩ := callQ_of h
  obtain ⟨k1, k2, k3⟩ := args_rep I r h2
  have kd := args_kind h2
  refine ⟨U, avs, Q, X, I.vh, I.tbs, k1, kd, by omega, h3, fun U' H' av v g r' n hd z => ?_, fun U' H' x cls o g xr hd z => ?_⟩
  · exact k U' H' av v (g.weak k2) (I.step g fun p hp => ⟨k2 p hp, hd p hp⟩) r' n z
  · exact kx U' H' x cls o (I.step g fun p hp => ⟨k2 p hp, hd p hp⟩) xr z
def aCall (A : AF) (r : AA) : AO := fun ρ Q X => r ρ (callQ A ρ Q X) X
def aCall0 (A : AF) (r : AA) : AO := fun ρ Q X => r ρ (callQ A ρ Q fun _ => False) X
section
variable {A : AF} {tr tk : TA} {r rk : AA}
theorem sim_call {E : XK} (hr : SimA c tr r) : SimO c (tCall (spD c.K c.tb A) [] E tr) (aCall0 A r) := fun U H σ ρ Q q I z k =>
  hr U H σ ρ _ _ I z fun U1 H1 as vs g1 I1 r1 z1 => by
    rw [List.append_nil]
    exact run_spD I1 r1 z1 (fun U2 H2 av v g2 I2 r2 n2 z2 => k U2 H2 av v (g1.trans g2) I2 r2 (n2.back fun _ h => g1.fresh h) z2) (fun _ _ _ _ _ _ _ z => z.elim)
theorem sim_callS {E : L2.St → XK} (hE : ∀ σ, E σ = c.E σ) (hr : SimA c tr r) : SimO c (tCallS (spD c.K c.tb A) E tr) (aCall A r) := fun U H σ ρ Q q I z k =>
  hr U H σ ρ _ _ I z fun U1 H1 as vs g1 I1 r1 z1 =>
    run_spD I1 r1 z1 (fun U2 H2 av v g2 I2 r2 n2 z2 => k U2 H2 av v (g1.trans g2) I2 r2 (n2.back fun _ h => g1.fresh h) z2) (fun U2 H2 x cls o I2 xr z => by rw [hE]; exact I2.raise xr z)
end
section
variable {st su : TS} {sa sb : AS} {tt : TT} {at' : AT} {o : AO}
def aNext : AS := fun N ρ => N.nx ρ
def aSeq (a b : AS) : AS := fun N ρ => a ⟨fun ρ' => b N ρ', N.rt, N.bk, N.ct, N.ex⟩ ρ
def aSet (i : Nat) (e : AE) : AS := fun N ρ => e ρ (fun d => N.nx (ρ.set i (some (.fz d)))) (fun x => N.ex x ρ)
def aSetO (i : Nat) (e : AO) : AS := fun N ρ => e ρ (fun av => N.nx (ρ.set i (some av))) (fun x => N.ex x ρ)
def aDrop (e : AE) : AS := fun N ρ => e ρ (fun _ => N.nx ρ) (fun x => N.ex x ρ)
def aRet (e : AE) : AS := fun N ρ => e ρ (fun d => N.rt (.fz d) ρ) (fun x => N.ex x ρ)
def aRetO (e : AO) : AS := fun N ρ => e ρ (fun av => N.rt av ρ) (fun x => N.ex x ρ)
def aRetN : AS := fun N ρ => N.rt (.fz .non) ρ
def aRetV (i : Nat) : AS := fun N ρ => match ρ[i]? with
  | some (some .dr) => False
  | some (some av) => N.rt av (ρ.set i none)
  | _ => False
def aIf (t : AT) (a b : AS) : AS := fun N ρ => t ρ (fun x => cond x (a N ρ) (b N ρ)) (fun x => N.ex x ρ)
def aBrk : AS := fun N ρ => N.bk ρ
def aCnt : AS := fun N ρ => N.ct ρ
def aRaise (C : Addr) : AS := fun N ρ => N.ex ⟨C, [], []⟩ ρ
theorem sim_next : SimS c tNext aNext := fun U H σ ρ N n hx I h P => P.nx U H σ ρ (Same.refl U) I h
theorem sim_seq (ha : SimS c st sa) (hb : SimS c su sb) : SimS c (tSeq st su) (aSeq sa sb) := fun U H σ ρ N n hx I h P =>
  ha U H σ ρ ⟨fun ρ' => sb N ρ', N.rt, N.bk, N.ct, N.ex⟩ _ hx I h ⟨fun U' H' σ' ρ' s I' h' => hb U' H' σ' ρ' N n hx I' h' (P.mono s), P.rt, P.bk, P.ct⟩
theorem sim_set (hi : noPar c i = true) (h : SimE c t e) : SimS c (tAsg t (gName i)) (aSet i e) := fun U H σ ρ N n hx I z P => by
  unfold aSet at z
  rw [hx] at z
  exact h U H σ ρ _ _ I z fun U1 H1 d v g1 I1 r1 z1 => P.nx U1 H1 _ _ g1.vv (I1.setF r1 hi) z1
theorem sim_setO (hi : noPar c i = true) (h : SimO c t o) : SimS c (tAsg t (gName i)) (aSetO i o) := fun U H σ ρ N n hx I z P => by
  unfold aSetO at z
  rw [hx] at z
  exact h U H σ ρ _ _ I z fun U1 H1 av v g1 I1 r1 n1 z1 => P.nx U1 H1 _ _ g1.vv (I1.setO r1 n1.nd (fun p hp => ⟨(n1.out p hp).1, I.gr.fresh (n1.out p hp).2, fun z => I.ex p z (n1.out p hp).2⟩) hi) z1
theorem sim_drop (h : SimE c t e) : SimS c (tDrop t) (aDrop e) := fun U H σ ρ N n hx I z P => by
  unfold aDrop at z
  rw [hx] at z
  exact h U H σ ρ _ _ I z fun U1 H1 d v g1 I1 r1 z1 => P.nx U1 H1 _ _ g1.vv I1 z1
theorem sim_ret (h : SimE c t e) : SimS c (tRet t) (aRet e) := fun U H σ ρ N n hx I z P => by
  unfold aRet at z
  rw [hx] at z
  exact h U H σ ρ _ _ I z fun U1 H1 d v g1 I1 r1 z1 => P.rt U1 H1 σ ρ (.fz d) v I1 r1 (Fresh.fz (U' := U1) (H := H1)).nd (fun p hp => by cases v <;> cases hp) z1
theorem sim_retO (h : SimO c t o) : SimS c (tRet t) (aRetO o) := fun U H σ ρ N n hx I z P => by
  unfold aRetO at z
  rw [hx] at z
  exact h U H σ ρ _ _ I z fun U1 H1 av v g1 I1 r1 n1 z1 => P.rt U1 H1 σ ρ av v I1 r1 n1.nd (fun p hp => ⟨(n1.out p hp).1, I.gr.fresh (n1.out p hp).2, fun z => I.ex p z (n1.out p hp).2⟩) z1
theorem sim_if (ht : SimT c tt at') (ha : SimS c st sa) (hb : SimS c su sb) : SimS c (tIfS tt st su) (aIf at' sa sb) := fun U H σ ρ N n hx I z P => by
  unfold aIf at z
  rw [hx] at z
  refine ht U H σ ρ _ _ I z fun U1 H1 x g1 I1 z1 => ?_
  cases x with
  | true => exact i_itT (ha U1 H1 σ ρ N n hx I1 z1 (P.mono g1.vv))
  | false => exact i_itF (hb U1 H1 σ ρ N n hx I1 z1 (P.mono g1.vv))
def tRaise0 (C : Addr) (E : XK) : TS := fun _ _ H => E (.ref C) none H
theorem sim_raise {C : Addr} {E : XK} (hE : ∀ σ, E = c.E σ) : SimS c (tRaise0 C E) (aRaise C) := fun U H σ ρ N n hx I z P => by
  have z' : N.ex ⟨C, [], []⟩ ρ := z
  rw [hx] at z'
  show E (.ref C) none H
  rw [hE σ]
  exact I.raise (x := ⟨C, [], []⟩) ⟨rfl, .inl ⟨rfl, rfl⟩⟩ z'
/-- a slot is let go -/
theorem DI.unset (I : DI c U H σ ρ) (i : Nat) (hi : noPar c i = true) : DI c U H σ (ρ.set i none) := by
  have e : ∀ (ρ : Env) (σ : L2.St) (i : Nat), Paired (RepS c.K U H) ρ σ → Paired (RepS c.K U H) (ρ.set i none) σ ∧ (owns (ρ.set i none) σ).Sublist (owns ρ σ) := by
    intro ρ
    induction ρ with
    | nil => intro σ i h; exact ⟨h, List.Sublist.refl _⟩
    | cons x ρ ih =>
      intro σ i h
      cases h with
      | @cons _ y _ σ h t =>
        cases i with
        | zero =>
          refine ⟨.cons trivial t, ?_⟩
          show (ownS none y ++ owns ρ σ).Sublist (ownS x y ++ owns ρ σ)
          exact List.sublist_append_right _ _
        | succ i =>
          obtain ⟨k1, k2⟩ := ih σ i t
          refine ⟨.cons h k1, ?_⟩
          show (ownS x y ++ owns (ρ.set i none) σ).Sublist (ownS x y ++ owns ρ σ)
          exact List.Sublist.append_left k2 _
  obtain ⟨k1, k2⟩ := e ρ σ i I.rep
  exact ⟨I.gr, k1, k2.nodup I.nd, fun p hp => I.out p (k2.mem hp), par_set rfl (sel_set _ _ _ _ (noPar_of hi)) I.par, I.ko, fun k av w e1 e2 p hp => I.ow k av w (by
    rw [List.getElem?_set] at e1
    split at e1
    · split at e1 <;> simp at e1
    · exact e1) e2 p hp, I.on⟩
/-- it is in no other slot -/
theorem own_unset : ∀ {ρ : Env} {σ : L2.St} {i : Nat} {av : AV} {v : V}, (owns ρ σ).Nodup → ρ[i]? = some (some av) → σ[i]? = some (some v) → ∀ p ∈ own av v, p ∉ owns (ρ.set i none) σ
  | [], _, i, av, v, nd, h, k, p, hp => by simp at h
  | _ :: _, [], i, av, v, nd, h, k, p, hp => by simp at k
  | x :: ρ, y :: σ, 0, av, v, nd, h, k, p, hp => by
    have h' := Option.some.inj h
    have k' := Option.some.inj k
    subst h' k'
    intro z
    have z' : p ∈ ([] : List Addr) ++ owns ρ σ := z
    have nd' : (own av v ++ owns ρ σ).Nodup := nd
    exact (List.nodup_append.mp nd').2.2 p hp p z' rfl
  | x :: ρ, y :: σ, i + 1, av, v, nd, h, k, p, hp => by
    intro z
    have nd' : (ownS x y ++ owns ρ σ).Nodup := nd
    obtain ⟨n1, n2, n3⟩ := List.nodup_append.mp nd'
    have z' : p ∈ ownS x y ++ owns (ρ.set i none) σ := z
    rcases List.mem_append.mp z' with z' | z'
    · exact n3 p z' p (mem_owns (ρ := ρ) (σ := σ) h k p hp) rfl
    · exact own_unset n2 h k p hp z'
theorem own_nd : ∀ {ρ : Env} {σ : L2.St} {i : Nat} {av : AV} {v : V}, (owns ρ σ).Nodup → ρ[i]? = some (some av) → σ[i]? = some (some v) → (own av v).Nodup
  | [], _, i, av, v, nd, h, k => by simp at h
  | _ :: _, [], i, av, v, nd, h, k => by simp at k
  | x :: ρ, y :: σ, 0, av, v, nd, h, k => by
    have h' := Option.some.inj h
    have k' := Option.some.inj k
    subst h' k'
    exact (List.nodup_append.mp (show (own av v ++ owns ρ σ).Nodup from nd)).1
  | x :: ρ, y :: σ, i + 1, av, v, nd, h, k => own_nd (List.nodup_append.mp (show (ownS x y ++ owns ρ σ).Nodup from nd)).2.1 h k
theorem sim_retV (hi : noPar c i = true) : SimS c (tRet (tVar i)) (aRetV i) := fun U H σ ρ N n hx I z P => by
  unfold aRetV at z
  split at z
  · exact z.elim
  · rename_i av _ e
    obtain ⟨v, e1, r, m⟩ := rep_at I.rep i av e
    exact ⟨v, e1, P.rt U H σ (ρ.set i none) av v (I.unset i hi) r (own_nd I.nd e e1) (fun p hp => ⟨(I.out p (m p hp)).1, I.nw i av v hi e e1 p hp, own_unset I.nd e e1 p hp⟩) z⟩
  · exact z.elim
theorem reps_mut {K : PySem.W.Frag} {p : Addr} {o : HO} {ρ : Env} {σ : L2.St} (hu : ∀ q ∈ owns ρ σ, U q = none) (np : p ∉ owns ρ σ) (h : Paired (RepS K U H) ρ σ) : Paired (RepS K U (upd H p o)) ρ σ :=
  reps_keep (Same.refl U) (fun q hq => ⟨upd_ne (fun z => np (z ▸ hq)), hu q hq⟩) h
theorem set_same : ∀ {σ : L2.St} {i : Nat} {x : Option V}, σ[i]? = some x → σ.set i x = σ
  | [], _, _, h => by simp at h
  | y :: σ, 0, x, h => by rw [← Option.some.inj h]; rfl
  | y :: σ, i + 1, x, h => congrArg (y :: ·) (set_same (σ := σ) h)
/-- the thing in slot i becomes another of its kind: its places are those it had, or new -/
theorem DI.mutA {av av' : AV} {v : V} {H' : Hp} (I : DI c U H σ ρ) (h : ρ[i]? = some (some av)) (hs : σ[i]? = some (some v)) (kd : av'.kind = av.kind) (g : Gr (own av v) U H U H') (r : RepA c.K U H' av' v) (nd : (own av' v).Nodup) (ho : ∀ p ∈ own av' v, p ∈ own av v ∨ (H p = none ∧ U p = none)) :
    DI c U H' σ (ρ.set i (some av')) := by
  have m := mem_owns (ρ := ρ) (σ := σ) h hs
  have nu := own_unset I.nd h hs
  have hu : ∀ p ∈ own av' v, U p = none ∧ (p ∈ c.M ∨ c.H0 p = none) := fun p hp => by
    rcases ho p hp with z | z
    · exact I.out p (m p z)
    · exact ⟨z.2, .inr (I.gr.fresh z.1)⟩
  have sub : ∀ q ∈ owns (ρ.set i none) σ, q ∈ owns ρ σ := fun q hq => by
    have := owns_set_mem ρ σ i none (some v) q
    rw [set_same hs] at this
    rcases this hq with z | z
    · exact z
    · cases z
  have nd0 : (owns (ρ.set i none) σ).Nodup := by
    have := (owns_set_sub ρ σ i none (some v) rfl).nodup I.nd
    rwa [set_same hs] at this
  have rp0 : Paired (RepS c.K U H') (ρ.set i none) σ := by
    have k0 := Paired.setAt (F := RepS c.K U H) (show RepS c.K U H none (some v) from trivial) i I.rep
    rw [set_same hs] at k0
    exact reps_keep (Same.refl U) (fun q hq => ⟨keep_at g (I.pl q (sub q hq)) (fun z => nu q z hq), (I.out q (sub q hq)).1⟩) k0
  have hr : Paired (RepS c.K U H') (ρ.set i (some av')) σ := by
    have k := Paired.setAt (F := RepS c.K U H') (show RepS c.K U H' (some av') (some v) from r) i rp0
    rwa [List.set_set, set_same hs] at k
  have np : ∀ q ∈ own av' v, q ∉ owns (ρ.set i none) σ := fun q hq z => by
    rcases ho q hq with y | y
    · exact nu q y z
    · exact I.ex q (sub q z) y.1
  have hn : (owns (ρ.set i (some av')) σ).Nodup := by
    have k := owns_set_nd (ρ.set i none) σ i (some av') (some v) nd0 nd np
    rwa [List.set_set, set_same hs] at k
  refine ⟨⟨I.gr.vv, g.vh, fun a o ma nn ha => ?_, fun a ha => g.dom a (I.gr.dom a ha), I.gr.fr, fun P h => g.tb P (I.gr.tb P h), I.gr.nt⟩, hr, hn, fun q hq => ?_, ?_, I.ko, fun k av'' w e1 e2 q hq => ?_, I.on⟩
  · refine g.hh a o (fun z => ?_) nn (I.gr.hh a o ma nn ha)
    rcases (I.out a (m a z)).2 with y | y
    · exact ma y
    · rw [y] at ha
      cases ha
  · have k := owns_set_mem (ρ.set i none) σ i (some av') (some v) q
    rw [List.set_set, set_same hs] at k
    rcases k hq with k | k
    · exact I.out q (sub q k)
    · exact hu q k
  · obtain ⟨p1, avs, p2, p3⟩ := I.par
    refine ⟨p1, ?_⟩
    have go : ∀ (ks : List Bool) (ρ : Env) (i : Nat) (avs : List AV), ρ[i]? = some (some av) → selM ks ρ = avs.map some → ∃ bs : List AV, selM ks (ρ.set i (some av')) = bs.map some ∧ bs.map AV.kind = avs.map AV.kind := by
      intro ks
      induction ks with
      | nil =>
        intro ρ i avs _ e
        refine ⟨avs, ?_, rfl⟩
        rw [← e]
        cases ρ <;> cases i <;> rfl
      | cons b ks ih =>
        intro ρ i avs h e
        cases ρ with
        | nil => simp at h
        | cons a ρ =>
          cases i with
          | zero =>
            have h' := Option.some.inj h
            subst h'
            cases b with
            | false => exact ⟨avs, e, rfl⟩
            | true =>
              cases avs with
              | nil => cases e
              | cons a0 avs =>
                have e' := List.cons.inj e
                obtain ⟨g1, g2⟩ := e'
                cases g1
                exact ⟨av' :: avs, by rw [List.map_cons, ← g2]; rfl, by rw [List.map_cons, List.map_cons, kd]⟩
          | succ i =>
            cases b with
            | false => exact ih ρ i avs h e
            | true =>
              cases avs with
              | nil => cases e
              | cons a0 avs =>
                have e' := List.cons.inj e
                obtain ⟨g1, g2⟩ := e'
                obtain ⟨bs, k1, k2⟩ := ih ρ i avs h g2
                exact ⟨a0 :: bs, by show a :: selM ks (ρ.set i (some av')) = _; rw [k1, g1]; rfl, by rw [List.map_cons, List.map_cons, k2]⟩
    obtain ⟨bs, k1, k2⟩ := go c.ks ρ i avs h p2
    exact ⟨bs, k1, k2.trans p3⟩
  · by_cases z : i = k
    · subst z
      rw [hs] at e2
      have e' := Option.some.inj (Option.some.inj e2)
      subst e'
      rw [List.getElem?_set] at e1
      simp at e1
      rw [← e1.2] at hq
      rcases ho q hq with y | y
      · exact I.ow i av _ h hs q y
      · exact .inr (I.gr.fresh y.1)
    · rw [List.getElem?_set_ne z] at e1
      exact I.ow k av'' w e1 e2 q hq
theorem gr_upd {p : Addr} {o : HO} {as : List Addr} (s : Same U H) (hu : U p = none) (hp : p ∈ as) (pl : Pl H p) : Gr as U H U (upd H p o) :=
  (Gr.refl s).mut hu (.inl hp) pl
theorem DI.mut {av av' : AV} {p : Addr} {o : HO} (I : DI c U H σ ρ) (h : ρ[i]? = some (some av)) (kd : av'.kind = av.kind) (hs : σ[i]? = some (some (.ref p))) (ho : own av (.ref p) = [p]) (ho' : own av' (.ref p) = [p]) (r : RepA c.K U (upd H p o) av' (.ref p)) :
    DI c U (upd H p o) σ (ρ.set i (some av')) := by
  have mp : p ∈ own av (.ref p) := by rw [ho]; exact List.mem_singleton.mpr rfl
  exact I.mutA h hs kd (gr_upd I.vh (I.out p (mem_owns h hs p mp)).1 mp (I.pl p (mem_owns h hs p mp))) r (by rw [ho']; simp) (fun q hq => by rw [ho'] at hq; rw [List.mem_singleton.mp hq]; exact .inl mp)
end
end
end SW
namespace SW
open PySem PySem.Spec PyProof.Rows L2
variable [QN]
section
variable {c : DC} {U H U' H' : Hp} {σ : L2.St} {ρ : Env} {t u ta tb tc te ti : TE} {e a b ai : AE} {i j : Nat} {d : D} {v : V} {st su : TS} {sa sb : AS} {tt : TT} {at' : AT} {o : AO}
def olQ (ρ : Env) (i : Nat) (Q : List D → Prop) : Prop := match ρ[i]? with
  | some (some (.ol ds)) => Q ds
  | _ => False
theorem olQ_of {Q : List D → Prop} (h : olQ ρ i Q) : ∃ ds, ρ[i]? = some (some (.ol ds)) ∧ Q ds := by
  unfold olQ at h
  split at h
  · exact ⟨_, by assumption, h⟩
  · exact h.elim
theorem ol_at {ds : List D} (I : DI c U H σ ρ) (h : ρ[i]? = some (some (.ol ds))) : ∃ p xs, σ[i]? = some (some (.ref p)) ∧ H p = some (.lst xs) ∧ Rs c.K U ds xs := by
  obtain ⟨v, e1, ⟨p, xs, rfl, e2, e3⟩, _⟩ := rep_at I.rep i _ h
  exact ⟨p, xs, e1, e2, e3⟩
theorem DI.mutL {ds ds' : List D} {p : Addr} {xs' : List V} (I : DI c U H σ ρ) (h : ρ[i]? = some (some (.ol ds))) (hs : σ[i]? = some (some (.ref p))) (r : Rs c.K U ds' xs') : DI c U (upd H p (.lst xs')) σ (ρ.set i (some (.ol ds'))) :=
  I.mut h rfl hs rfl rfl ⟨p, xs', rfl, upd_same, r⟩
def aApp (i : Nat) (e : AE) : AS := fun N ρ => olQ ρ i fun _ => e ρ (fun d => olQ ρ i fun ds => ds.length < 1000000 ∧ N.nx (ρ.set i (some (.ol (ds ++ [d]))))) (fun x => N.ex x ρ)
theorem sim_app (he : SimE c te e) : SimS c (tDrop (tBM c.K "list" rAppend (tVar i) (tCons te tNil))) (aApp i e) := fun U H σ ρ N n hx I z P => by
  obtain ⟨ds0, e0, z⟩ := olQ_of z
  rw [hx] at z
  obtain ⟨p, xs, hs, hp, hr⟩ := ol_at I e0
  refine ⟨.ref p, hs, .inl ⟨rfl, xs, SqL.of hp⟩, he U H σ ρ _ _ I z fun U1 H1 d v g1 I1 r1 z1 => ?_⟩
  obtain ⟨ds, e1, z2, z3⟩ := olQ_of z1
  obtain ⟨p', xs', hs', hp', hr'⟩ := ol_at I1 e1
  rw [hs] at hs'
  have e' := V.ref.inj (Option.some.inj (Option.some.inj hs'))
  subst e'
  exact ⟨p, xs', v, rfl, rfl, hp', lt_size (by rw [← hr'.len]; exact z2), P.nx U1 _ σ _ g1.vv (I1.mutL e1 hs (hr'.snoc r1)) z3⟩
def ixQ (n : Nat) (Q : Nat → Prop) : D → Prop
  | .int z => match ixN n z with
    | some j => Q j
    | none => False
  | _ => False
/-- x[k] = e -/
def aPut (i : Nat) (ai e : AE) : AS := fun N ρ => olQ ρ i fun _ => e ρ (fun d => ai ρ (fun k => olQ ρ i fun ds => ixQ ds.length (fun j => N.nx (ρ.set i (some (.ol (ds.set j d))))) k) (fun x => N.ex x ρ)) (fun x => N.ex x ρ)
def lstQ (Q : List D → Prop) : D → Prop
  | .lst ds => Q ds
  | _ => False
theorem lstQ_of {Q : List D → Prop} {d : D} (h : lstQ Q d) : ∃ ds, d = .lst ds ∧ Q ds := by
  cases d <;> first | exact ⟨_, rfl, h⟩ | exact h.elim
def tupQ (Q : List D → Prop) : D → Prop
  | .tup ds => Q ds
  | _ => False
theorem tupQ_of {Q : List D → Prop} {d : D} (h : tupQ Q d) : ∃ ds, d = .tup ds ∧ Q ds := by
  cases d <;> first | exact ⟨_, rfl, h⟩ | exact h.elim
/-- x += e of lists -/
def aExt (i : Nat) (e : AE) : AS := fun N ρ => olQ ρ i fun _ => e ρ (lstQ fun es => olQ ρ i fun ds => ds.length + es.length ≤ 1000000 ∧ N.nx (ρ.set i (some (.ol (ds ++ es))))) (fun x => N.ex x ρ)
def gN (i : Nat) : AG := fun d ρ Q => Q (ρ.set i (some (.fz d)))
theorem drs_set : ∀ (ρ : Env) (σ : L2.St) (i : Nat) (x : Option AV) (y : Option V), drS x y = [] → ∀ p ∈ drs (ρ.set i x) (σ.set i y), p ∈ drs ρ σ
  | [], _, _, _, _, _, p, hp => by simp [drs] at hp
  | _ :: _, [], i, _, _, _, p, hp => by cases i <;> simp [drs] at hp
  | a :: ρ, b :: σ, 0, x, y, h, p, hp => by
    have hp' : p ∈ drS x y ++ drs ρ σ := hp
    rw [h] at hp'
    exact List.mem_append_right _ hp'
  | a :: ρ, b :: σ, i + 1, x, y, h, p, hp => by
    have hp' : p ∈ drS a b ++ drs (ρ.set i x) (σ.set i y) := hp
    rcases List.mem_append.mp hp' with z | z
    · exact List.mem_append_left _ z
    · exact List.mem_append_right _ (drs_set ρ σ i x y h p z)
theorem put_set {i : Nat} {d : D} {v : V} : Put [i] σ (σ.set i (some v)) ρ (ρ.set i (some (.fz d))) :=
  ⟨List.length_set, fun k hk => List.getElem?_set_ne (fun z => hk (by rw [z]; exact List.mem_singleton.mpr rfl)), drs_set ρ σ i _ _ rfl, fun k hk => List.getElem?_set_ne (fun z => hk (by rw [z]; exact List.mem_singleton.mpr rfl)), fun p hp => (owns_set_sub ρ σ i _ _ rfl).mem hp⟩
theorem Put.trans {js ks : List Nat} {σ1 σ2 σ3 : L2.St} {ρ1 ρ2 ρ3 : Env} (a : Put js σ1 σ2 ρ1 ρ2) (b : Put ks σ2 σ3 ρ2 ρ3) : Put (js ++ ks) σ1 σ3 ρ1 ρ3 :=
  ⟨b.len.trans a.len, fun k hk => (b.at' k fun z => hk (List.mem_append_right _ z)).trans (a.at' k fun z => hk (List.mem_append_left _ z)), fun p hp => a.dr p (b.dr p hp), fun k hk => (b.rat k fun z => hk (List.mem_append_right _ z)).trans (a.rat k fun z => hk (List.mem_append_left _ z)), fun p hp => a.ow p (b.ow p hp)⟩
theorem sim_gN (hi : noPar c i = true) : SimG c [i] (gName i) (gN i) := fun U H σ ρ d v Q q I r z k => k _ _ (I.setF r hi) put_set z
abbrev AGs := List D → Env → (Env → Prop) → Prop
def SimGs (c : DC) (js : List Nat) (g : TGs) (a : AGs) : Prop := ∀ (U H : Hp) (σ : L2.St) (ρ : Env) (ds : List D) (vs : List V) (Q : Env → Prop) (q : L2.St → Hp → Prop), DI c U H σ ρ → Rs c.K U ds vs → a ds ρ Q →
  (∀ σ' ρ', DI c U H σ' ρ' → Put js σ σ' ρ ρ' → Q ρ' → q σ' H) → g vs σ H q
def gsNil : AGs := fun ds ρ Q => match ds with | [] => Q ρ | _ => False
def gsCons (g : AG) (r : AGs) : AGs := fun ds ρ Q => match ds with | d :: ds => g d ρ (fun ρ' => r ds ρ' Q) | [] => False
def gT (n : Nat) (r : AGs) : AG := fun d ρ Q => match d with | .tup ds => ds.length = n ∧ r ds ρ Q | _ => False
theorem sim_gsNil : SimGs c [] gNil gsNil := fun U H σ ρ ds vs Q q I r z k => by
  cases ds with
  | nil => exact ⟨r, k σ ρ I ⟨rfl, fun _ _ => rfl, fun _ h => h, fun _ _ => rfl, fun _ h => h⟩ z⟩
  | cons d ds => exact z.elim
theorem sim_gsCons {js ks : List Nat} {g : TG} {gs : TGs} {ag : AG} {ags : AGs} (h : SimG c js g ag) (hs : SimGs c ks gs ags) : SimGs c (js ++ ks) (gCons g gs) (gsCons ag ags) := fun U H σ ρ ds vs Q q I r z k => by
  cases ds with
  | nil => exact z.elim
  | cons d ds =>
    obtain ⟨v, vs', rfl, r1, r2⟩ := r
    exact ⟨v, vs', rfl, h U H σ ρ d v _ _ I r1 z fun σ1 ρ1 I1 p1 z1 => hs U H σ1 ρ1 ds vs' Q q I1 r2 z1 fun σ2 ρ2 I2 p2 z2 => k σ2 ρ2 I2 (p1.trans p2) z2⟩
theorem sim_gT {js : List Nat} {n : Nat} {gs : TGs} {ags : AGs} (hs : SimGs c js gs ags) : SimG c js (gTup c.K n gs) (gT n ags) := fun U H σ ρ d v Q q I r z k => by
  cases d with
  | tup ds =>
    obtain ⟨a, xs, rfl, h1, h2⟩ := r
    obtain ⟨z1, z2⟩ : ds.length = n ∧ ags ds ρ Q := z
    exact ⟨a, xs, rfl, Same.tup I.vh h1, by rw [← h2.len]; exact z1, hs U H σ ρ ds xs Q q I h2 z2 k⟩
  | _ => exact (show False from z).elim
def aAsg (e : AE) (g : AG) : AS := fun N ρ => e ρ (fun d => g d ρ N.nx) (fun x => N.ex x ρ)
theorem sim_asg {js : List Nat} {g : TG} {ag : AG} (h : SimE c t e) (hg : SimG c js g ag) : SimS c (tAsg t g) (aAsg e ag) := fun U H σ ρ N n hx I z P => by
  unfold aAsg at z
  rw [hx] at z
  exact h U H σ ρ _ _ I z fun U1 H1 d v g1 I1 r1 z1 => hg U1 H1 σ ρ d v _ _ I1 r1 z1 fun σ2 ρ2 I2 _ z2 => P.nx U1 H1 _ _ g1.vv I2 z2
/-- a, b = e, f -/
def twoQ (Q : D → D → Prop) : List D → Prop
  | [d, e] => Q d e
  | _ => False
theorem twoQ_of {Q : D → D → Prop} {ds : List D} (h : twoQ Q ds) : ∃ d e, ds = [d, e] ∧ Q d e := by
  unfold twoQ at h
  split at h
  · exact ⟨_, _, rfl, h⟩
  · exact h.elim
def aPar (i j : Nat) (r : AL) : AS := fun N ρ => r ρ (twoQ fun d e => N.nx ((ρ.set i (some (.fz d))).set j (some (.fz e)))) (fun x => N.ex x ρ)
def aAug (i : Nat) (f : D → D → (D → Prop) → Prop) (e : AE) : AS := fun N ρ => match ρ[i]? with
  | some (some (.fz x)) => e ρ (fun y => f x y fun z => N.nx (ρ.set i (some (.fz z)))) (fun x => N.ex x ρ)
  | _ => False
def aLoop (g : AG) (b : AS) (N : AEnds) : List D → Env → Prop
  | [], ρ => N.nx ρ
  | d :: r, ρ => g d ρ (fun ρ2 => b ⟨aLoop g b N r, N.rt, N.nx, aLoop g b N r, N.ex⟩ ρ2)
def aFor (it : AL) (g : AG) (b : AS) : AS := fun N ρ => it ρ (fun ds => aLoop g b N ds ρ) (fun x => N.ex x ρ)
theorem drop_at {α : Type} {xs : List α} {i : Nat} {x : α} (h : xs[i]? = some x) : xs.drop i = x :: xs.drop (i + 1) := by
  obtain ⟨hi, e⟩ := List.getElem?_eq_some_iff.mp h
  rw [List.drop_eq_getElem_cons hi, e]
theorem sim_for {js : List Nat} {wi : TI} {it : AL} {g : TG} {ag : AG} (hi : SimI c wi it) (hg : SimG c js g ag) (hb : SimS c st sa) : SimS c (tFor wi g st) (aFor it ag sa) := fun U H σ ρ N n hx I z P => by
  unfold aFor at z
  rw [hx] at z
  refine hi U H σ ρ _ _ I z fun U1 H1 J ds g1 I1 W z1 => ?_
  obtain ⟨Y, w, hY⟩ := W
  refine for_it w (fun k σ' H' => ∃ U' ρ', Same U1 U' ∧ DI c U' H' σ' ρ' ∧ aLoop ag sa N (ds.drop k) ρ') ⟨U1, ρ, Same.refl U1, I1, z1⟩ (fun k σ' H' _ ⟨U', ρ', s, I', _⟩ => s.trans I'.vh) ?_ ?_
  · rintro k x σ' H' H'' hk ⟨U', ρ', s, I', z2⟩ hy
    have ed : ds[k]? = some ds[k] := List.getElem?_eq_getElem hk
    obtain ⟨U3, g3, r3⟩ := hY k H' x H'' _ U' s I'.vh hy ed
    rw [drop_at ed] at z2
    have I3 := I'.grow g3
    have s3 := s.trans g3.vv
    refine hg U3 H'' σ' ρ' _ x _ _ I3 r3 z2 fun σ4 ρ4 I4 _ z4 => ?_
    exact hb U3 H'' σ4 ρ4 ⟨aLoop ag sa N (ds.drop (k + 1)), N.rt, N.nx, aLoop ag sa N (ds.drop (k + 1)), N.ex⟩ _ hx I4 z4
      ⟨fun U5 H5 σ5 ρ5 s5 I5 z5 => ⟨U5, ρ5, s3.trans s5, I5, z5⟩, P.rt, fun U5 H5 σ5 ρ5 s5 I5 z5 => P.nx U5 H5 σ5 ρ5 (g1.vv.trans (s3.trans s5)) I5 z5, fun U5 H5 σ5 ρ5 s5 I5 z5 => ⟨U5, ρ5, s3.trans s5, I5, z5⟩⟩
  · rintro σ' H' ⟨U', ρ', s, I', z2⟩
    rw [List.drop_length] at z2
    exact P.nx U' H' σ' ρ' (g1.vv.trans s) I' z2
end
end SW
namespace SW
open PySem PySem.Spec PyProof.Rows L2
variable [QN]
section
variable {c : DC} {U H U' H' : Hp} {σ : L2.St} {ρ : Env} {t u ta tb tc te ti : TE} {e a b ai : AE} {i j : Nat} {d : D} {v : V} {st su : TS} {sa sb : AS} {tt : TT} {at' : AT} {o : AO}
theorem SimI.w {wi : TI} {it : AL} (h : SimI c wi it) : SimIW c wi it := fun U H σ ρ Q q I z k => h U H σ ρ Q q I z fun U1 H1 J ds g1 I1 W z1 => by
  obtain ⟨Y, w, hY⟩ := W
  exact k U1 H1 J ds g1 I1 ⟨Y, w.mono (fun H'' ⟨U'', g⟩ => g.vv.trans g.vh) (fun _ _ _ _ _ _ y => y), hY⟩ z1
theorem yat {K : PySem.W.Frag} {ds : List D} {xs : List V} (r : Rs K U ds xs) {i : Nat} {H H' U2 : Hp} {x : V} {d : D} (s : Same U U2) (s2 : Same U2 H) (h : YAt xs i H x H') (e : ds[i]? = some d) : ∃ U3, Gr [] U2 H U3 H' ∧ R K U3 d x := by
  obtain ⟨rfl, hx⟩ := h
  obtain ⟨d', e1, r1⟩ := r.at' i x hx
  rw [e] at e1
  have e' := Option.some.inj e1
  subst e'
  exact ⟨U2, Gr.refl s2, R.mono s d x r1⟩
def aItL (e : AE) : AL := fun ρ Q X => e ρ (lstQ Q) X
def aItT (e : AE) : AL := fun ρ Q X => e ρ (tupQ Q) X
theorem sim_itL (h : SimE c te e) : SimI c (iList c.K te) (aItL e) := fun U H σ ρ Q q I z k => h U H σ ρ _ _ I z fun U1 H1 d v g1 I1 r1 z1 => by
  obtain ⟨ds, rfl, z2⟩ := lstQ_of z1
  obtain ⟨p, xs, rfl, hp, hr⟩ := r1
  refine ⟨p, rfl, ⟨xs, SqL.of (I1.vh _ _ hp)⟩, k U1 H1 _ ds g1 I1 ⟨YAt xs, ?_, fun i H x H' d U2 s s2 y e => yat hr s s2 y e⟩ z2⟩
  rw [hr.len]
  exact walk_list.mono (fun H s => SqL.of (s _ _ hp)) (fun _ _ _ _ _ _ y => y)
theorem sim_itT (h : SimE c te e) : SimI c (iTup c.K te) (aItT e) := fun U H σ ρ Q q I z k => h U H σ ρ _ _ I z fun U1 H1 d v g1 I1 r1 z1 => by
  obtain ⟨ds, rfl, z2⟩ := tupQ_of z1
  obtain ⟨p, xs, rfl, hp, hr⟩ := r1
  refine ⟨p, rfl, ⟨xs, Same.tup I1.vh hp⟩, k U1 H1 _ ds g1 I1 ⟨YAt xs, ?_, fun i H x H' d U2 s s2 y e => yat hr s s2 y e⟩ z2⟩
  rw [hr.len]
  exact walk_tup.mono (fun H s => Same.tup s hp) (fun _ _ _ _ _ _ y => y)
/-- it is in no draw -/
theorem own_dr : ∀ {ρ : Env} {σ : L2.St} {i : Nat} {av : AV} {v : V}, (owns ρ σ).Nodup → ρ[i]? = some (some av) → σ[i]? = some (some v) → av ≠ .dr → ∀ p ∈ own av v, p ∉ drs ρ σ
  | [], _, i, av, v, nd, h, k, n, p, hp => by simp at h
  | _ :: _, [], i, av, v, nd, h, k, n, p, hp => by simp at k
  | x :: ρ, y :: σ, 0, av, v, nd, h, k, n, p, hp => by
    have h' := Option.some.inj h
    have k' := Option.some.inj k
    subst h' k'
    intro z
    have z' : p ∈ drS (some av) (some v) ++ drs ρ σ := z
    have nd' : (own av v ++ owns ρ σ).Nodup := nd
    rcases List.mem_append.mp z' with z' | z'
    · unfold drS at z'
      split at z'
      · rename_i e _
        exact n (Option.some.inj e)
      · cases z'
    · exact (List.nodup_append.mp nd').2.2 p hp p (drs_sub p z') rfl
  | x :: ρ, y :: σ, i + 1, av, v, nd, h, k, n, p, hp => by
    intro z
    have nd' : (ownS x y ++ owns ρ σ).Nodup := nd
    obtain ⟨n1, n2, n3⟩ := List.nodup_append.mp nd'
    have z' : p ∈ drS x y ++ drs ρ σ := z
    rcases List.mem_append.mp z' with z' | z'
    · have m1 : p ∈ ownS x y := by
        unfold drS at z'
        split at z'
        · exact z'
        · cases z'
      exact n3 p m1 p (mem_owns (ρ := ρ) (σ := σ) h k p hp) rfl
    · exact own_dr n2 h k n p hp z'
/-- a slot's own list, in a comprehension -/
theorem sim_itLW (h : SimW c te e) : SimIW c (iList c.K te) (aItL e) := fun U H σ ρ Q q I z k => h U H σ ρ _ _ I z fun U1 H1 d v g1 I1 w1 z1 => by
  obtain ⟨ds, rfl, z2⟩ := lstQ_of z1
  rcases w1 with r1 | ⟨k1, av, v0, b, h1, h2, h4, h3⟩
  · obtain ⟨p, xs, rfl, hp, hr⟩ := r1
    refine ⟨p, rfl, ⟨xs, SqL.of (I1.vh _ _ hp)⟩, k U1 H1 _ ds g1 I1 ⟨YAt xs, ?_, fun i H x H' d U2 s s2 y e => yat hr s s2 y e⟩ z2⟩
    rw [hr.len]
    exact walk_list.mono (fun H ⟨U'', g⟩ => SqL.of (g.vh _ _ (g.vv _ _ hp))) (fun _ _ _ _ _ _ y => y)
  · obtain ⟨w, e1, e2, m⟩ := rep_at I1.rep k1 av h1
    rw [h2] at e1
    have e' := Option.some.inj (Option.some.inj e1)
    subst e'
    have nd : av ≠ .dr := fun z => by
      subst z
      rw [h4.dr] at h3
      cases h3
    have key : ∀ p xs, v = .ref p → H1 p = some (.lst xs) → Rs c.K U1 ds xs → p ∉ drs ρ σ → iList c.K (tC v) σ H1 q := fun p xs ev hp hr np => by
      subst ev
      refine ⟨p, rfl, ⟨xs, SqL.of hp⟩, k U1 H1 _ ds g1 I1 ⟨YAt xs, ?_, fun i H x H' d U2 s s2 y e => yat hr s s2 y e⟩ z2⟩
      rw [hr.len]
      exact walk_list.mono (fun H ⟨U'', g⟩ => SqL.of (g.hh _ _ np (ntb rfl) hp)) (fun _ _ _ _ _ _ y => y)
    have np : ∀ p ∈ own b v, p ∉ drs ρ σ := fun p hp => own_dr I1.nd h1 h2 nd p (h4.own e2 p hp)
    have e2 := h4.rep e2
    cases b <;> cases h3
    · obtain ⟨p, xs, e3, e4, e5⟩ := e2
      refine key p xs e3 (I1.vh _ _ e4) e5 ?_
      intro z
      have := (I1.out p (drs_sub p z)).1
      rw [e4] at this
      cases this
    · obtain ⟨p, xs, e3, e4, e5⟩ := e2
      exact key p xs e3 e4 e5 (np p (by rw [e3]; exact List.mem_singleton.mpr rfl))
    · obtain ⟨p, e3, e4, e5⟩ := e2
      exact key p _ e3 e4 (seens_r e5) (np p (by rw [e3]; exact List.mem_cons_self))
def intQ (Q : Int → Prop) : D → Prop
  | .int i => Q i
  | _ => False
theorem intQ_of {Q : Int → Prop} {d : D} (h : intQ Q d) : ∃ i, d = .int i ∧ Q i := by
  cases d <;> first | exact ⟨_, rfl, h⟩ | exact h.elim
def oneQ (Q : D → Prop) : List D → Prop
  | [d] => Q d
  | _ => False
theorem oneQ_of {Q : D → Prop} {ds : List D} (h : oneQ Q ds) : ∃ d, ds = [d] ∧ Q d := by
  unfold oneQ at h
  split at h
  · exact ⟨_, rfl, h⟩
  · exact h.elim
theorem paired1 {α β : Type} {F : α → β → Prop} {x : α} {vs : List β} (h : Paired F [x] vs) : ∃ v, vs = [v] ∧ F x v := by
  cases h with
  | cons h t => cases t; exact ⟨_, rfl, h⟩
theorem paired2 {α β : Type} {F : α → β → Prop} {x y : α} {vs : List β} (h : Paired F [x, y] vs) : ∃ v w, vs = [v, w] ∧ F x v ∧ F y w := by
  cases h with
  | cons h t =>
    obtain ⟨w, rfl, k⟩ := paired1 t
    exact ⟨_, w, rfl, h, k⟩
def rngD (lo : Int) (n : Nat) : List D := (List.range n).map fun i => .int (lo + (i : Nat))
def aRng1 (r : AL) : AL := fun ρ Q X => r ρ (oneQ (intQ fun j => (-(2 ^ 62) ≤ j ∧ j < 2 ^ 62) ∧ Q (rngD 0 j.toNat))) X
def aRng2 (r : AL) : AL := fun ρ Q X => r ρ (twoQ fun d e => intQ (fun i => intQ (fun j => (-(2 ^ 62) ≤ i ∧ i < 2 ^ 62 ∧ -(2 ^ 62) ≤ j ∧ j < 2 ^ 62) ∧ Q (rngD i (j - i).toNat)) e) d) X
theorem walks_rng {K : PySem.W.Frag} {G : Hp → Prop} (lo : Int) (n : Nat) : Walks K U (Itr lo n) (rngD lo n) G := by
  refine ⟨YFn fun i => .int (lo + i), ?_, fun i H x H' d U2 s s2 y e => ?_⟩
  · rw [show (rngD lo n).length = n by unfold rngD; rw [List.length_map, List.length_range]]
    exact walk_range.mono (fun _ _ => trivial) (fun _ _ _ _ _ _ y => y)
  · obtain ⟨rfl, rfl⟩ := y
    refine ⟨U2, Gr.refl s2, ?_⟩
    unfold rngD at e
    rw [List.getElem?_map] at e
    cases e2 : (List.range n)[i]? with
    | none => rw [e2] at e; cases e
    | some k =>
      rw [e2] at e
      obtain ⟨hk, e3⟩ := List.getElem?_eq_some_iff.mp e2
      rw [List.getElem_range] at e3
      subst e3
      cases e
      rfl
theorem sim_rng1 {tr : TA} {r : AL} (h : SimLW c tr r) : SimI c (iRng1 tr) (aRng1 r) := fun U H σ ρ Q q I z k => h U H σ ρ _ _ I z fun U1 H1 ds vs g1 I1 w1 z1 => by
  obtain ⟨d, rfl, z2⟩ := oneQ_of z1
  obtain ⟨j, rfl, z3⟩ := intQ_of z2
  obtain ⟨v, rfl, w⟩ := paired1 w1
  exact ⟨j, by rw [(Wk.cr w I1).int], z3.1.1, z3.1.2, k U1 H1 _ _ g1 I1 (walks_rng 0 j.toNat) z3.2⟩
def zipD (xs ys : List D) : List D := (xs.zip ys).map fun p => .tup [p.1, p.2]
def enumD (xs : List D) : List D := zipD ((List.range xs.length).map fun i => .int (i : Nat)) xs
def aZip (r : AL) : AL := fun ρ Q X => r ρ (twoQ fun d e => lstQ (fun xs => lstQ (fun ys => Q (zipD xs ys)) e) d) X
def aEnum (r : AL) : AL := fun ρ Q X => r ρ (oneQ (lstQ fun xs => Q (enumD xs))) X
def wipeA (ρ : Env) : List Nat → Env
  | [] => ρ
  | v :: vs => (wipeA ρ vs).set v none
def aComp (g : AG) (tt : AT) (te : AE) (ρ : Env) (X : Exn → Prop) : List D → List D → (List D → Prop) → Prop
  | [], acc, Q => Q acc
  | d :: r, acc, Q => g d ρ (fun ρ2 => tt ρ2 (fun b => cond b (te ρ2 (fun y => acc.length < 1000000 ∧ aComp g tt te ρ X r (acc ++ [y]) Q) X) (aComp g tt te ρ X r acc Q)) X)
def aLc (it : AL) (g : AG) (tt : AT) (te : AE) (vs : List Nat) : AO := fun ρ Q X => it ρ (fun ds => aComp g tt te (wipeA ρ vs) X ds [] (fun acc => Q (.ol acc))) X
def aYes : AT := fun _ Q _ => Q true
theorem sim_yes : SimT c tYes aYes := fun U H σ ρ Q q I z k => k U H true (Gr.refl I.vh) I z
theorem DI.setN (h : DI c U H σ ρ) {i : Nat} (hi : noPar c i = true) : DI c U H (σ.set i none) (ρ.set i none) := by
  have hs := owns_set_sub ρ σ i none none rfl
  refine ⟨h.gr, Paired.setAt (F := RepS c.K U H) (show RepS c.K U H none none from trivial) i h.rep, hs.nodup h.nd, fun p hp => h.out p (hs.mem hp), par_set (sel_set _ _ _ _ (noPar_of hi)) (sel_set _ _ _ _ (noPar_of hi)) h.par, h.ko, fun k av w e1 e2 p hp => ?_, by rw [List.length_set]; exact h.on⟩
  by_cases z : i = k
  · subst z
    rw [List.getElem?_set] at e1
    simp at e1
  · rw [List.getElem?_set_ne z] at e1 e2
    exact h.ow k av w e1 e2 p hp
theorem DI.wipe (h : DI c U H σ ρ) : ∀ {vs : List Nat}, (vs.all fun i => noPar c i) = true → DI c U H (L2.wipe σ vs) (wipeA ρ vs) ∧ (∀ p ∈ drs (wipeA ρ vs) (L2.wipe σ vs), p ∈ drs ρ σ) ∧ c.x (wipeA ρ vs) = c.x ρ
  | [], _ => ⟨h, fun _ z => z, rfl⟩
  | v :: vs, k => by
    rw [List.all_cons, Bool.and_eq_true] at k
    obtain ⟨i1, i2, i3⟩ := DI.wipe h (vs := vs) k.2
    exact ⟨i1.setN k.1, fun p hp => i2 p (drs_set _ _ v none none rfl p hp), (DC.x_set k.1).trans i3⟩
theorem wipe_at : ∀ {σ : L2.St} {vs : List Nat} (k : Nat), (wipe σ vs)[k]? = if k ∈ vs then (if k < σ.length then some none else none) else σ[k]?
  | σ, [], k => by simp [wipe]
  | σ, v :: vs, k => by
    unfold wipe
    rw [List.getElem?_set, wipe_length, wipe_at k]
    by_cases h : v = k
    · subst h
      simp
    · have h' : ¬ k = v := fun z => h z.symm
      simp [h, h']
theorem wipe_put {js vs : List Nat} {σ σ' : L2.St} {ρ ρ' : Env} (p : Put js (wipe σ vs) σ' ρ ρ') (h : ∀ j ∈ js, j ∈ vs) : wipe σ' vs = wipe σ vs := by
  refine List.ext_getElem? fun k => ?_
  rw [wipe_at, p.len, wipe_length]
  by_cases hk : k ∈ vs
  · rw [if_pos hk, wipe_at, if_pos hk]
  · rw [if_neg hk, p.at' k fun z => hk (h k z)]
theorem DI.mutFree {p : Addr} {x : HO} (I : DI c U H σ ρ) (nu : U p = none) (n0 : c.H0 p = none) (np : p ∉ owns ρ σ) (pl : Pl H p) : DI c U (upd H p x) σ ρ :=
  ⟨I.gr.mut nu (.inr n0) pl, reps_mut (fun q hq => (I.out q hq).1) np I.rep, I.nd, I.out, I.par, I.ko, I.ow, I.on⟩
/-- behind the walk's beginning -/
theorem lcw {js vs : List Nat} {g : TG} {ag : AG} {U H U1 H1 : Hp} {σ : L2.St} {ρ : Env} {Q : AV → Prop} {q : VK} {J : It} {ds : List D} (hg : SimG c js g ag) (ht : SimT c tt at') (he : SimE c te e) (hj : (js.all fun j => vs.contains j) = true) (hv : (vs.all fun i => noPar c i) = true)
    (g1 : Gr (drs ρ σ) U H U1 H1) (I1 : DI c U1 H1 σ ρ) (W : Walks c.K U1 J ds (fun H'' => ∃ U'', Gr (drs ρ σ) U1 H1 U'' H'')) (z1 : aComp ag at' e (wipeA ρ vs) (c.x ρ) ds [] (fun acc => Q (.ol acc)))
    (k : ∀ U' H' av v, Gr (drs ρ σ) U H U' H' → DI c U' H' σ ρ → RepA c.K U' H' av v → Fresh U' H av v → Q av → q v H') :
    tLc (fun _ H0 R => R J H0) g tt te vs σ H1 q := by
  obtain ⟨Y, w, hY⟩ := W
  intro Da nD
  have nD0 : H Da = none := g1.fresh nD
  have nDo : Da ∉ owns ρ σ := fun h => I1.ex Da h nD
  have nDd : Da ∉ drs ρ σ := fun h => nDo (drs_sub Da h)
  have nDH : c.H0 Da = none := I1.gr.fresh nD
  have hjs : ∀ j ∈ js, j ∈ vs := fun j hj' => by
    have := List.all_eq_true.mp hj j hj'
    exact List.contains_iff_mem.mp this
  refine lc_it (Qd := fun H' => q (.ref Da) H') w (fun n H' => ∃ U' acc accD, Gr (drs ρ σ) U1 H1 U' H' ∧ DI c U' H' σ ρ ∧ H' Da = some (.lst acc) ∧ U' Da = none ∧ Rs c.K U' accD acc ∧ aComp ag at' e (wipeA ρ vs) (c.x ρ) (ds.drop n) accD (fun acc => Q (.ol acc))) ?_ ?_ ?_ ?_
  · have g2 : Gr [] U1 H1 U1 (upd H1 Da (.lst [])) := (Gr.refl I1.vh).newM nD
    exact ⟨U1, [], [], g2.any, I1.grow g2, upd_same, I1.vh.free nD, rfl, z1⟩
  · rintro n H' hn ⟨U', acc, accD, gg, _⟩
    exact ⟨U', gg⟩
  · rintro n x H' H'' hn ⟨U', acc, accD, gg, I', hD, uD, hr, z2⟩ hy
    have ed : ds[n]? = some ds[n] := List.getElem?_eq_getElem hn
    obtain ⟨U3, g3, r3⟩ := hY n H' x H'' _ U' gg.vv I'.vh hy ed
    rw [drop_at ed] at z2
    have I3 := I'.grow g3
    obtain ⟨Iw, hdr, hxw⟩ := I3.wipe hv
    refine hg U3 H'' _ _ _ x _ _ Iw r3 z2 fun σ2 ρ2 I2 p2 z3 => ⟨wipe_put p2 hjs, ?_⟩
    have dr2 : ∀ p ∈ drs ρ2 σ2, p ∈ drs ρ σ := fun p hp => hdr p (p2.dr p hp)
    have hx2 : c.x ρ2 = c.x ρ := (p2.ex hv hjs).trans hxw
    rw [← hx2] at z3
    have uD3 : U3 Da = none := g3.fr Da uD (by rw [hD]; intro z; cases z)
    have hD3 := g3.hh _ _ (by simp) (ntb rfl) hD
    have drOf : ∀ {U5 H5 : Hp}, DI c U5 H5 σ2 ρ2 → ∀ p ∈ drs ρ2 σ2, p ∈ drs ρ σ ∧ Dr U5 H5 p := fun {U5 H5} I5 p hp => ⟨dr2 p hp, by
      have : ∀ {ρ : Env} {σ : L2.St}, Paired (RepS c.K U5 H5) ρ σ → ∀ p ∈ drs ρ σ, Dr U5 H5 p := by
        intro ρ σ h
        induction h with
        | nil => intro p hp; simp [drs] at hp
        | @cons a b ρ σ h t ih =>
          intro p hp
          have hp' : p ∈ drS a b ++ drs ρ σ := hp
          rcases List.mem_append.mp hp' with z | z
          · unfold drS at z
            split at z
            · obtain ⟨s, e1, e2⟩ := h
              have e' := V.ref.inj e1
              subst e'
              rw [List.mem_singleton.mp z]
              exact e2
            · cases z
          · exact ih p z
      exact this I5.rep p hp⟩
    refine ht U3 H'' σ2 ρ2 _ _ I2 z3 fun U5 H5 bo g5 I5 z5 => ?_
    have I5o := I3.step g5 (drOf I5)
    have n5 : Da ∉ drs ρ2 σ2 := fun h => nDd (dr2 Da h)
    have hD5 := g5.hh _ _ n5 (ntb rfl) hD3
    have uD5 : U5 Da = none := g5.fr Da uD3 (by rw [hD3]; intro z; cases z)
    have gg5 : Gr (drs ρ σ) U1 H1 U5 H5 := (gg.trans g3.any).trans (g5.weak dr2)
    cases bo with
    | false => exact i_itF ⟨U5, acc, accD, gg5, I5o, hD5, uD5, Rs.mono (g3.vv.trans g5.vv) _ _ hr, (by rw [← hx2]; exact z5)⟩
    | true =>
      refine i_itT (he U5 H5 σ2 ρ2 _ _ I5 z5 fun U6 H6 y vy g6 I6 r6 z6 => ?_)
      have I6o := I5o.step g6 (drOf I6)
      have hD6 := g6.hh _ _ n5 (ntb rfl) hD5
      have uD6 : U6 Da = none := g6.fr Da uD5 (by rw [hD5]; intro z; cases z)
      have hr6 := Rs.mono ((g3.vv.trans g5.vv).trans g6.vv) _ _ hr
      refine ⟨acc, hD6, lt_size (by rw [← hr.len]; exact z6.1), U6, acc ++ [vy], accD ++ [y], (gg5.trans (g6.weak dr2)).mut uD6 (.inr nD) (.of hD6 rfl), I6o.mutFree uD6 nDH nDo (.of hD6 rfl), upd_same, uD6, hr6.snoc r6, (by rw [← hx2]; exact z6.2)⟩
  · rintro H' ⟨U', acc, accD, gg, I', hD, uD, hr, z2⟩
    rw [List.drop_length] at z2
    exact k U' H' (.ol accD) (.ref Da) (g1.trans gg) I' ⟨Da, acc, rfl, hD, hr⟩ (.one rfl uD nD0) z2
theorem sim_lc {js vs : List Nat} {wi : TI} {it : AL} {g : TG} {ag : AG} (hi : SimIW c wi it) (hg : SimG c js g ag) (ht : SimT c tt at') (he : SimE c te e) (hj : (js.all fun j => vs.contains j) = true) (hv : (vs.all fun i => noPar c i) = true) :
    SimO c (tLc wi g tt te vs) (aLc it ag at' e vs) := fun U H σ ρ Q q I z k =>
  hi U H σ ρ _ _ I z fun U1 H1 J ds g1 I1 W z1 => lcw hg ht he hj hv g1 I1 W z1 k
end
end SW
namespace SW
open PySem PySem.Spec PyProof.Rows L2
variable [QN]
def AV.isDr : AV → Bool
  | .dr => true
  | _ => false
def bodyA (ks : List Bool) (nl : Nat) (a : AS) : AF := fun avs q x => avs.map AV.isDr = ks ∧ a ⟨fun _ => q (.fz .non), fun av _ => q av, fun _ => False, fun _ => False, fun e _ => x e⟩ (avs.map some ++ List.replicate nl none)
theorem owns_nil : ∀ (n m : Nat), owns (List.replicate n none) (List.replicate m none) = []
  | 0, m => rfl
  | n + 1, 0 => rfl
  | n + 1, m + 1 => owns_nil n m
theorem owns_args : ∀ (avs : List AV) (vs : List V) (n m : Nat), avs.length = vs.length → owns (avs.map some ++ List.replicate n none) (vs.map some ++ List.replicate m none) = ownAs avs vs
  | [], [], n, m, _ => owns_nil n m
  | a :: avs, v :: vs, n, m, h => by
    show own a v ++ owns (avs.map some ++ List.replicate n none) (vs.map some ++ List.replicate m none) = own a v ++ ownAs avs vs
    rw [owns_args avs vs n m (Nat.succ.inj h)]
theorem reps_args {K : PySem.W.Frag} {U H : Hp} (n : Nat) : ∀ {avs : List AV} {vs : List V}, Paired (RepA K U H) avs vs → Paired (RepS K U H) (avs.map some ++ List.replicate n none) (vs.map some ++ List.replicate n none)
  | _, _, .nil => by
    induction n with
    | zero => exact .nil
    | succ n ih => exact .cons trivial ih
  | _, _, .cons h t => .cons h (reps_args n t)
/-- the marked ones of a row with more behind it -/
theorem sel_map {α β : Type} (f : α → β) : ∀ (ks : List Bool) (xs : List α) (r : List β), ks.length = xs.length → selM ks (xs.map f ++ r) = (selM ks xs).map f
  | [], [], r, _ => by cases r <;> rfl
  | true :: ks, x :: xs, r, h => congrArg (f x :: ·) (sel_map f ks xs r (Nat.succ.inj h))
  | false :: ks, x :: xs, r, h => sel_map f ks xs r (Nat.succ.inj h)
/-- the marked ones hold all that is one's own -/
theorem sel_all : ∀ (avs : List AV) (vs : List V), avs.length = vs.length → ownAs (selM (avs.map AV.isOwn) avs) (selM (avs.map AV.isOwn) vs) = ownAs avs vs
  | [], [], _ => rfl
  | a :: avs, v :: vs, h => by
    have ih := sel_all avs vs (Nat.succ.inj h)
    cases a with
    | fz d =>
      show ownAs (selM (avs.map AV.isOwn) avs) (selM (avs.map AV.isOwn) vs) = own (.fz d) v ++ ownAs avs vs
      rw [ih]
      cases v <;> rfl
    | _ =>
      show own _ v ++ ownAs (selM (avs.map AV.isOwn) avs) (selM (avs.map AV.isOwn) vs) = own _ v ++ ownAs avs vs
      rw [ih]
/-- parameters that are not marked hold nothing of one's own -/
theorem args_nw {avs : List AV} {nl i : Nat} {av : AV} {v : V} (h : (avs.map AV.isOwn).getD i false = false) (e : (avs.map some ++ List.replicate nl none)[i]? = some (some av)) : own av v = [] := by
  rw [List.getElem?_append, List.length_map] at e
  split at e
  · rw [List.getElem?_map] at e
    cases ea : avs[i]? with
    | none => rw [ea] at e; cases e
    | some a =>
      rw [ea] at e
      cases e
      rw [List.getD, List.getElem?_map, ea] at h
      have h' : av.isOwn = false := h
      cases av with
      | fz d => cases v <;> rfl
      | _ => cases h'
  · rw [List.getElem?_replicate] at e
    split at e <;> cases e
/-- each slot's own places -/
def ownL : Env → L2.St → List (List Addr)
  | a :: ρ, v :: σ => ownS a v :: ownL ρ σ
  | _, _ => []
theorem ownL_len : ∀ {ρ : Env} {σ : L2.St}, ρ.length = σ.length → (ownL ρ σ).length = σ.length
  | [], [], _ => rfl
  | a :: ρ, v :: σ, h => congrArg (· + 1) (ownL_len (Nat.succ.inj h))
theorem ownL_at : ∀ {ρ : Env} {σ : L2.St} {i : Nat} {av : AV} {v : V}, ρ[i]? = some (some av) → σ[i]? = some (some v) → (ownL ρ σ).getD i [] = own av v
  | [], _, i, av, v, h, _ => by simp at h
  | _ :: _, [], i, av, v, _, h => by simp at h
  | a :: ρ, w :: σ, 0, av, v, h1, h2 => by
    have e1 := Option.some.inj h1
    have e2 := Option.some.inj h2
    subst e1 e2
    rfl
  | a :: ρ, w :: σ, i + 1, av, v, h1, h2 => ownL_at (ρ := ρ) (σ := σ) (i := i) h1 h2
theorem ownL_no : ∀ {ρ : Env} {σ : L2.St} {i : Nat}, (ρ[i]? = none ∨ ρ[i]? = some none) → (ownL ρ σ).getD i [] = []
  | [], _, i, _ => by unfold ownL; rfl
  | _ :: _, [], i, _ => by unfold ownL; rfl
  | a :: ρ, w :: σ, 0, h => by
    rcases h with h | h
    · cases h
    · have e1 := Option.some.inj h
      subst e1
      rfl
  | a :: ρ, w :: σ, i + 1, h => ownL_no (ρ := ρ) (σ := σ) (i := i) h
/-- where a def's body begins -/
theorem start_DI {K : PySem.W.Frag} {U H : Hp} {avs : List AV} {vs : List V} {nl : Nat} {X : Exn → List (Option AV) → Prop} {E : XK} {tb : List Addr} (sU : Same U H) (rep : Paired (RepA K U H) avs vs) (nd : (ownAs avs vs).Nodup) (out : ∀ p ∈ ownAs avs vs, U p = none) (ok : DC.Ok ⟨K, avs.map AV.isOwn, (selM (avs.map AV.isOwn) avs).map AV.kind, selM (avs.map AV.isOwn) vs, ownL (avs.map some ++ List.replicate nl none) (vs.map some ++ List.replicate nl none), ownAs avs vs, U, H, X, fun _ => E, tb⟩) :
    DI ⟨K, avs.map AV.isOwn, (selM (avs.map AV.isOwn) avs).map AV.kind, selM (avs.map AV.isOwn) vs, ownL (avs.map some ++ List.replicate nl none) (vs.map some ++ List.replicate nl none), ownAs avs vs, U, H, X, fun _ => E, tb⟩ U H (vs.map some ++ List.replicate nl none) (avs.map some ++ List.replicate nl none) := by
  have lv : avs.length = vs.length := rep.length
  refine ⟨Gr.refl sU, reps_args nl rep, ?_, ?_, ⟨?_, selM (avs.map AV.isOwn) avs, ?_, rfl⟩, ok, fun i av v e1 e2 p hp => .inl (by rw [ownL_at e1 e2]; exact hp), ?_, fun i hn => ?_⟩
  · rw [owns_args avs vs nl nl lv]
    exact nd
  · rw [owns_args avs vs nl nl lv]
    exact fun p hp => ⟨out p hp, .inl hp⟩
  · exact sel_map some _ vs _ (by rw [List.length_map]; exact lv)
  · exact sel_map some _ avs _ (by rw [List.length_map])
  · rw [ownL_len (reps_args nl rep).length]
  · cases e1 : (avs.map some ++ List.replicate nl none)[i]? with
    | none => exact ownL_no (.inl e1)
    | some a =>
      cases a with
      | none => exact ownL_no (.inr e1)
      | some av =>
        obtain ⟨v, e2, _⟩ := rep_at (reps_args nl rep) i av e1
        rw [ownL_at e1 e2]
        exact args_nw (noPar_of hn) e1
theorem isDr_own : ∀ {avs : List AV}, (∀ a ∈ avs, a = .dr ∨ ∃ d, a = .fz d) → avs.map AV.isOwn = avs.map AV.isDr
  | [], _ => rfl
  | a :: avs, h => by
    rw [List.map_cons, List.map_cons, isDr_own fun x hx => h x (List.mem_cons_of_mem _ hx)]
    rcases h a List.mem_cons_self with rfl | ⟨d, rfl⟩ <;> rfl
theorem kind_dr : ∀ {avs bs : List AV}, (∀ a ∈ avs, a = .dr) → bs.map AV.kind = avs.map AV.kind → ∀ b ∈ bs, b = .dr
  | [], [], _, _, b, hb => by cases hb
  | [], b' :: bs, _, e, b, hb => by cases e
  | a :: avs, [], _, e, b, hb => by cases hb
  | a :: avs, b' :: bs, h, e, b, hb => by
    have e' := List.cons.inj e
    obtain ⟨e1, e2⟩ := e'
    rcases List.mem_cons.mp hb with rfl | hb
    · rw [h a List.mem_cons_self] at e1
      cases b <;> first | rfl | cases e1
    · exact kind_dr (fun x hx => h x (List.mem_cons_of_mem _ hx)) e2 b hb
theorem sel_dr : ∀ {avs : List AV}, (∀ a ∈ avs, a = .dr ∨ ∃ d, a = .fz d) → ∀ a ∈ selM (avs.map AV.isOwn) avs, a = .dr
  | [], _, a, ha => by cases ha
  | x :: avs, h, a, ha => by
    have ih := sel_dr (avs := avs) fun y hy => h y (List.mem_cons_of_mem _ hy)
    rcases h x List.mem_cons_self with rfl | ⟨d, rfl⟩
    · rcases List.mem_cons.mp ha with rfl | ha
      · rfl
      · exact ih a ha
    · exact ih a ha
theorem reps_dr {K : PySem.W.Frag} {U H : Hp} : ∀ {bs : List AV} {vs : List V}, RepAs K U H bs vs → (∀ b ∈ bs, b = .dr) → ownAs bs vs = ownAs (bs.map fun _ => .dr) vs ∧ ∀ p ∈ ownAs bs vs, Dr U H p
  | [], _, h, _ => by
    rw [show _ = [] from h]
    exact ⟨rfl, fun p hp => by cases hp⟩
  | b :: bs, _, ⟨v, r, e, h1, h2⟩, k => by
    subst e
    have e1 := k b List.mem_cons_self
    subst e1
    obtain ⟨i1, i2⟩ := reps_dr h2 fun x hx => k x (List.mem_cons_of_mem _ hx)
    refine ⟨by show own .dr v ++ ownAs bs r = own .dr v ++ ownAs (bs.map fun _ => .dr) r; rw [i1], fun p hp => ?_⟩
    rcases List.mem_append.mp hp with z | z
    · obtain ⟨s, rfl, d⟩ := h1
      rw [List.mem_singleton.mp z]
      exact d
    · exact i2 p z
theorem run_body {K : PySem.W.Frag} {ks : List Bool} {nl : Nat} {a : AS} {vs : List V} {H : Hp} {Q : VK} {E : XK} {t : TS} {σ : L2.St} {tb : List Addr} (h : spD K tb (bodyA ks nl a) vs H Q E) (hσ : σ = vs.map some ++ List.replicate nl none) (hs : ∀ pk pv O M U0 H0 X, SimS ⟨K, ks, pk, pv, O, M, U0, H0, X, fun _ => E, tb⟩ t a) :
    t { nx := fun _ H' => Q .non H', rt := Q } σ H := by
  obtain ⟨U, avs, q, x, sU, tbs, rep, kd, l1, ⟨hk, hb⟩, kq, kx⟩ := h
  subst hσ
  have lv : avs.length = vs.length := rep.length
  have dr := dr_args rep kd
  have ek : avs.map AV.isOwn = ks := (isDr_own kd).trans hk
  have nd : (ownAs avs vs).Nodup := by
    match ownAs avs vs, l1 with
    | [], _ => simp
    | [p], _ => simp
  have pdr : ∀ {U' H' : Hp} {as : List (Option AV)}, ParRep ⟨K, avs.map AV.isOwn, (selM (avs.map AV.isOwn) avs).map AV.kind, selM (avs.map AV.isOwn) vs, ownL (avs.map some ++ List.replicate nl none) (vs.map some ++ List.replicate nl none), ownAs avs vs, U, H, fun e _ => x e, fun _ => E, tb⟩ U' H' as → ∀ p ∈ ownAs avs vs, Dr U' H' p := fun {U' H' as} pr => by
    obtain ⟨bs, _, r, k, _⟩ := pr.ex
    have hb := kind_dr (sel_dr kd) k
    obtain ⟨o1, o2⟩ := reps_dr r hb
    have e0 := sel_all avs vs lv
    obtain ⟨o3, _⟩ := reps_dr (K := K) (U := U) (H := H) (bs := selM (avs.map AV.isOwn) avs) (vs := selM (avs.map AV.isOwn) vs) (by
      have go : ∀ (ks : List Bool) {as : List AV} {ws : List V}, Paired (RepA K U H) as ws → RepAs K U H (selM ks as) (selM ks ws) := by
        intro ks
        induction ks with
        | nil => intro as ws h; cases h <;> rfl
        | cons b ks ih =>
          intro as ws h
          cases h with
          | nil => cases b <;> rfl
          | cons h t => cases b with
            | true => exact ⟨_, _, rfl, h, ih t⟩
            | false => exact ih t
      exact go _ rep) (sel_dr kd)
    have len : bs.length = (selM (avs.map AV.isOwn) avs).length := by
      have := congrArg List.length k
      rwa [List.length_map, List.length_map] at this
    have em : bs.map (fun _ => AV.dr) = (selM (avs.map AV.isOwn) avs).map (fun _ => AV.dr) := by
      rw [List.map_const', List.map_const', len]
    intro p hp
    rw [← e0, o3, ← em, ← o1] at hp
    exact o2 p hp
  have I := start_DI (K := K) (nl := nl) (X := fun e _ => x e) (E := E) sU rep nd (fun p hp => (dr p hp).out) ⟨fun U' H' _ as ex cls o _ _ g pr xr z => kx U' H' ex cls o g xr (pdr pr) z, tbs⟩
  have hs' : SimS ⟨K, avs.map AV.isOwn, (selM (avs.map AV.isOwn) avs).map AV.kind, selM (avs.map AV.isOwn) vs, ownL (avs.map some ++ List.replicate nl none) (vs.map some ++ List.replicate nl none), ownAs avs vs, U, H, fun e _ => x e, fun _ => E, tb⟩ t a := by rw [ek]; exact hs _ _ _ _ _ _ _
  refine hs' U H _ _ _ _ rfl I hb ⟨?_, ?_, ?_, ?_⟩
  · exact fun U' H' σ' ρ' _ I z => kq U' H' (.fz .non) .non I.gr rfl .fz (pdr I.pars) z
  · exact fun U' H' σ' ρ' av v I r n1 n z => kq U' H' av v I.gr r ⟨n1, fun p hp => ⟨(n p hp).1, (n p hp).2.1⟩⟩ (pdr I.pars) z
  · exact fun U' H' σ' ρ' _ I z => z.elim
  · exact fun U' H' σ' ρ' _ I z => z.elim
theorem spD_len {K : PySem.W.Frag} {ks : List Bool} {nl : Nat} {a : AS} {vs : List V} {H : Hp} {Q : VK} {E : XK} {tb : List Addr} (h : spD K tb (bodyA ks nl a) vs H Q E) : vs.length = ks.length := by
  obtain ⟨U, avs, q, x, sU, tbs, rep, kd, l1, ⟨hk, hb⟩, kq, kx⟩ := h
  rw [← rep.length, ← hk, List.length_map]
end SW
namespace SW
open PySem PySem.Spec PyProof.Rows L2
variable [QN]
section
variable {K : PySem.W.Frag} {U H U' H' : Hp}
def oI (g : Int → Int → D) : D → D → (D → Prop) → Prop := fun d e Q => intQ (fun i => intQ (fun j => Q (g i j)) e) d
def oIC (C : Int → Int → Prop) (g : Int → Int → D) : D → D → (D → Prop) → Prop := fun d e Q => intQ (fun i => intQ (fun j => C i j ∧ Q (g i j)) e) d
theorem op_i0 {gV : Int → Int → V} {gD : Int → Int → D} (h : ∀ i j U, R K U (gD i j) (gV i j)) : OpD K (rI0 gV) (oI gD) := fun U H v w d e Q q s cd ce z k => by
  obtain ⟨i, rfl, y⟩ := intQ_of z
  obtain ⟨j, rfl, y2⟩ := intQ_of y
  exact ⟨i, j, cd.int, ce.int, k U H _ _ (Gr.refl s) (h i j U) y2⟩
theorem op_ic {C : Int → Int → Prop} {gV : Int → Int → V} {gD : Int → Int → D} (h : ∀ i j U, R K U (gD i j) (gV i j)) : OpD K (rI C gV) (oIC C gD) := fun U H v w d e Q q s cd ce z k => by
  obtain ⟨i, rfl, y⟩ := intQ_of z
  obtain ⟨j, rfl, z1, y2⟩ := intQ_of y
  exact ⟨i, j, cd.int, ce.int, z1, k U H _ _ (Gr.refl s) (h i j U) y2⟩
def oU (g : Int → D) : D → (D → Prop) → Prop := fun d Q => intQ (fun i => Q (g i)) d
theorem un_i {gV : Int → V} {gD : Int → D} (h : ∀ i U, R K U (gD i) (gV i)) : UnD K (rU gV) (oU gD) := fun U H v d Q q s cd z k => by
  obtain ⟨i, rfl, z⟩ := intQ_of z
  exact ⟨i, cd.int, k U H _ _ (Gr.refl s) (h i U) z⟩
abbrev oAdd := oI fun i j => .int (i + j)
abbrev oSub := oI fun i j => .int (i - j)
abbrev oMul := oIC CMul fun i j => .int (i * j)
abbrev oDiv := oIC CDiv fun i j => .int (i / j)
abbrev oMod := oIC (fun _ j => 0 < j) fun i j => .int (i % j)
abbrev oLt := oI fun i j => .bl (decide (i < j))
abbrev oLe := oI fun i j => .bl (decide (i ≤ j))
abbrev oGt := oI fun i j => .bl (decide (j < i))
abbrev oGe := oI fun i j => .bl (decide (j ≤ i))
abbrev oNeg := oU fun i => .int (-i)
def eqS : D → D → Option Bool
  | .int a, .int b => some (decide (a = b))
  | .str a, .str b => some (decide (a = b))
  | .bl a, .bl b => some (decide (a = b))
  | .non, .non => some true
  | .non, .int _ => some false
  | .int _, .non => some false
  | .non, .bl _ => some false
  | .bl _, .non => some false
  | .non, .str _ => some false
  | .str _, .non => some false
  | .int _, .str _ => some false
  | .str _, .int _ => some false
  | .bl _, .str _ => some false
  | .str _, .bl _ => some false
  | _, _ => none
def someQ {α : Type} (Q : α → Prop) : Option α → Prop
  | some x => Q x
  | none => False
theorem someQ_of {α : Type} {Q : α → Prop} {o : Option α} (h : someQ Q o) : ∃ x, o = some x ∧ Q x := by
  cases o with
  | none => exact h.elim
  | some x => exact ⟨x, rfl, h⟩
theorem decide_inj {α β : Type} [DecidableEq α] [DecidableEq β] {f : α → β} (hf : ∀ a b, f a = f b → a = b) (a b : α) : decide (f a = f b) = decide (a = b) := by
  by_cases h : a = b
  · rw [decide_eq_true h, decide_eq_true (congrArg f h)]
  · rw [decide_eq_false h, decide_eq_false (fun z => h (hf a b z))]
theorem eqS_of {d e : D} {v w : V} {b : Bool} (cd : CR K U H d v) (ce : CR K U H e w) (h : eqS d e = some b) : scal v w = true ∧ decide (v = w) = b := by
  unfold eqS at h
  split at h <;> first
    | (cases h; rw [cd.int, ce.int]; exact ⟨rfl, decide_inj (fun _ _ => V.int.inj) _ _⟩)
    | (cases h; rw [cd.str, ce.str]; exact ⟨rfl, decide_inj (fun _ _ => V.str.inj) _ _⟩)
    | (cases h; rw [cd.bl, ce.bl]; exact ⟨rfl, decide_inj (fun _ _ => V.bl.inj) _ _⟩)
    | (cases h; rw [cd.non, ce.non]; exact ⟨rfl, rfl⟩)
    | (cases h; rw [cd.non, ce.int]; exact ⟨rfl, rfl⟩)
    | (cases h; rw [cd.int, ce.non]; exact ⟨rfl, rfl⟩)
    | (cases h; rw [cd.non, ce.bl]; exact ⟨rfl, rfl⟩)
    | (cases h; rw [cd.bl, ce.non]; exact ⟨rfl, rfl⟩)
    | (cases h; rw [cd.non, ce.str]; exact ⟨rfl, rfl⟩)
    | (cases h; rw [cd.str, ce.non]; exact ⟨rfl, rfl⟩)
    | (cases h; rw [cd.int, ce.str]; exact ⟨rfl, rfl⟩)
    | (cases h; rw [cd.str, ce.int]; exact ⟨rfl, rfl⟩)
    | (cases h; rw [cd.bl, ce.str]; exact ⟨rfl, rfl⟩)
    | (cases h; rw [cd.str, ce.bl]; exact ⟨rfl, rfl⟩)
    | cases h
def oEq : D → D → (D → Prop) → Prop := fun d e Q => someQ (fun b => Q (.bl b)) (eqS d e)
def oNe : D → D → (D → Prop) → Prop := fun d e Q => someQ (fun b => Q (.bl (!b))) (eqS d e)
theorem op_eqS : OpD K rEq oEq := fun U H v w d e Q q s cd ce z k => by
  obtain ⟨b, h, z⟩ := someQ_of z
  obtain ⟨h1, h2⟩ := eqS_of cd ce h
  refine ⟨h1, ?_⟩
  rw [h2]
  exact k U H (.bl b) _ (Gr.refl s) rfl z
theorem op_neS : OpD K rNe oNe := fun U H v w d e Q q s cd ce z k => by
  obtain ⟨b, h, z⟩ := someQ_of z
  obtain ⟨h1, h2⟩ := eqS_of cd ce h
  refine ⟨h1, ?_⟩
  rw [h2]
  exact k U H (.bl (!b)) _ (Gr.refl s) rfl z
def isNonD : D → Bool
  | .non => true
  | _ => false
def nonQ (P : Prop) : D → Prop
  | .non => P
  | _ => False
def oIsN : D → D → (D → Prop) → Prop := fun d e Q => nonQ (Q (.bl (isNonD d))) e
def oNotN : D → D → (D → Prop) → Prop := fun d e Q => nonQ (Q (.bl (!isNonD d))) e
def flatD : D → Bool
  | .non => true
  | .bl _ => true
  | .int _ => true
  | .str _ => true
  | _ => false
def eqF : D → D → Bool
  | .non, .non => true
  | .bl a, .bl b => a == b
  | .bl a, .int b => (if a then 1 else 0) == b
  | .int a, .bl b => a == (if b then 1 else 0)
  | .int a, .int b => a == b
  | .str a, .str b => a == b
  | _, _ => false
theorem flat_r {d : D} {v : V} (h : flatD d = true) (r : R K U d v) : flatV v = true := by
  cases d <;> first | (rw [show v = _ from r]; rfl) | cases h
theorem eqF_r {d e : D} {v w : V} (h : flatD d = true) (h' : flatD e = true) (r : R K U d v) (r' : R K U e w) : eqV v w = eqF d e := by
  cases d <;> first | (rw [show v = _ from r]; cases e <;> first | (rw [show w = _ from r']; rfl) | cases h') | cases h
def inF (d : D) (ds : List D) : Bool := ds.any fun y => eqF y d
theorem inF_r {d : D} {v : V} (hd : flatD d = true) (r : R K U d v) : ∀ {ds : List D} {xs : List V}, Rs K U ds xs → ds.all flatD = true → xs.all flatV = true ∧ inV v xs = inF d ds
  | [], _, h, _ => by
    rw [show _ = [] from h]
    exact ⟨rfl, rfl⟩
  | e :: ds, _, ⟨w, ws, h1, h2, h3⟩, hf => by
    subst h1
    rw [List.all_cons, Bool.and_eq_true] at hf
    obtain ⟨k1, k2⟩ := inF_r hd r h3 hf.2
    refine ⟨by rw [List.all_cons, flat_r hf.1 h2, k1]; rfl, ?_⟩
    show (eqV w v || inV v ws) = (eqF e d || inF d ds)
    rw [k2, eqF_r hf.1 hd h2 r]
def seqQ (Q : List D → Prop) : D → Prop
  | .lst ds => Q ds
  | .tup ds => Q ds
  | _ => False
theorem seqQ_of {Q : List D → Prop} {d : D} (h : seqQ Q d) : ∃ ds, (d = .lst ds ∨ d = .tup ds) ∧ Q ds := by
  cases d <;> first | exact ⟨_, .inl rfl, h⟩ | exact ⟨_, .inr rfl, h⟩ | exact h.elim
theorem CR.flat {d : D} {v : V} (h : CR K U H d v) (f : flatD d = true) : R K U d v := by
  obtain ⟨av, h1, h2⟩ := h
  cases av <;> first | (cases h2; exact h1) | (cases h2; cases f) | cases h2
theorem CR.seq {d : D} {v : V} {ds : List D} (h : CR K U H d v) (s : Same U H) (e : d = .lst ds ∨ d = .tup ds) : ∃ a xs, v = .ref a ∧ (SqL K H a xs ∨ SqT K H a xs) ∧ Rs K U ds xs := by
  rcases e with rfl | rfl
  · obtain ⟨a, xs, h1, h2, h3⟩ := h.lst s
    exact ⟨a, xs, h1, .inl (SqL.of h2), h3⟩
  · obtain ⟨a, xs, h1, h2, h3⟩ := h.tup s
    exact ⟨a, xs, h1, .inr h2, h3⟩
def oIn : D → D → (D → Prop) → Prop := fun d e Q => seqQ (fun ds => flatD d = true ∧ ds.all flatD = true ∧ Q (.bl (inF d ds))) e
def oNotIn : D → D → (D → Prop) → Prop := fun d e Q => seqQ (fun ds => flatD d = true ∧ ds.all flatD = true ∧ Q (.bl (!inF d ds))) e
theorem op_inS' : OpD K (rIn K false) oIn := fun U H v w d e Q q s cd ce z k => by
  obtain ⟨ds, he, z1, z2, z⟩ := seqQ_of z
  obtain ⟨a, xs, rfl, h1, h2⟩ := ce.seq s he
  have r := cd.flat z1
  obtain ⟨k1, k2⟩ := inF_r z1 r h2 z2
  refine ⟨a, xs, rfl, h1, flat_r z1 r, k1, ?_⟩
  rw [k2]
  exact k U H (.bl _) _ (Gr.refl s) rfl z
theorem op_notInS' : OpD K (rIn K true) oNotIn := fun U H v w d e Q q s cd ce z k => by
  obtain ⟨ds, he, z1, z2, z⟩ := seqQ_of z
  obtain ⟨a, xs, rfl, h1, h2⟩ := ce.seq s he
  have r := cd.flat z1
  obtain ⟨k1, k2⟩ := inF_r z1 r h2 z2
  refine ⟨a, xs, rfl, h1, flat_r z1 r, k1, ?_⟩
  rw [k2]
  exact k U H (.bl _) _ (Gr.refl s) rfl z
theorem atI_r {ds : List D} {xs : List V} {k : Int} {d : D} (r : Rs K U ds xs) (h : atI ds k = some d) : ∃ v, atI xs k = some v ∧ R K U d v := by
  unfold atI at h ⊢
  rw [← r.len]
  cases e : ixN ds.length k with
  | none => rw [e] at h; cases h
  | some j =>
    rw [e] at h
    obtain ⟨v, h1, h2⟩ := r.at j d h
    exact ⟨v, h1, h2⟩
def oIxL : D → D → (D → Prop) → Prop := fun d e Q => lstQ (fun ds => intQ (fun k => someQ Q (atI ds k)) e) d
def oIxT : D → D → (D → Prop) → Prop := fun d e Q => tupQ (fun ds => intQ (fun k => someQ Q (atI ds k)) e) d
theorem op_ixL : OpD K (rIxL K) oIxL := fun U H v w d e Q q s cd ce z k => by
  obtain ⟨ds, rfl, z⟩ := lstQ_of z
  obtain ⟨i, rfl, z⟩ := intQ_of z
  obtain ⟨x, h, z⟩ := someQ_of z
  obtain ⟨a, xs, rfl, h1, h2⟩ := cd.lst s
  obtain ⟨u, e1, e2⟩ := atI_r h2 h
  exact ⟨a, xs, i, u, rfl, ce.int, SqL.of h1, e1, k U H x u (Gr.refl s) e2 z⟩
theorem op_ixT : OpD K (rIxT K) oIxT := fun U H v w d e Q q s cd ce z k => by
  obtain ⟨ds, rfl, z⟩ := tupQ_of z
  obtain ⟨i, rfl, z⟩ := intQ_of z
  obtain ⟨x, h, z⟩ := someQ_of z
  obtain ⟨a, xs, rfl, h1, h2⟩ := cd.tup s
  obtain ⟨u, e1, e2⟩ := atI_r h2 h
  exact ⟨a, xs, i, u, rfl, ce.int, h1, e1, k U H x u (Gr.refl s) e2 z⟩
def strQ (Q : Str → Prop) : D → Prop
  | .str x => Q x
  | _ => False
theorem strQ_of {Q : Str → Prop} {d : D} (h : strQ Q d) : ∃ x, d = .str x ∧ Q x := by
  cases d <;> first | exact ⟨_, rfl, h⟩ | exact h.elim
def oIxS : D → D → (D → Prop) → Prop := fun d e Q => strQ (fun x => x.length ≤ 1000000 ∧ intQ (fun k => someQ (fun c => Q (.str ⟨#[c]⟩)) (atI x.cps.toList k)) e) d
theorem op_ixS : OpD K rIxS oIxS := fun U H v w d e Q q s cd ce z k => by
  obtain ⟨x, rfl, z1, z⟩ := strQ_of z
  obtain ⟨i, rfl, z⟩ := intQ_of z
  obtain ⟨c, h, z⟩ := someQ_of z
  exact ⟨x, i, c, cd.str, ce.int, le_size z1, h, k U H (.str _) _ (Gr.refl s) rfl z⟩
def oCat : D → D → (AV → Prop) → Prop := fun d e Q => lstQ (fun xs => lstQ (fun ys => xs.length + ys.length ≤ 1000000 ∧ Q (.ol (xs ++ ys))) e) d
theorem own_new {p : Addr} {xs : List V} {ds : List D} {q : VK} {Q : AV → Prop} (s : Same U H) (n : H p = none) (r : Rs K U ds xs) (z : Q (.ol ds))
    (k : ∀ U' H' av u, Gr [] U H U' H' → RepA K U' H' av u → Fresh U' H av u → Q av → q u H') : q (.ref p) (upd H p (.lst xs)) :=
  k U _ (.ol ds) (.ref p) ((Gr.refl s).newM n) ⟨p, xs, rfl, upd_same, r⟩ (.one rfl (s.free n) n) z
theorem op_catD : OpO K rCat oCat := fun U H v w d e Q q s cd ce z k => by
  obtain ⟨xs, rfl, y⟩ := lstQ_of z
  obtain ⟨ys, rfl, z1, z⟩ := lstQ_of y
  obtain ⟨a, us, rfl, h1, h2⟩ := cd.lst s
  obtain ⟨b, ws, rfl, h3, h4⟩ := ce.lst s
  exact ⟨a, b, us, ws, rfl, rfl, h1, h3, le_size (by rw [← h2.len, ← h4.len]; exact z1), fun p np => own_new s np (h2.app h4) z k⟩
def oCatT : D → D → (D → Prop) → Prop := fun d e Q => tupQ (fun xs => tupQ (fun ys => xs.length + ys.length ≤ 1000000 ∧ Q (.tup (xs ++ ys))) e) d
theorem op_catTD : OpD K (rCatA K) oCatT := fun U H v w d e Q q s cd ce z k => by
  obtain ⟨xs, rfl, y⟩ := tupQ_of z
  obtain ⟨ys, rfl, z1, z⟩ := tupQ_of y
  have cd' := cd.tup s
  have ce' := ce.tup s
  have rd := cd.tupR
  have re := ce.tupR
  obtain ⟨a, us, rfl, h1, h2⟩ := cd'
  obtain ⟨b, ws, rfl, h3, h4⟩ := ce'
  refine ⟨a, b, us, ws, rfl, rfl, h1, h3, le_size (by rw [← h2.len, ← h4.len]; exact z1), fun e0 => ?_, fun _ e0 => ?_, fun _ _ p np => ?_⟩
  · have : xs = [] := List.length_eq_zero_iff.mp (by rw [h2.len, e0]; rfl)
    subst this
    exact k U H _ _ (Gr.refl s) re z
  · have : ys = [] := List.length_eq_zero_iff.mp (by rw [h4.len, e0]; rfl)
    subst this
    rw [List.append_nil] at z
    exact k U H _ _ (Gr.refl s) rd z
  · have g := (Gr.refl (M := []) s).new (o := .tup (us ++ ws)) np
    exact k _ _ (.tup (xs ++ ys)) (.ref p) g (R.tup upd_same (Rs.mono g.vv _ _ (h2.app h4))) z
def oLen : List D → (D → Prop) → Prop := oneQ₂ where
  oneQ₂ : List D → (D → Prop) → Prop := fun ds Q => oneQ (seqQ fun xs => Q (.int xs.length)) ds
theorem bu_len : BuD K (rLenK K) oLen := fun U H vs ds Q q s r z k => by
  obtain ⟨d, rfl, z⟩ := oneQ_of z
  obtain ⟨xs, e, z⟩ := seqQ_of z
  obtain ⟨v, rfl, c⟩ := paired1 r
  obtain ⟨a, us, rfl, h1, h2⟩ := c.seq s e
  refine ⟨a, us, rfl, h1, ?_⟩
  rw [← h2.len]
  exact k U H (.int _) _ (Gr.refl s) rfl z
def oList : List D → (AV → Prop) → Prop := fun ds Q => oneQ (seqQ fun xs => Q (.ol xs)) ds
theorem bu_list : BuO K (rListK K) oList := fun U H vs ds Q q s r z k => by
  obtain ⟨d, rfl, z⟩ := oneQ_of z
  obtain ⟨xs, e, z⟩ := seqQ_of z
  obtain ⟨v, rfl, c⟩ := paired1 r
  obtain ⟨a, us, rfl, h1, h2⟩ := c.seq s e
  exact ⟨a, us, rfl, h1, fun p np => own_new s np h2 z k⟩
def oTuple : List D → (D → Prop) → Prop := fun ds Q => oneQ (seqQ fun xs => Q (.tup xs)) ds
theorem bu_tuple : BuD K (rTupleK K) oTuple := fun U H vs ds Q q s r z k => by
  obtain ⟨d, rfl, z⟩ := oneQ_of z
  obtain ⟨xs, e, z⟩ := seqQ_of z
  obtain ⟨v, rfl, c⟩ := paired1 r
  rcases e with rfl | rfl
  · obtain ⟨a, us, rfl, h1, h2⟩ := c.lst s
    refine ⟨a, us, rfl, .inl ⟨SqL.of h1, fun p np => ?_⟩⟩
    have g := (Gr.refl (M := []) s).new (o := .tup us) np
    exact k _ _ (.tup xs) (.ref p) g (R.tup upd_same (Rs.mono g.vv _ _ h2)) z
  · have re := c.tupR
    obtain ⟨a, us, rfl, h1, h2⟩ := c.tup s
    exact ⟨a, us, rfl, .inr ⟨h1, k U H _ _ (Gr.refl s) re z⟩⟩
def blsOf : List D → Option (List Bool)
  | [] => some []
  | .bl i :: ds => (blsOf ds).map (i :: ·)
  | _ => none
def strsOf : List D → Option (List Str)
  | [] => some []
  | .str i :: ds => (strsOf ds).map (i :: ·)
  | _ => none
theorem strsOf_map (ns : List Str) : strsOf (ns.map D.str) = some ns := by
  induction ns with
  | nil => rfl
  | cons n ns ih => show (strsOf (ns.map D.str)).map (n :: ·) = _; rw [ih]; rfl
theorem blsOf_eq : ∀ {ds : List D} {ns : List Bool}, blsOf ds = some ns → ds = ns.map D.bl
  | [], ns, h => by cases h; rfl
  | d :: ds, ns, h => by
    cases d with
    | bl i =>
      have h' : (blsOf ds).map (i :: ·) = some ns := h
      cases e : blsOf ds with
      | none => rw [e] at h'; cases h'
      | some ms => rw [e] at h'; cases h'; rw [blsOf_eq e]; rfl
    | _ => cases h
theorem strsOf_eq : ∀ {ds : List D} {ns : List Str}, strsOf ds = some ns → ds = ns.map D.str
  | [], ns, h => by cases h; rfl
  | d :: ds, ns, h => by
    cases d with
    | str i =>
      have h' : (strsOf ds).map (i :: ·) = some ns := h
      cases e : strsOf ds with
      | none => rw [e] at h'; cases h'
      | some ms => rw [e] at h'; cases h'; rw [strsOf_eq e]; rfl
    | _ => cases h
def oBls (f : List Bool → D) : List D → (D → Prop) → Prop := fun ds Q => oneQ (lstQ fun xs => someQ (fun ns => Q (f ns)) (blsOf xs)) ds
theorem oBls_of {f : List Bool → D} {ds : List D} {vs : List V} {Q : D → Prop} (s : Same U H) (r : Paired (CR K U H) ds vs) (z : oBls f ds Q) : ∃ a ns, vs = [.ref a] ∧ H a = some (.lst (ns.map V.bl)) ∧ Q (f ns) := by
  obtain ⟨d, rfl, z⟩ := oneQ_of z
  obtain ⟨xs, rfl, z⟩ := lstQ_of z
  obtain ⟨ns, e, z⟩ := someQ_of z
  obtain ⟨v, rfl, c⟩ := paired1 r
  obtain ⟨a, us, rfl, h1, h2⟩ := c.lst s
  rw [blsOf_eq e] at h2
  rw [h2.bls] at h1
  exact ⟨a, ns, rfl, h1, z⟩
abbrev oAll := oBls fun ns => .bl (ns.all id)
theorem bu_all : BuD K (rAll K) oAll := fun U H vs ds Q q s r z k => by
  obtain ⟨a, ns, rfl, h, z⟩ := oBls_of s r z
  exact ⟨a, ns, rfl, SqL.of h, k U H (.bl _) _ (Gr.refl s) rfl z⟩
/-- isinstance with a built-in class -/
def tyD : D → Option String
  | .int _ => some "int"
  | .bl _ => some "bool"
  | .str _ => some "str"
  | .non => some "NoneType"
  | .lst _ => some "list"
  | .tup _ => some "tuple"
  | _ => none
def isiD (n m : String) : Bool := n == m || (n == "bool" && m == "int")
def tyQ (Q : String → Prop) : D → Prop
  | .ty n => Q n
  | _ => False
theorem tyQ_of {Q : String → Prop} {d : D} (h : tyQ Q d) : ∃ n, d = .ty n ∧ Q n := by
  cases d <;> first | exact ⟨_, rfl, h⟩ | exact h.elim
def oIsi : List D → (D → Prop) → Prop := fun ds Q => twoQ (fun d e => tyQ (fun m => someQ (fun n => (m = "int" ∨ m = "bool" ∨ m = "str" ∨ m = "list" ∨ m = "tuple") ∧ Q (.bl (isiD n m))) (tyD d)) e) ds
theorem kit_all {n m : String} (hn : n = "int" ∨ n = "bool" ∨ n = "str" ∨ n = "NoneType" ∨ n = "list" ∨ n = "tuple") (hm : m = "int" ∨ m = "bool" ∨ m = "str" ∨ m = "list" ∨ m = "tuple") : PySem.W.kitOne K (.type n) (.type m) = some (isiD n m) := by
  rcases hn with rfl | rfl | rfl | rfl | rfl | rfl <;> rcases hm with rfl | rfl | rfl | rfl | rfl <;> exact kit_ty (by decide +kernel)
theorem bu_isi : BuD K (rIsi K) oIsi := fun U H vs ds Q q s r z k => by
  obtain ⟨d, e, rfl, z⟩ := twoQ_of z
  obtain ⟨m, rfl, z⟩ := tyQ_of z
  obtain ⟨n, hn, hm, z⟩ := someQ_of z
  obtain ⟨v, w, rfl, cd, ce⟩ := paired2 r
  rw [ce.ty]
  have go : ∀ {t : Value}, TyX K H v t → t = .type n → (n = "int" ∨ n = "bool" ∨ n = "str" ∨ n = "NoneType" ∨ n = "list" ∨ n = "tuple") → rIsi K [v, .ty m] H q := fun {t} ht et hn => by
    subst et
    exact ⟨v, .ty m, .type n, .type m, isiD n m, rfl, .ty _, ht, kit_all hn hm, k U H (.bl _) _ (Gr.refl s) rfl z⟩
  cases d with
  | int i => cases hn; rw [cd.int] at go ⊢; exact go (.base (.int _)) rfl (by decide)
  | bl i => cases hn; rw [cd.bl] at go ⊢; exact go (.base (.bl _)) rfl (by decide)
  | str i => cases hn; rw [cd.str] at go ⊢; exact go (.base (.str _)) rfl (by decide)
  | non => cases hn; rw [cd.non] at go ⊢; exact go (.base .non) rfl (by decide)
  | lst ds =>
    cases hn
    obtain ⟨a, xs, rfl, h1, _⟩ := cd.lst s
    exact go (.base (.lst h1)) rfl (by decide)
  | tup ds =>
    cases hn
    obtain ⟨a, xs, rfl, h1, _⟩ := cd.tup s
    rcases h1 with (h1 | ⟨o, h1⟩) | ⟨o, its, n, h1, h2, _⟩
    · exact go (.base (.tup h1)) rfl (by decide)
    · exact go (.fTuple h1) rfl (by decide)
    · exact go (.kTuple h1 h2) rfl (by decide)
  | _ => cases hn
end
theorem op_catAK {X : Cx} {K : PySem.W.Frag} (h : X.K = K) : OpR X (binaryOp .Add) (rCatA K) := by subst h; exact op_catA
theorem sl_tupAK {X : Cx} {K : PySem.W.Frag} (h : X.K = K) : SlR X (rSlA K) := by subst h; exact sl_tupA
theorem ps_raise0 {X : Cx} {E : XK} {e : Expr} {pos : Pos} {C : Addr} (hc : X.calm = true) (tk : Takes X (fun cls d _ H => E cls d H)) (he : PMk X e (fun _ H Q => Q (.ref C) none H)) : PS X (.Raise (some e) none pos) (tRaise0 C E) := ps_raise hc tk he
def A_draw : AF := fun avs q _ => match avs with
  | [.dr, .fz (.int many)] => 0 < many ∧ many < 2 ^ 200 ∧ ∀ r : Int, 0 ≤ r → r < many → q (.fz (.int r))
  | _ => False
theorem FnOk.imp {P : Program} {w : World} {K : PySem.W.Frag} {mg : Str → Option Value} {base : Heap} {CX : CXT} {k : Nat} {f : Addr} {fd : FuncData} {ps : List Str} {sp sp' : Sp} (F : FnOk P w K mg base CX k f fd ps sp) (h : ∀ vs H Q E, sp' vs H Q E → sp vs H Q E) : FnOk P w K mg base CX k f fd ps sp' :=
  ⟨fun vs H Q E z => F.len vs H Q E (h vs H Q E z), fun A outer s H args us vs Q E r e b v z => F.run A outer s H args us vs Q E r e b v (h vs H Q E z)⟩
theorem draw_imp {K : PySem.W.Frag} {tb : List Addr} : ∀ vs H Q E, spD K tb A_draw vs H Q E → spDraw vs H Q E := by
  intro vs H Q E h
  obtain ⟨U, avs, q, x, sU, tbs, rep, kd, l1, hb, kq, kx⟩ := h
  unfold A_draw at hb
  split at hb
  · rename_i many
    obtain ⟨v, w, rfl, ⟨s, rfl, dr⟩, rw'⟩ := paired2 rep
    have ew : w = .int many := rw'
    subst ew
    refine ⟨s, many, U, rfl, hb.1, hb.2.1, sU, dr, fun r H' r0 r1 s' d' ho => ?_⟩
    refine kq U H' (.fz (.int r)) (.int r) ⟨Same.refl U, s', fun a o m _ h => ?_, fun a h => ?_, fun a h _ => h, fun P h => tab_keep h fun b o e n => ?_, id⟩ rfl .fz (fun p hp => ?_) (hb.2.2 r r0 r1)
    · rw [ho a (fun z => m (by rw [z]; exact List.mem_singleton.mpr rfl))]
      exact h
    · by_cases z : a = s
      · subst z
        exact d'.some
      · rw [ho a z]
        exact h
    · rw [ho b fun z => by
        subst z
        obtain ⟨y, e1, e2⟩ := dr.pl
        rw [e1] at e
        cases e
        rw [e2] at n
        cases n]
      exact e
    · have hp' : p ∈ [s] := hp
      rw [List.mem_singleton.mp hp']
      exact d'
  · exact hb.elim
theorem law_run {K : PySem.W.Frag} {t : TS} {a : AS} {U H U' H' : Hp} {s x : Addr} {nl : Nat} {Q : VK} {n b c' : L2.St → Hp → Prop} {tb : List Addr} (tbs : TbOk tb U H) (g : Gr [] U H U' H') (D : Dr U' H' s) (hn : H s = none) (q : ∀ H', Q (.bl true) H')
    (hs : ∀ U0 H0 X E, SimS ⟨K, [], [], [], List.replicate (nl + 2) [], [], U0, H0, X, E, tb⟩ t a) (ha : a ⟨fun _ => False, fun av _ => av = .fz (.bl true), fun _ => False, fun _ => False, fun _ _ => False⟩ (none :: some .dr :: List.replicate nl none)) :
    t ⟨n, Q, b, c'⟩ (some (.ref x) :: some (.ref s) :: List.replicate nl none) H' := by
  have hrep : ∀ m : Nat, Paired (RepS K U' H') (List.replicate m none) (List.replicate m none) := fun m => by
    induction m with
    | zero => exact .nil
    | succ m ih => exact .cons trivial ih
  have how : ∀ m : Nat, owns (List.replicate m none) (List.replicate m none) = [] := fun m => by
    induction m with
    | zero => rfl
    | succ m ih => exact ih
  refine hs U H (fun _ _ => False) (fun _ _ _ _ => False) U' H' (some (.ref x) :: some (.ref s) :: List.replicate nl none) (none :: some .dr :: List.replicate nl none) _ _ rfl ⟨g, .cons trivial (.cons ⟨s, rfl, D⟩ (hrep nl)), ?_, ?_, ⟨rfl, [], rfl, rfl⟩, ⟨fun _ _ _ _ _ _ _ _ _ _ _ _ z => z, tbs⟩, ?_, ?_, ?_⟩ ha ⟨fun _ _ _ _ _ _ z => z.elim, ?_, fun _ _ _ _ _ _ z => z.elim, fun _ _ _ _ _ _ z => z.elim⟩
  · show ([] ++ ([s] ++ owns (List.replicate nl none) (List.replicate nl none))).Nodup
    rw [how]
    simp
  · intro p hp
    have hp' : p ∈ ([] ++ ([s] ++ owns (List.replicate nl none) (List.replicate nl none)) : List Addr) := hp
    rw [how] at hp'
    simp at hp'
    subst hp'
    exact ⟨D.out, .inr hn⟩
  · intro i av v e1 e2 p hp
    refine .inr ?_
    match i, e1, e2 with
    | 1, e1, e2 =>
      cases e1
      cases e2
      rw [List.mem_singleton.mp hp]
      exact hn
    | i + 2, e1, _ =>
      have e1' : (List.replicate nl (none : Option AV))[i]? = some (some av) := e1
      rw [List.getElem?_replicate] at e1'
      split at e1' <;> cases e1'
  · show (List.replicate (nl + 2) ([] : List Addr)).length = (List.replicate nl (none : Option V)).length + 1 + 1
    rw [List.length_replicate, List.length_replicate]
  · intro i _
    show (List.replicate (nl + 2) ([] : List Addr)).getD i [] = []
    rw [List.getD, List.getElem?_replicate]
    split <;> rfl
  · intro U2 H2 σ2 ρ2 av v I r _ _ z
    have z' : av = .fz (.bl true) := z
    subst z'
    rw [show v = .bl true from r]
    exact q H2
end SW
namespace SW
open PySem PySem.Spec PyProof.Rows L2
variable [QN]
mutual
def okD : Nat → D → Bool
  | _, .int _ => true
  | _, .bl _ => true
  | _, .non => true
  | _, .str x => PyData.strOk x
  | n + 1, .tup ds => okDs n ds
  | n + 1, .lst ds => okDs n ds
  | _, _ => false
def okDs : Nat → List D → Bool
  | _, [] => true
  | n, d :: ds => okD n d && okDs n ds
end
mutual
def toPy : D → PyData
  | .int i => .int i
  | .bl b => .bool b
  | .str x => .str x
  | .tup ds => .tuple (toPys ds)
  | .lst ds => .list (toPys ds)
  | _ => .none
def toPys : List D → List PyData
  | [] => []
  | d :: ds => toPy d :: toPys ds
end
mutual
def deq : D → D → Bool
  | .non, .non => true
  | .bl a, .bl b => a == b
  | .bl a, .int j => (if a then 1 else 0) == j
  | .int i, .bl b => i == (if b then 1 else 0)
  | .int i, .int j => i == j
  | .str x, .str y => x == y
  | .lst xs, .lst ys => deqs xs ys
  | .tup xs, .tup ys => deqs xs ys
  | _, _ => false
def deqs : List D → List D → Bool
  | [], [] => true
  | x :: xs, y :: ys => deq x y && deqs xs ys
  | _, _ => false
end
mutual
theorem okD_lay : ∀ (n : Nat) (d : D), okD n d = true → Lay n (toPy d)
  | n, .int _, _ => lay_int
  | n, .bl _, _ => lay_bool
  | n, .non, _ => lay_none
  | n, .str x, h => ⟨by cases n <;> exact h, Nat.zero_le _⟩
  | 0, .tup _, h => by cases h
  | 0, .lst _, h => by cases h
  | n + 1, .tup ds, h => ⟨(okDs_lay n ds h).1, Nat.succ_le_succ (okDs_lay n ds h).2⟩
  | n + 1, .lst ds, h => ⟨(okDs_lay n ds h).1, Nat.succ_le_succ (okDs_lay n ds h).2⟩
  | n, .ty _, h => by cases n <;> cases h
  | n, .dK _ _, h => by cases n <;> cases h
  | n, .dT _ _, h => by cases n <;> cases h
  | n, .obj _ _ _, h => by cases n <;> cases h
  | n, .exn _ _ _ _ _, h => by cases n <;> cases h
theorem okDs_lay : ∀ (n : Nat) (ds : List D), okDs n ds = true → PyData.canLayAll0 (toPys ds) = true ∧ PyData.depthAll (toPys ds) ≤ n
  | n, [], _ => ⟨rfl, Nat.zero_le _⟩
  | n, d :: ds, h => by
    have h' : (okD n d && okDs n ds) = true := h
    rw [Bool.and_eq_true] at h'
    have h1 := okD_lay n d h'.1
    have h2 := okDs_lay n ds h'.2
    refine ⟨?_, ?_⟩
    · show ((toPy d).canLay0 && PyData.canLayAll0 (toPys ds)) = true
      rw [h1.1, h2.1]
      rfl
    · show max (toPy d).depth (PyData.depthAll (toPys ds)) ≤ n
      exact Nat.max_le.mpr ⟨h1.2, h2.2⟩
end
section
variable {K : PySem.W.Frag} {U H : Hp}
mutual
theorem okD_dp (s : Same U H) : ∀ (n : Nat) (d : D) (v : V), okD n d = true → R K U d v → Dp K H v (toPy d)
  | n, .int i, v, _, r => by rw [show v = .int i from r]; exact .int i
  | n, .bl i, v, _, r => by rw [show v = .bl i from r]; exact .bl i
  | n, .non, v, _, r => by rw [show v = .non from r]; exact .non
  | n, .str x, v, h, r => by rw [show v = .str x from r]; exact .str x
  | 0, .tup _, _, h, _ => by cases h
  | 0, .lst _, _, h, _ => by cases h
  | n + 1, .tup ds, v, h, ⟨a, xs, e, h1, h2⟩ => by rw [e]; exact .tup (Same.tup s h1) (okDs_dp s n ds xs h h2)
  | n + 1, .lst ds, v, h, ⟨a, xs, e, h1, h2⟩ => by rw [e]; exact .lst (SqL.of (s _ _ h1)) (okDs_dp s n ds xs h h2)
  | n, .ty _, _, h, _ => by cases n <;> cases h
  | n, .dK _ _, _, h, _ => by cases n <;> cases h
  | n, .dT _ _, _, h, _ => by cases n <;> cases h
  | n, .obj _ _ _, _, h, _ => by cases n <;> cases h
  | n, .exn _ _ _ _ _, _, h, _ => by cases n <;> cases h
theorem okDs_dp (s : Same U H) : ∀ (n : Nat) (ds : List D) (vs : List V), okDs n ds = true → Rs K U ds vs → DpAll K H vs (toPys ds)
  | n, [], vs, _, r => by rw [show vs = [] from r]; exact .nil
  | n, d :: ds, vs, h, ⟨v, r, e, h1, h2⟩ => by
    have h' : (okD n d && okDs n ds) = true := h
    rw [Bool.and_eq_true] at h'
    rw [e]
    exact .cons (okD_dp s n d v h'.1 h1) (okDs_dp s n ds r h'.2 h2)
end
theorem cr_dp {d : D} {v : V} (s : Same U H) (c : CR K U H d v) (h : okD 8 d = true) : Dp K H v (toPy d) := by
  obtain ⟨av, r, f⟩ := c
  cases av with
  | fz d' => cases f; exact okD_dp s 8 _ v h r
  | ol ds =>
    cases f
    obtain ⟨p, xs, rfl, e1, e2⟩ := r
    exact .lst (SqL.of e1) (okDs_dp s 7 ds xs h e2)
  | ok ks ds => cases f; cases h
  | ot ks ds => cases f; cases h
  | on ws as =>
    cases f
    obtain ⟨p, rfl, e1, e2⟩ := r
    exact .lst (SqL.of e1) (okDs_dp s 7 _ _ h (seens_r e2))
  | ut ws as =>
    cases f
    obtain ⟨p, rfl, e1, e2⟩ := r
    exact okD_dp s 8 _ _ h ⟨p, _, rfl, e1, seens_r e2⟩
  | ob C dx ns ws as => cases f; cases h
  | _ => cases f
end
mutual
theorem eqv_deq : ∀ (n m : Nat) (d e : D), okD n d = true → okD m e = true → PyData.eqv (toPy d) (toPy e) = deq d e
  | n, m, .int _, .int _, _, _ => rfl
  | n, m, .int _, .bl _, _, _ => rfl
  | n, m, .bl _, .int _, _, _ => rfl
  | n, m, .bl _, .bl _, _, _ => rfl
  | n, m, .non, .non, _, _ => rfl
  | n, m, .str _, .str _, _, _ => rfl
  | n + 1, m + 1, .tup xs, .tup ys, h, k => eqvs_deqs n m xs ys h k
  | n + 1, m + 1, .lst xs, .lst ys, h, k => eqvs_deqs n m xs ys h k
  | n, m, .int _, .non, _, _ => rfl
  | n, m, .int _, .str _, _, _ => rfl
  | n, m, .int _, .tup _, _, _ => rfl
  | n, m, .int _, .lst _, _, _ => rfl
  | n, m, .bl _, .non, _, _ => rfl
  | n, m, .bl _, .str _, _, _ => rfl
  | n, m, .bl _, .tup _, _, _ => rfl
  | n, m, .bl _, .lst _, _, _ => rfl
  | n, m, .non, .int _, _, _ => rfl
  | n, m, .non, .bl _, _, _ => rfl
  | n, m, .non, .str _, _, _ => rfl
  | n, m, .non, .tup _, _, _ => rfl
  | n, m, .non, .lst _, _, _ => rfl
  | n, m, .str _, .int _, _, _ => rfl
  | n, m, .str _, .bl _, _, _ => rfl
  | n, m, .str _, .non, _, _ => rfl
  | n, m, .str _, .tup _, _, _ => rfl
  | n, m, .str _, .lst _, _, _ => rfl
  | n, m, .tup _, .int _, _, _ => rfl
  | n, m, .tup _, .bl _, _, _ => rfl
  | n, m, .tup _, .non, _, _ => rfl
  | n, m, .tup _, .str _, _, _ => rfl
  | n, m, .tup _, .lst _, _, _ => rfl
  | n, m, .lst _, .int _, _, _ => rfl
  | n, m, .lst _, .bl _, _, _ => rfl
  | n, m, .lst _, .non, _, _ => rfl
  | n, m, .lst _, .str _, _, _ => rfl
  | n, m, .lst _, .tup _, _, _ => rfl
  | 0, m, .tup _, .tup _, h, _ => by cases h
  | n + 1, 0, .tup _, .tup _, _, k => by cases k
  | 0, m, .lst _, .lst _, h, _ => by cases h
  | n + 1, 0, .lst _, .lst _, _, k => by cases k
  | n, m, .ty _, _, h, _ => by cases n <;> cases h
  | n, m, .dK _ _, _, h, _ => by cases n <;> cases h
  | n, m, .dT _ _, _, h, _ => by cases n <;> cases h
  | n, m, .obj _ _ _, _, h, _ => by cases n <;> cases h
  | n, m, .exn _ _ _ _ _, _, h, _ => by cases n <;> cases h
  | n, m, _, .ty _, _, h => by cases m <;> cases h
  | n, m, _, .dK _ _, _, h => by cases m <;> cases h
  | n, m, _, .dT _ _, _, h => by cases m <;> cases h
  | n, m, _, .obj _ _ _, _, h => by cases m <;> cases h
  | n, m, _, .exn _ _ _ _ _, _, h => by cases m <;> cases h
theorem eqvs_deqs : ∀ (n m : Nat) (xs ys : List D), okDs n xs = true → okDs m ys = true → PyData.eqvAll (toPys xs) (toPys ys) = deqs xs ys
  | n, m, [], [], _, _ => rfl
  | n, m, x :: xs, y :: ys, h, k => by
    have h' : (okD n x && okDs n xs) = true := h
    have k' : (okD m y && okDs m ys) = true := k
    rw [Bool.and_eq_true] at h' k'
    show (PyData.eqv (toPy x) (toPy y) && PyData.eqvAll (toPys xs) (toPys ys)) = (deq x y && deqs xs ys)
    rw [eqv_deq n m x y h'.1 k'.1, eqvs_deqs n m xs ys h'.2 k'.2]
  | n, m, [], _ :: _, _, _ => rfl
  | n, m, _ :: _, [], _, _ => rfl
end
section
variable {K : PySem.W.Frag} {U H : Hp}
def oEqD : D → D → (D → Prop) → Prop := fun d e Q => okD 8 d = true ∧ okD 8 e = true ∧ Q (.bl (deq d e))
def oNeD : D → D → (D → Prop) → Prop := fun d e Q => okD 8 d = true ∧ okD 8 e = true ∧ Q (.bl (!deq d e))
theorem op_eqDD : OpD K (rEqD K) oEqD := fun U H v w d e Q q s cd ce z k => by
  obtain ⟨h1, h2, z⟩ := z
  refine ⟨toPy d, toPy e, cr_dp s cd h1, cr_dp s ce h2, (okD_lay 8 d h1).shaped (by decide), (okD_lay 8 e h2).shaped (by decide), ?_⟩
  rw [eqv_deq 8 8 d e h1 h2]
  exact k U H (.bl _) _ (Gr.refl s) rfl z
theorem op_neDD : OpD K (rNeD K) oNeD := fun U H v w d e Q q s cd ce z k => by
  obtain ⟨h1, h2, z⟩ := z
  refine ⟨toPy d, toPy e, cr_dp s cd h1, cr_dp s ce h2, (okD_lay 8 d h1).shaped (by decide), (okD_lay 8 e h2).shaped (by decide), ?_⟩
  rw [eqv_deq 8 8 d e h1 h2]
  exact k U H (.bl _) _ (Gr.refl s) rfl z
end
abbrev AP := Env → (Option Int → Prop) → (Exn → Prop) → Prop
section
variable {c : DC} {U H : Hp} {te : TE} {e : AE}
def SimP (c : DC) (t : TO) (e : AP) : Prop := ∀ (U H : Hp) (σ : L2.St) (ρ : Env) (Q : Option Int → Prop) (q : Option Int → Hp → Prop), DI c U H σ ρ → e ρ Q (c.x ρ) →
  (∀ U' H' o, Gr (drs ρ σ) U H U' H' → DI c U' H' σ ρ → Q o → q o H') → t σ H q
def aNoPart : AP := fun _ Q _ => Q none
def aPart (e : AE) : AP := fun ρ Q X => e ρ (intQ fun i => Q (some i)) X
theorem sim_noPart : SimP c tNoPart aNoPart := fun U H σ ρ Q q I z k => k U H none (Gr.refl I.vh) I z
theorem sim_part (h : SimW c te e) : SimP c (tPart te) (aPart e) := fun U H σ ρ Q q I z k => h U H σ ρ _ _ I z fun U1 H1 d v g1 I1 w1 z1 => by
  obtain ⟨i, rfl, z2⟩ := intQ_of z1
  exact ⟨i, (w1.cr I1).int, k U1 H1 (some i) g1 I1 z2⟩
def SlD (K : PySem.W.Frag) (r : V → Option Int → Option Int → Hp → VK → Prop) (f : D → Option Int → Option Int → (D → Prop) → Prop) : Prop := ∀ (U H : Hp) (v : V) (d : D) (lo hi : Option Int) (Q : D → Prop) (q : VK), Same U H → CR K U H d v → f d lo hi Q →
  (∀ U' H' z u, Gr [] U H U' H' → R K U' z u → Q z → q u H') → r v lo hi H q
def SlO (K : PySem.W.Frag) (r : V → Option Int → Option Int → Hp → VK → Prop) (f : D → Option Int → Option Int → (AV → Prop) → Prop) : Prop := ∀ (U H : Hp) (v : V) (d : D) (lo hi : Option Int) (Q : AV → Prop) (q : VK), Same U H → CR K U H d v → f d lo hi Q →
  (∀ U' H' av u, Gr [] U H U' H' → RepA K U' H' av u → Fresh U' H av u → Q av → q u H') → r v lo hi H q
def aSl (f : D → Option Int → Option Int → (D → Prop) → Prop) (a : AE) (lo hi : AP) : AE := fun ρ Q X => a ρ (fun d => lo ρ (fun l => hi ρ (fun h => f d l h Q) X) X) X
def aSlO (f : D → Option Int → Option Int → (AV → Prop) → Prop) (a : AE) (lo hi : AP) : AO := fun ρ Q X => a ρ (fun d => lo ρ (fun l => hi ρ (fun h => f d l h Q) X) X) X
theorem sim_sl {r : V → Option Int → Option Int → Hp → VK → Prop} {f : D → Option Int → Option Int → (D → Prop) → Prop} {tl th : TO} {l h : AP} (hf : SlD c.K r f) (ha : SimW c te e) (hl : SimP c tl l) (hh : SimP c th h) : SimE c (tSl r te tl th) (aSl f e l h) := fun U H σ ρ Q q I z k =>
  ha U H σ ρ _ _ I z fun U1 H1 d v g1 I1 w1 z1 => hl U1 H1 σ ρ _ _ I1 z1 fun U2 H2 lo g2 I2 z2 => hh U2 H2 σ ρ _ _ I2 z2 fun U3 H3 hi g3 I3 z3 =>
    hf U3 H3 v d lo hi Q q I3.vh ((w1.mono (g2.vv.trans g3.vv)).cr I3) z3 fun U4 H4 y u g4 r4 z4 => k U4 H4 y u (((g1.trans g2).trans g3).trans g4.any) (I3.grow g4) r4 z4
theorem sim_slO {r : V → Option Int → Option Int → Hp → VK → Prop} {f : D → Option Int → Option Int → (AV → Prop) → Prop} {tl th : TO} {l h : AP} (hf : SlO c.K r f) (ha : SimW c te e) (hl : SimP c tl l) (hh : SimP c th h) : SimO c (tSl r te tl th) (aSlO f e l h) := fun U H σ ρ Q q I z k =>
  ha U H σ ρ _ _ I z fun U1 H1 d v g1 I1 w1 z1 => hl U1 H1 σ ρ _ _ I1 z1 fun U2 H2 lo g2 I2 z2 => hh U2 H2 σ ρ _ _ I2 z2 fun U3 H3 hi g3 I3 z3 =>
    hf U3 H3 v d lo hi Q q I3.vh ((w1.mono (g2.vv.trans g3.vv)).cr I3) z3 fun U4 H4 y u g4 r4 n4 z4 => k U4 H4 y u (((g1.trans g2).trans g3).trans g4.any) (I3.grow g4) r4 (n4.back fun _ h => ((g1.trans g2).trans g3).fresh h) z4
def cutD (xs : List D) (lo hi : Option Int) : List D := (xs.drop (HT.sIx xs.length 0 lo)).take (HT.sIx xs.length xs.length hi - HT.sIx xs.length 0 lo)
theorem cut_r {K : PySem.W.Frag} {ds : List D} {xs : List V} (r : Rs K U ds xs) (lo hi : Option Int) : Rs K U (cutD ds lo hi) (cutV xs lo hi) := by
  unfold cutD cutV
  rw [r.len]
  exact (r.drop _).take _
def oSlL : D → Option Int → Option Int → (AV → Prop) → Prop := fun d lo hi Q => lstQ (fun ds => Q (.ol (cutD ds lo hi))) d
def oSlT : D → Option Int → Option Int → (D → Prop) → Prop := fun d lo hi Q => tupQ (fun ds => Q (.tup (cutD ds lo hi))) d
theorem sl_lD {K : PySem.W.Frag} : SlO K (rSlL K) oSlL := fun U H v d lo hi Q q s cd z k => by
  obtain ⟨ds, rfl, z⟩ := lstQ_of z
  obtain ⟨a, xs, rfl, h1, h2⟩ := cd.lst s
  exact ⟨a, xs, rfl, SqL.of h1, fun p np => own_new s np (cut_r h2 lo hi) z k⟩
theorem sl_tD {K : PySem.W.Frag} : SlD K (rSlA K) oSlT := fun U H v d lo hi Q q s cd z0 k => by
  obtain ⟨ds, rfl, z⟩ := tupQ_of z0
  have rd := cd.tupR
  obtain ⟨a, xs, rfl, h1, h2⟩ := cd.tup s
  refine ⟨a, xs, rfl, h1, fun hw => ?_, fun _ p np => ?_⟩
  · have e : cutD ds lo hi = ds := by
      unfold cutD
      rw [h2.len, hw.1, hw.2, List.drop_zero, Nat.sub_zero, ← h2.len, List.take_length]
    rw [e] at z
    exact k U H _ _ (Gr.refl s) rd z
  · have g := (Gr.refl (M := []) s).new (o := .tup (cutV xs lo hi)) np
    exact k _ _ (.tup (cutD ds lo hi)) (.ref p) g (R.tup upd_same (Rs.mono g.vv _ _ (cut_r h2 lo hi))) z
def aRev (e : AE) : AO := fun ρ Q X => e ρ (lstQ fun ds => Q (.ol ds.reverse)) X
end
def aSeal (i : Nat) (a : AS) : AS := fun N ρ => match ρ[i]? with
  | some (some av) => frzQ (fun d => a N (ρ.set i (some (.fz d)))) av
  | _ => False
theorem sim_seal {c : DC} {t : TS} {a : AS} {i : Nat} (hi : noPar c i = true) (h : SimS c t a) : SimS c t (aSeal i a) := fun U H σ ρ N n hx I z P => by
  unfold aSeal at z
  split at z
  · rename_i av e
    obtain ⟨d, f, z2⟩ := frzQ_some z
    obtain ⟨w, e1, r, m⟩ := rep_at I.rep i av e
    have nu := own_unset I.nd e e1
    have fr : ∀ p ∈ own av w, U p = none := fun p hp => (I.out p (m p hp)).1
    have I1 := (I.unset i hi).sealL (as := own av w) (fun p hp => ⟨fr p hp, I.nw i av w hi e e1 p hp, nu p hp⟩) (own_pl av w r)
    have I2 := I1.setF (i := i) (RepA.frozen fr av w d r f fun _ h => h) hi
    rw [List.set_set, set_same e1] at I2
    exact h _ H σ _ N n hx I2 z2 (P.mono (seal_same fr))
  · exact z.elim
theorem units65 {k : Nat} {A : Around} (r : Room k A) : A.units + 65 < cLine := by have := r.un; omega
theorem cond_dec {p : Prop} [Decidable p] {A B : Prop} (h1 : p → A) (h2 : ¬ p → B) : cond (decide p) A B := by
  by_cases h : p
  · rw [decide_eq_true h]; exact h1 h
  · rw [decide_eq_false h]; exact h2 h
theorem cond_not {b : Bool} {A B : Prop} (h : cond b B A) : cond (!b) A B := by
  cases b <;> exact h
end SW
namespace SW
open PySem PySem.Spec PyProof.Rows L2
variable [QN]
theorem loop_inv {g : AG} {b : AS} {N : AEnds} {ds : List D} {ρ : Env} (Inv : Nat → Env → Prop) (h0 : Inv 0 ρ)
    (hs : ∀ (i : Nat) (d : D) (ρ : Env) (K : Env → Prop), ds[i]? = some d → Inv i ρ → (∀ ρ', Inv (i + 1) ρ' → K ρ') → g d ρ (fun ρ2 => b ⟨K, N.rt, N.nx, K, N.ex⟩ ρ2)) (hd : ∀ ρ, Inv ds.length ρ → N.nx ρ) : aLoop g b N ds ρ := by
  have go : ∀ (k : Nat) (ρ : Env), k ≤ ds.length → Inv (ds.length - k) ρ → aLoop g b N (ds.drop (ds.length - k)) ρ := by
    intro k
    induction k with
    | zero =>
      intro ρ _ h
      rw [Nat.sub_zero] at h ⊢
      rw [List.drop_length]
      exact hd ρ h
    | succ k ih =>
      intro ρ hk h
      have hl : ds.length - (k + 1) < ds.length := by omega
      have e : ds[ds.length - (k + 1)]? = some ds[ds.length - (k + 1)] := List.getElem?_eq_getElem hl
      rw [drop_at e]
      refine hs _ _ ρ _ e h fun ρ' h' => ?_
      have e2 : ds.length - (k + 1) + 1 = ds.length - k := by omega
      rw [e2] at h' ⊢
      exact ih ρ' (by omega) h'
  have := go ds.length ρ (Nat.le_refl _) (by rw [Nat.sub_self]; exact h0)
  rwa [Nat.sub_self, List.drop_zero] at this
theorem rngD_at {lo : Int} {n i : Nat} {d : D} (h : (rngD lo n)[i]? = some d) : i < n ∧ d = .int (lo + (i : Nat)) := by
  unfold rngD at h
  rw [List.getElem?_map] at h
  cases e : (List.range n)[i]? with
  | none => rw [e] at h; cases h
  | some k =>
    rw [e] at h
    obtain ⟨hk, e2⟩ := List.getElem?_eq_some_iff.mp e
    rw [List.getElem_range] at e2
    rw [List.length_range] at hk
    subst e2
    exact ⟨hk, (Option.some.inj h).symm⟩
theorem rngD_len {lo : Int} {n : Nat} : (rngD lo n).length = n := by unfold rngD; rw [List.length_map, List.length_range]
/-- for k in range(n) -/
theorem loop_rng {g : AG} {b : AS} {N : AEnds} {lo : Int} {n : Nat} {ρ : Env} (Inv : Nat → Env → Prop) (h0 : Inv 0 ρ)
    (hs : ∀ (i : Nat) (ρ : Env) (K : Env → Prop), i < n → Inv i ρ → (∀ ρ', Inv (i + 1) ρ' → K ρ') → g (.int (lo + (i : Nat))) ρ (fun ρ2 => b ⟨K, N.rt, N.nx, K, N.ex⟩ ρ2)) (hd : ∀ ρ, Inv n ρ → N.nx ρ) : aLoop g b N (rngD lo n) ρ :=
  loop_inv Inv h0 (fun i d ρ K e h k => by
    obtain ⟨hi, rfl⟩ := rngD_at e
    exact hs i ρ K hi h k) (fun ρ h => hd ρ (by rw [rngD_len] at h; exact h))
/-- for x in a row of things of one kind -/
theorem loop_map {α : Type} {f : α → D} {g : AG} {b : AS} {N : AEnds} {xs : List α} {ρ : Env} (Inv : Nat → Env → Prop) (h0 : Inv 0 ρ)
    (hs : ∀ (i : Nat) (x : α) (ρ : Env) (K : Env → Prop), xs[i]? = some x → Inv i ρ → (∀ ρ', Inv (i + 1) ρ' → K ρ') → g (f x) ρ (fun ρ2 => b ⟨K, N.rt, N.nx, K, N.ex⟩ ρ2)) (hd : ∀ ρ, Inv xs.length ρ → N.nx ρ) : aLoop g b N (xs.map f) ρ :=
  loop_inv Inv h0 (fun i d ρ K e h k => by
    rw [List.getElem?_map] at e
    cases ex : xs[i]? with
    | none => rw [ex] at e; cases e
    | some x =>
      rw [ex] at e
      cases e
      exact hs i x ρ K ex h k) (fun ρ h => hd ρ (by rw [List.length_map] at h; exact h))
section
variable {g : AG} {tt : AT} {te : AE} {ρ : Env} {X : Exn → Prop} {Q : List D → Prop}
theorem comp_rel {ds acc : List D} (P : D → D → Prop) (hl : acc.length + ds.length ≤ 1000000) (h : ∀ d ∈ ds, ∀ Q : D → Prop, (∀ y, P d y → Q y) → g d ρ (fun ρ2 => te ρ2 Q X)) (q : ∀ ys, Paired P ds ys → Q (acc ++ ys)) : aComp g aYes te ρ X ds acc Q := by
  induction ds generalizing acc with
  | nil =>
    have := q [] .nil
    rwa [List.append_nil] at this
  | cons d ds ih =>
    rw [List.length_cons] at hl
    refine h d List.mem_cons_self _ fun y hy => ⟨by omega, ih (by rw [List.length_append]; show acc.length + 1 + _ ≤ _; omega) (fun e he => h e (List.mem_cons_of_mem _ he)) fun ys hys => ?_⟩
    have := q (y :: ys) (.cons hy hys)
    rwa [List.append_assoc]
theorem comp_map {ds acc : List D} (f : D → D) (hl : acc.length + ds.length ≤ 1000000) (h : ∀ d ∈ ds, ∀ Q : D → Prop, Q (f d) → g d ρ (fun ρ2 => te ρ2 Q X)) (q : Q (acc ++ ds.map f)) : aComp g aYes te ρ X ds acc Q := by
  refine comp_rel (fun d y => y = f d) hl (fun d hd Q k => h d hd Q (k _ rfl)) fun ys hys => ?_
  have : ys = ds.map f := by
    clear q h hl
    induction hys with
    | nil => rfl
    | cons h t ih => rw [h, ih]; rfl
  rw [this]
  exact q
end
theorem atI_nat {α : Type} {xs : List α} {i : Nat} {x : α} (h : xs[i]? = some x) : atI xs (i : Int) = some x := by
  unfold atI
  rw [ixN_of rfl (List.getElem?_eq_some_iff.mp h).1]
  exact h
theorem atI_map {α : Type} {f : α → D} {xs : List α} {i : Nat} {x : α} (h : xs[i]? = some x) : atI (xs.map f) (i : Int) = some (f x) := atI_nat (by rw [List.getElem?_map, h]; rfl)
end SW
namespace SW
open PySem PySem.Spec PyProof.Rows L2
variable [QN]
section
variable {ρ ρ' : Env} {nx bk ct : Env → Prop} {rt : AV → Env → Prop} {ex : Exn → Env → Prop} {X : Exn → Prop} {Q : D → Prop} {O : AV → Prop} {L : List D → Prop} {a b e e' : AE} {o : AO} {r : AL} {t u : AT} {sa sb : AS} {i j : Nat} {d d' : D} {ds es : List D} {av : AV}
theorem w_seq (q : sa ⟨fun ρ' => sb ⟨nx, rt, bk, ct, ex⟩ ρ', rt, bk, ct, ex⟩ ρ) : aSeq sa sb ⟨nx, rt, bk, ct, ex⟩ ρ := q
theorem w_next (q : nx ρ) : aNext ⟨nx, rt, bk, ct, ex⟩ ρ := q
theorem w_set (q : e ρ (fun d => nx (ρ.set i (some (.fz d)))) (fun x => ex x ρ)) : aSet i e ⟨nx, rt, bk, ct, ex⟩ ρ := q
theorem w_setO (q : o ρ (fun av => nx (ρ.set i (some av))) (fun x => ex x ρ)) : aSetO i o ⟨nx, rt, bk, ct, ex⟩ ρ := q
theorem w_drop (q : e ρ (fun _ => nx ρ) (fun x => ex x ρ)) : aDrop e ⟨nx, rt, bk, ct, ex⟩ ρ := q
theorem w_ret (q : e ρ (fun d => rt (.fz d) ρ) (fun x => ex x ρ)) : aRet e ⟨nx, rt, bk, ct, ex⟩ ρ := q
theorem w_retO (q : o ρ (fun av => rt av ρ) (fun x => ex x ρ)) : aRetO o ⟨nx, rt, bk, ct, ex⟩ ρ := q
theorem w_retN (q : rt (.fz .non) ρ) : aRetN ⟨nx, rt, bk, ct, ex⟩ ρ := q
theorem w_retV (h : ρ[i]? = some (some (.ol ds))) (q : rt (.ol ds) (ρ.set i none)) : aRetV i ⟨nx, rt, bk, ct, ex⟩ ρ := by unfold aRetV; rw [h]; exact q
theorem w_if (q : t ρ (fun x => cond x (sa ⟨nx, rt, bk, ct, ex⟩ ρ) (sb ⟨nx, rt, bk, ct, ex⟩ ρ)) (fun x => ex x ρ)) : aIf t sa sb ⟨nx, rt, bk, ct, ex⟩ ρ := q
theorem w_brk (q : bk ρ) : aBrk ⟨nx, rt, bk, ct, ex⟩ ρ := q
theorem w_cnt (q : ct ρ) : aCnt ⟨nx, rt, bk, ct, ex⟩ ρ := q
theorem w_raise {C : Addr} (q : ex ⟨C, [], []⟩ ρ) : aRaise C ⟨nx, rt, bk, ct, ex⟩ ρ := q
theorem w_var (h : ρ[i]? = some (some (.fz d))) (q : Q d) : aVar i ρ Q X := by unfold aVar; rw [h]; exact q
theorem w_varW (h : ρ[i]? = some (some av)) (f : av.sh = some d) (q : Q d) : aVarW i ρ Q X := by
  unfold aVarW
  rw [h]
  cases av <;> first | (cases f; exact q) | cases f
theorem w_c (q : Q d) : aC d ρ Q X := q
theorem w_op {f : D → D → (D → Prop) → Prop} (q : a ρ (fun d => b ρ (fun e => f d e Q) X) X) : aOp f a b ρ Q X := q
theorem w_opO {f : D → D → (AV → Prop) → Prop} (q : a ρ (fun d => b ρ (fun e => f d e O) X) X) : aOpO f a b ρ O X := q
theorem w_un {f : D → (D → Prop) → Prop} (q : a ρ (fun d => f d Q) X) : aUn f a ρ Q X := q
theorem w_oI {g : Int → Int → D} {x y : Int} (q : Q (g x y)) : oI g (.int x) (.int y) Q := q
theorem w_oIC {C : Int → Int → Prop} {g : Int → Int → D} {x y : Int} (c : C x y) (q : Q (g x y)) : oIC C g (.int x) (.int y) Q := ⟨c, q⟩
theorem w_oU {g : Int → D} {x : Int} (q : Q (g x)) : oU g (.int x) Q := q
theorem w_oEq {k : Bool} (h : eqS d d' = some k) (q : Q (.bl k)) : oEq d d' Q := by unfold oEq; rw [h]; exact q
theorem w_oNe {k : Bool} (h : eqS d d' = some k) (q : Q (.bl (!k))) : oNe d d' Q := by unfold oNe; rw [h]; exact q
theorem w_isN0 (q : Q (.bl true)) : oIsN .non .non Q := q
theorem w_isNi {x : Int} (q : Q (.bl false)) : oIsN (.int x) .non Q := q
theorem w_isNl (q : Q (.bl false)) : oIsN (.lst ds) .non Q := q
theorem w_isNt (q : Q (.bl false)) : oIsN (.tup ds) .non Q := q
theorem w_isNs {x : Str} (q : Q (.bl false)) : oIsN (.str x) .non Q := q
theorem w_isNo {C : Addr} {ns : List Str} (q : Q (.bl false)) : oIsN (.obj C ns ds) .non Q := q
theorem w_notN0 (q : Q (.bl false)) : oNotN .non .non Q := q
theorem w_notNi {x : Int} (q : Q (.bl true)) : oNotN (.int x) .non Q := q
theorem w_notNl (q : Q (.bl true)) : oNotN (.lst ds) .non Q := q
theorem w_notNt (q : Q (.bl true)) : oNotN (.tup ds) .non Q := q
theorem w_notNs {x : Str} (q : Q (.bl true)) : oNotN (.str x) .non Q := q
theorem w_notNo {C : Addr} {ns : List Str} (q : Q (.bl true)) : oNotN (.obj C ns ds) .non Q := q
theorem w_ixL {k : Int} (h : atI ds k = some d) (q : Q d) : oIxL (.lst ds) (.int k) Q := by unfold oIxL; show someQ Q (atI ds k); rw [h]; exact q
theorem w_ixT {k : Int} (h : atI ds k = some d) (q : Q d) : oIxT (.tup ds) (.int k) Q := by unfold oIxT; show someQ Q (atI ds k); rw [h]; exact q
theorem w_ixS {x : Str} {k : Int} {c : Nat} (l : x.length ≤ 1000000) (h : atI x.cps.toList k = some c) (q : Q (.str ⟨#[c]⟩)) : oIxS (.str x) (.int k) Q := ⟨l, by show someQ _ (atI x.cps.toList k); rw [h]; exact q⟩
theorem w_inL (h : flatD d = true) (h' : ds.all flatD = true) (q : Q (.bl (inF d ds))) : oIn d (.lst ds) Q := ⟨h, h', q⟩
theorem w_inT (h : flatD d = true) (h' : ds.all flatD = true) (q : Q (.bl (inF d ds))) : oIn d (.tup ds) Q := ⟨h, h', q⟩
theorem w_ninL (h : flatD d = true) (h' : ds.all flatD = true) (q : Q (.bl (!inF d ds))) : oNotIn d (.lst ds) Q := ⟨h, h', q⟩
theorem w_cat (h : ds.length + es.length ≤ 1000000) (q : O (.ol (ds ++ es))) : oCat (.lst ds) (.lst es) O := ⟨h, q⟩
theorem w_catT (h : ds.length + es.length ≤ 1000000) (q : Q (.tup (ds ++ es))) : oCatT (.tup ds) (.tup es) Q := ⟨h, q⟩
theorem w_fz (q : o ρ (frzQ Q) X) : aFz o ρ Q X := q
theorem w_frzL (q : Q (.lst ds)) : frzQ Q (.ol ds) := q
theorem w_frzF (q : Q d) : frzQ Q (.fz d) := q
theorem w_up (q : e ρ (fun d => O (.fz d)) X) : aUp e ρ O X := q
theorem w_call0 {A : AF} {r : AA} (q : r ρ (callQ A ρ O fun _ => False) X) : aCall0 A r ρ O X := q
theorem w_call {A : AF} {r : AA} (q : r ρ (callQ A ρ O X) X) : aCall A r ρ O X := q
theorem w_arg {r : AA} {P : List Arg → Prop} (q : a ρ (fun d => r ρ (fun ds => P (.val d :: ds)) X) X) : aArg a r ρ P X := q
theorem w_slot {r : AA} {P : List Arg → Prop} (h : ρ[i]? = some (some .dr)) (q : r ρ (fun ds => P (.slot i :: ds)) X) : aSlot i r ρ P X := by unfold aSlot; rw [h]; exact q
theorem w_args {P : List Arg → Prop} (q : P []) : aArgs ρ P X := q
theorem w_callQ {A : AF} {as : List Arg} {avs : List AV} (h1 : slots as ≤ 1) (h : argsAV ρ as = some avs) (q : A avs O X) : callQ A ρ O X as := ⟨h1, by rw [h]; exact q⟩
theorem w_draw {m : Int} (h0 : 0 < m) (h1 : m < 2 ^ 200) (q : ∀ r : Int, 0 ≤ r → r < m → O (.fz (.int r))) : A_draw [.dr, .fz (.int m)] O X := ⟨h0, h1, q⟩
theorem w_nil (q : L []) : aNil ρ L X := q
theorem w_cons (q : a ρ (fun d => r ρ (fun ds => L (d :: ds)) X) X) : aCons a r ρ L X := q
theorem w_tup (q : r ρ (fun ds => ds.length ≤ 1000000 ∧ Q (.tup ds)) X) : aTup r ρ Q X := q
theorem w_lst (q : r ρ (fun ds => ds.length ≤ 1000000 ∧ O (.ol ds)) X) : aLst r ρ O X := q
theorem w_test {P : Bool → Prop} (q : e ρ (blQ P) X) : aTest e ρ P X := q
theorem w_blQ {P : Bool → Prop} {k : Bool} (q : P k) : blQ P (.bl k) := q
theorem w_not {P : Bool → Prop} (q : t ρ (fun k => P (!k)) X) : aNot t ρ P X := q
theorem w_and {P : Bool → Prop} (q : t ρ (fun x => cond x (u ρ P X) (P false)) X) : aAnd t u ρ P X := q
theorem w_or {P : Bool → Prop} (q : t ρ (fun x => cond x (P true) (u ρ P X)) X) : aOr t u ρ P X := q
theorem w_andV (q : a ρ (blQ fun x => cond x (b ρ Q X) (Q (.bl false))) X) : aAndV a b ρ Q X := q
theorem w_orV (q : a ρ (blQ fun x => cond x (Q (.bl true)) (b ρ Q X)) X) : aOrV a b ρ Q X := q
theorem w_notV (q : a ρ (blQ fun x => Q (.bl (!x))) X) : aNotV a ρ Q X := q
theorem w_ifE (q : t ρ (fun x => cond x (a ρ Q X) (b ρ Q X)) X) : aIfE t a b ρ Q X := q
theorem w_chain {f g : D → D → (D → Prop) → Prop} (q : a ρ (fun x => b ρ (fun y => f x y (blQ fun k => cond k (e ρ (fun z => g y z Q) X) (Q (.bl false)))) X) X) : aChain f g a b e ρ Q X := q
theorem w_cT {A B : Prop} (q : A) : cond true A B := q
theorem w_cF {A B : Prop} (q : B) : cond false A B := q
theorem w_cNT {A B : Prop} (q : B) : cond (!true) A B := q
theorem w_cNF {A B : Prop} (q : A) : cond (!false) A B := q
theorem w_cN {k : Bool} {A B : Prop} (q : cond k B A) : cond (!k) A B := cond_not q
theorem w_cb {f : List D → (D → Prop) → Prop} (q : r ρ (fun ds => f ds Q) X) : aCB f r ρ Q X := q
theorem w_cbO {f : List D → (AV → Prop) → Prop} (q : r ρ (fun ds => f ds O) X) : aCBO f r ρ O X := q
theorem w_lenL (q : Q (.int ds.length)) : oLen [.lst ds] Q := q
theorem w_lenT (q : Q (.int ds.length)) : oLen [.tup ds] Q := q
theorem w_listL (q : O (.ol ds)) : oList [.lst ds] O := q
theorem w_listT (q : O (.ol ds)) : oList [.tup ds] O := q
theorem w_tupleL (q : Q (.tup ds)) : oTuple [.lst ds] Q := q
theorem w_tupleT (q : Q (.tup ds)) : oTuple [.tup ds] Q := q
theorem w_bls {f : List Bool → D} {ns : List Bool} (h : blsOf ds = some ns) (q : Q (f ns)) : oBls f [.lst ds] Q := by unfold oBls; show someQ _ (blsOf ds); rw [h]; exact q
theorem w_isi {m n : String} (h : tyD d = some n) (hm : m = "int" ∨ m = "bool" ∨ m = "str" ∨ m = "list" ∨ m = "tuple") (q : Q (.bl (isiD n m))) : oIsi [d, .ty m] Q := by unfold oIsi; show someQ _ (tyD d); rw [h]; exact ⟨hm, q⟩
theorem w_isiT {m n : String} (h : tyD d = some n) (hm : m = "int" ∨ m = "bool" ∨ m = "str" ∨ m = "list" ∨ m = "tuple") (hk : isiD n m = true) (q : Q (.bl true)) : oIsi [d, .ty m] Q := w_isi h hm (by rw [hk]; exact q)
theorem w_isiF {m n : String} (h : tyD d = some n) (hm : m = "int" ∨ m = "bool" ∨ m = "str" ∨ m = "list" ∨ m = "tuple") (hk : isiD n m = false) (q : Q (.bl false)) : oIsi [d, .ty m] Q := w_isi h hm (by rw [hk]; exact q)
theorem w_fld {C : Addr} {f : Str} (q : a ρ (fldQ C f Q) X) : aFld C f a ρ Q X := q
theorem w_fldQ {C : Addr} {f : Str} {ns : List Str} (h : lookD f ns ds = some d) (q : Q d) : fldQ C f Q (.obj C ns ds) := by unfold fldQ; exact ⟨rfl, by rw [h]; exact q⟩
theorem w_olQ (h : ρ[i]? = some (some (.ol ds))) (q : L ds) : olQ ρ i L := by unfold olQ; rw [h]; exact q
theorem w_app (h : ρ[i]? = some (some (.ol ds))) (q : e ρ (fun d => olQ ρ i fun ds => ds.length < 1000000 ∧ nx (ρ.set i (some (.ol (ds ++ [d]))))) (fun x => ex x ρ)) : aApp i e ⟨nx, rt, bk, ct, ex⟩ ρ := w_olQ h q
theorem w_put (h : ρ[i]? = some (some (.ol ds))) (q : e ρ (fun d => e' ρ (fun k => olQ ρ i fun ds => ixQ ds.length (fun j => nx (ρ.set i (some (.ol (ds.set j d))))) k) (fun x => ex x ρ)) (fun x => ex x ρ)) : aPut i e' e ⟨nx, rt, bk, ct, ex⟩ ρ := w_olQ h q
theorem w_ext (h : ρ[i]? = some (some (.ol ds))) (q : e ρ (lstQ fun es => olQ ρ i fun ds => ds.length + es.length ≤ 1000000 ∧ nx (ρ.set i (some (.ol (ds ++ es))))) (fun x => ex x ρ)) : aExt i e ⟨nx, rt, bk, ct, ex⟩ ρ := w_olQ h q
theorem w_lstQ (q : L ds) : lstQ L (.lst ds) := q
theorem w_tupQ (q : L ds) : tupQ L (.tup ds) := q
theorem w_intQ {P : Int → Prop} {x : Int} (q : P x) : intQ P (.int x) := q
theorem w_oneQ (q : Q d) : oneQ Q [d] := q
theorem w_twoQ {P : D → D → Prop} (q : P d d') : twoQ P [d, d'] := q
theorem w_for {it : AL} {g : AG} (q : it ρ (fun ds => aLoop g sa ⟨nx, rt, bk, ct, ex⟩ ds ρ) (fun x => ex x ρ)) : aFor it g sa ⟨nx, rt, bk, ct, ex⟩ ρ := q
theorem w_itL (q : e ρ (lstQ L) X) : aItL e ρ L X := q
theorem w_itT (q : e ρ (tupQ L) X) : aItT e ρ L X := q
theorem w_rng1 (q : r ρ (oneQ (intQ fun j => (-(2 ^ 62) ≤ j ∧ j < 2 ^ 62) ∧ L (rngD 0 j.toNat))) X) : aRng1 r ρ L X := q
theorem w_rng2 (q : r ρ (twoQ fun d e => intQ (fun i => intQ (fun j => (-(2 ^ 62) ≤ i ∧ i < 2 ^ 62 ∧ -(2 ^ 62) ≤ j ∧ j < 2 ^ 62) ∧ L (rngD i (j - i).toNat)) e) d) X) : aRng2 r ρ L X := q
theorem w_enum (q : r ρ (oneQ (lstQ fun xs => L (enumD xs))) X) : aEnum r ρ L X := q
theorem w_zip (q : r ρ (twoQ fun d e => lstQ (fun xs => lstQ (fun ys => L (zipD xs ys)) e) d) X) : aZip r ρ L X := q
theorem w_asg {g : AG} (q : e ρ (fun d => g d ρ nx) (fun x => ex x ρ)) : aAsg e g ⟨nx, rt, bk, ct, ex⟩ ρ := q
theorem w_gN {P : Env → Prop} (q : P (ρ.set i (some (.fz d)))) : gN i d ρ P := q
theorem w_gT {n : Nat} {rs : AGs} {P : Env → Prop} (h : ds.length = n) (q : rs ds ρ P) : gT n rs (.tup ds) ρ P := ⟨h, q⟩
theorem w_gsCons {g : AG} {rs : AGs} {P : Env → Prop} (q : g d ρ (fun ρ' => rs ds ρ' P)) : gsCons g rs (d :: ds) ρ P := q
theorem w_gsNil {P : Env → Prop} (q : P ρ) : gsNil [] ρ P := q
theorem w_par (q : r ρ (twoQ fun d e => nx ((ρ.set i (some (.fz d))).set j (some (.fz e)))) (fun x => ex x ρ)) : aPar i j r ⟨nx, rt, bk, ct, ex⟩ ρ := q
theorem w_aug {f : D → D → (D → Prop) → Prop} (h : ρ[i]? = some (some (.fz d))) (q : e ρ (fun y => f d y fun z => nx (ρ.set i (some (.fz z)))) (fun x => ex x ρ)) : aAug i f e ⟨nx, rt, bk, ct, ex⟩ ρ := by unfold aAug; rw [h]; exact q
theorem w_lc {it : AL} {g : AG} {vs : List Nat} (q : it ρ (fun ds => aComp g t e (wipeA ρ vs) X ds [] (fun acc => O (.ol acc))) X) : aLc it g t e vs ρ O X := q
theorem w_yes {P : Bool → Prop} (q : P true) : aYes ρ P X := q
theorem w_sealL (h : ρ[i]? = some (some (.ol ds))) (q : sa ⟨nx, rt, bk, ct, ex⟩ (ρ.set i (some (.fz (.lst ds))))) : aSeal i sa ⟨nx, rt, bk, ct, ex⟩ ρ := by unfold aSeal; rw [h]; exact q
theorem w_sealF (h : ρ[i]? = some (some (.fz d))) (q : sa ⟨nx, rt, bk, ct, ex⟩ (ρ.set i (some (.fz d)))) : aSeal i sa ⟨nx, rt, bk, ct, ex⟩ ρ := by unfold aSeal; rw [h]; exact q
theorem w_rev (q : e ρ (lstQ fun ds => O (.ol ds.reverse)) X) : aRev e ρ O X := q
theorem w_sl {f : D → Option Int → Option Int → (D → Prop) → Prop} {lo hi : AP} (q : a ρ (fun d => lo ρ (fun l => hi ρ (fun h => f d l h Q) X) X) X) : aSl f a lo hi ρ Q X := q
theorem w_slO {f : D → Option Int → Option Int → (AV → Prop) → Prop} {lo hi : AP} (q : a ρ (fun d => lo ρ (fun l => hi ρ (fun h => f d l h O) X) X) X) : aSlO f a lo hi ρ O X := q
theorem w_noPart {P : Option Int → Prop} (q : P none) : aNoPart ρ P X := q
theorem w_part {P : Option Int → Prop} (q : e ρ (intQ fun i => P (some i)) X) : aPart e ρ P X := q
theorem w_slL {lo hi : Option Int} (q : O (.ol (cutD ds lo hi))) : oSlL (.lst ds) lo hi O := q
theorem w_slT {lo hi : Option Int} (q : Q (.tup (cutD ds lo hi))) : oSlT (.tup ds) lo hi Q := q
theorem w_eqD (h : okD 8 d = true) (h' : okD 8 d' = true) (q : Q (.bl (deq d d'))) : oEqD d d' Q := ⟨h, h', q⟩
theorem w_neD (h : okD 8 d = true) (h' : okD 8 d' = true) (q : Q (.bl (!deq d d'))) : oNeD d d' Q := ⟨h, h', q⟩
end
end SW
namespace SW
open PySem PySem.Spec PyProof.Rows L2
variable [QN]
def ownK (ρ : Env) (σ : L2.St) (k : Nat) : List Addr := match ρ[k]?, σ[k]? with
  | some a, some v => ownS a v
  | _, _ => []
theorem ownK_mem : ∀ {ρ : Env} {σ : L2.St} {p : Addr}, p ∈ owns ρ σ ↔ ∃ k, p ∈ ownK ρ σ k
  | [], σ, p => ⟨fun h => by simp [owns] at h, fun ⟨k, h⟩ => by simp [ownK] at h⟩
  | a :: ρ, [], p => ⟨fun h => by simp [owns] at h, fun ⟨k, h⟩ => by simp [ownK] at h⟩
  | a :: ρ, v :: σ, p => by
    constructor
    · intro h
      rcases List.mem_append.mp h with h | h
      · exact ⟨0, h⟩
      · obtain ⟨k, hk⟩ := ownK_mem.mp h
        exact ⟨k + 1, hk⟩
    · rintro ⟨k, h⟩
      cases k with
      | zero => exact List.mem_append_left _ h
      | succ k => exact List.mem_append_right _ (ownK_mem.mpr ⟨k, h⟩)
theorem ownK_nodup : ∀ {ρ : Env} {σ : L2.St}, (owns ρ σ).Nodup ↔ (∀ k, (ownK ρ σ k).Nodup) ∧ ∀ k l p, k ≠ l → p ∈ ownK ρ σ k → p ∉ ownK ρ σ l
  | [], σ => ⟨fun _ => ⟨fun k => by simp [ownK], fun k l p _ h => by simp [ownK] at h⟩, fun _ => by simp [owns]⟩
  | a :: ρ, [] => ⟨fun _ => ⟨fun k => by simp [ownK], fun k l p _ h => by simp [ownK] at h⟩, fun _ => by simp [owns]⟩
  | a :: ρ, v :: σ => by
    have ih := ownK_nodup (ρ := ρ) (σ := σ)
    have e0 : ownK (a :: ρ) (v :: σ) 0 = ownS a v := rfl
    have es : ∀ k, ownK (a :: ρ) (v :: σ) (k + 1) = ownK ρ σ k := fun k => rfl
    constructor
    · intro h
      obtain ⟨n1, n2, n3⟩ := List.nodup_append.mp (show (ownS a v ++ owns ρ σ).Nodup from h)
      obtain ⟨i1, i2⟩ := ih.mp n2
      refine ⟨fun k => ?_, fun k l p hkl hk hl => ?_⟩
      · cases k with
        | zero => exact n1
        | succ k => exact i1 k
      · cases k with
        | zero =>
          cases l with
          | zero => exact hkl rfl
          | succ l => exact n3 p hk p (ownK_mem.mpr ⟨l, hl⟩) rfl
        | succ k =>
          cases l with
          | zero => exact n3 p hl p (ownK_mem.mpr ⟨k, hk⟩) rfl
          | succ l => exact i2 k l p (fun z => hkl (by rw [z])) hk hl
    · rintro ⟨h1, h2⟩
      refine List.nodup_append.mpr ⟨h1 0, ih.mpr ⟨fun k => h1 (k + 1), fun k l p hkl hk hl => h2 (k + 1) (l + 1) p (fun z => hkl (Nat.succ.inj z)) hk hl⟩, fun x hx y hy z => ?_⟩
      subst z
      obtain ⟨k, hk⟩ := ownK_mem.mp hy
      exact h2 0 (k + 1) x (by omega) hx hk
theorem paired_at {α β : Type} {F : α → β → Prop} {xs : List α} {ys : List β} (hl : xs.length = ys.length) (h : ∀ (k : Nat) (x : α) (y : β), xs[k]? = some x → ys[k]? = some y → F x y) : Paired F xs ys := by
  induction xs generalizing ys with
  | nil => cases ys with
    | nil => exact .nil
    | cons y ys => cases hl
  | cons x xs ih =>
    cases ys with
    | nil => cases hl
    | cons y ys => exact .cons (h 0 x y rfl rfl) (ih (Nat.succ.inj hl) fun k a b ha hb => h (k + 1) a b ha hb)
section
variable {c : DC} {U H U' H' : Hp} {σ : L2.St} {ρ ρ' : Env}
/-- a step that changes some slots' things: J tells which -/
theorem DI.multiG {M : List Addr} (J : Nat → Bool) (I : DI c U H σ ρ) (g : Gr M U H U' H') (len : ρ'.length = ρ.length) (keep : ∀ k, J k = false → ρ'[k]? = ρ[k]?) (own1 : ∀ k, J k = true → ∃ a a' v, ρ[k]? = some (some a) ∧ ρ'[k]? = some (some a') ∧ σ[k]? = some (some v) ∧ a'.kind = a.kind ∧ RepA c.K U' H' a' v ∧ (own a' v).Nodup)
    (hM : ∀ p ∈ M, ∃ k, J k = true ∧ p ∈ ownK ρ σ k) (out : ∀ k p, J k = true → p ∈ ownK ρ' σ k → U' p = none ∧ (p ∈ ownK ρ σ k ∨ (p ∉ owns ρ σ ∧ c.H0 p = none))) (dis : ∀ k l p, k ≠ l → J k = true → J l = true → p ∈ ownK ρ' σ k → p ∉ ownK ρ' σ l) : DI c U' H' σ ρ' := by
  obtain ⟨nd1, nd2⟩ := ownK_nodup.mp I.nd
  have ek : ∀ k, J k = false → ownK ρ' σ k = ownK ρ σ k := fun k hk => by
    unfold ownK
    rw [keep k hk]
  have memo : ∀ k p, p ∈ ownK ρ σ k → p ∈ owns ρ σ := fun k p h => ownK_mem.mpr ⟨k, h⟩
  have nM : ∀ k p, J k = false → p ∈ ownK ρ σ k → p ∉ M := fun k p hk hp z => by
    obtain ⟨l, hl, hp'⟩ := hM p z
    exact nd2 k l p (fun e => by rw [e, hl] at hk; cases hk) hp hp'
  have rl : ρ.length = σ.length := I.rep.length
  refine ⟨⟨I.gr.vv.trans g.vv, g.vh, fun a o ma nn ha => ?_, fun a ha => g.dom a (I.gr.dom a ha), fun a h k => g.fr a (I.gr.fr a h k) (I.gr.dom a k), fun P h => g.tb P (I.gr.tb P h), fun h => g.nt (I.gr.nt h)⟩, ?_, ownK_nodup.mpr ⟨fun k => ?_, fun k l p hkl hk hl => ?_⟩, fun p hp => ?_, ?_, I.ko, fun k av v e1 e2 p hp => ?_, I.on⟩
  · refine g.hh a o (fun z => ?_) nn (I.gr.hh a o ma nn ha)
    obtain ⟨l, _, hp'⟩ := hM a z
    rcases (I.out a (memo l a hp')).2 with y | y
    · exact ma y
    · rw [y] at ha
      cases ha
  · refine paired_at (len.trans rl) fun k x y hx hy => ?_
    cases hj : J k with
    | true =>
      obtain ⟨a, a', v, e1, e2, e3, _, r, _⟩ := own1 k hj
      rw [e2] at hx
      rw [e3] at hy
      cases hx
      cases hy
      exact r
    | false =>
      rw [keep k hj] at hx
      obtain ⟨y', ey, ry⟩ := Paired.at' I.rep k x hx
      rw [hy] at ey
      cases ey
      cases x with
      | none => trivial
      | some av =>
        cases y with
        | none => exact ry
        | some v =>
          have hok : ownK ρ σ k = own av v := by unfold ownK; rw [hx, hy]; rfl
          exact RepA.keep g.vv av v (fun p hp => ⟨keep_at g (own_pl av v ry p hp) (nM k p hj (by rw [hok]; exact hp)), g.fr p (I.out p (memo k p (by rw [hok]; exact hp))).1 (own_some av v ry p hp)⟩) ry
  · cases hj : J k with
    | true =>
      obtain ⟨a, a', v, e1, e2, e3, _, _, n⟩ := own1 k hj
      unfold ownK
      rw [e2, e3]
      exact n
    | false =>
      rw [ek k hj]
      exact nd1 k
  · cases hj : J k with
    | true =>
      cases hj' : J l with
      | true => exact dis k l p hkl hj hj' hk hl
      | false =>
        rw [ek l hj'] at hl
        rcases (out k p hj hk).2 with z | z
        · exact nd2 k l p hkl z hl
        · exact z.1 (memo l p hl)
    | false =>
      rw [ek k hj] at hk
      cases hj' : J l with
      | true =>
        rcases (out l p hj' hl).2 with z | z
        · exact nd2 k l p hkl hk z
        · exact z.1 (memo k p hk)
      | false =>
        rw [ek l hj'] at hl
        exact nd2 k l p hkl hk hl
  · obtain ⟨k, hk⟩ := ownK_mem.mp hp
    cases hj : J k with
    | true =>
      obtain ⟨o1, o2⟩ := out k p hj hk
      refine ⟨o1, ?_⟩
      rcases o2 with z | z
      · exact (I.out p (memo k p z)).2
      · exact .inr z.2
    | false =>
      rw [ek k hj] at hk
      have hin := I.out p (memo k p hk)
      exact ⟨g.fr p hin.1 (I.ex p (memo k p hk)), hin.2⟩
  · obtain ⟨p1, avs, p2, p3⟩ := I.par
    refine ⟨p1, ?_⟩
    have go : ∀ (ks : List Bool) (ρ ρ' : Env) (avs : List AV), ρ'.length = ρ.length → (∀ k : Nat, ρ'[k]? = ρ[k]? ∨ ∃ a a' : AV, ρ[k]? = some (some a) ∧ ρ'[k]? = some (some a') ∧ a'.kind = a.kind) → selM ks ρ = avs.map some → ∃ bs : List AV, selM ks ρ' = bs.map some ∧ bs.map AV.kind = avs.map AV.kind := by
      intro ks
      induction ks with
      | nil =>
        intro ρ ρ' avs _ _ e
        refine ⟨avs, ?_, rfl⟩
        rw [← e]
        cases ρ <;> cases ρ' <;> rfl
      | cons b ks ih =>
        intro ρ ρ' avs hl hh e
        cases ρ with
        | nil =>
          cases ρ' with
          | nil => exact ⟨avs, e, rfl⟩
          | cons _ _ => cases hl
        | cons a ρ =>
          cases ρ' with
          | nil => cases hl
          | cons a' ρ' =>
            have hh' : ∀ k : Nat, ρ'[k]? = ρ[k]? ∨ ∃ a a' : AV, ρ[k]? = some (some a) ∧ ρ'[k]? = some (some a') ∧ a'.kind = a.kind := fun k => hh (k + 1)
            cases b with
            | false => exact ih ρ ρ' avs (Nat.succ.inj hl) hh' e
            | true =>
              cases avs with
              | nil => cases e
              | cons a0 avs =>
                obtain ⟨g1, g2⟩ := List.cons.inj e
                subst g1
                obtain ⟨bs, k1, k2⟩ := ih ρ ρ' avs (Nat.succ.inj hl) hh' g2
                rcases hh 0 with z | ⟨x, x', z1, z2, z3⟩
                · have z' := Option.some.inj z
                  subst z'
                  exact ⟨a0 :: bs, by show some a0 :: selM ks ρ' = _; rw [k1]; rfl, by rw [List.map_cons, List.map_cons, k2]⟩
                · have z1' := Option.some.inj z1
                  have z2' := Option.some.inj z2
                  have z1'' := Option.some.inj z1'
                  subst z1'' z2'
                  exact ⟨x' :: bs, by show some x' :: selM ks ρ' = _; rw [k1]; rfl, by rw [List.map_cons, List.map_cons, k2, z3]⟩
    obtain ⟨bs, k1, k2⟩ := go c.ks ρ ρ' avs len (fun k => by
      cases hj : J k with
      | true =>
        obtain ⟨a, a', v, e1, e2, _, e4, _⟩ := own1 k hj
        exact .inr ⟨a, a', e1, e2, e4⟩
      | false => exact .inl (keep k hj)) p2
    exact ⟨bs, k1, k2.trans p3⟩
  · have hok : ownK ρ' σ k = own av v := by unfold ownK; rw [e1, e2]; rfl
    cases hj : J k with
    | true =>
      obtain ⟨a, a', w, f1, f2, f3, _⟩ := own1 k hj
      rcases (out k p hj (by rw [hok]; exact hp)).2 with z | z
      · unfold ownK at z
        rw [f1, f3] at z
        rw [f3] at e2
        cases e2
        exact I.ow k a _ f1 f3 p z
      · exact .inr z.2
    | false =>
      rw [keep k hj] at e1
      exact I.ow k av v e1 e2 p hp
theorem DI.multi {M : List Addr} (J : Nat → Bool) (I : DI c U H σ ρ) (g : Gr M U H U' H') (len : ρ'.length = ρ.length) (keep : ∀ k, J k = false → ρ'[k]? = ρ[k]?) (own1 : ∀ k, J k = true → ∃ a a' v, ρ[k]? = some (some a) ∧ ρ'[k]? = some (some a') ∧ σ[k]? = some (some v) ∧ a'.kind = a.kind ∧ RepA c.K U' H' a' v ∧ (own a' v).Nodup)
    (hM : ∀ p ∈ M, ∃ k, J k = true ∧ p ∈ ownK ρ σ k) (out : ∀ k p, J k = true → p ∈ ownK ρ' σ k → U' p = none ∧ (p ∈ ownK ρ σ k ∨ H p = none)) (dis : ∀ k l p, k ≠ l → J k = true → J l = true → p ∈ ownK ρ' σ k → p ∉ ownK ρ' σ l) : DI c U' H' σ ρ' :=
  I.multiG J g len keep own1 hM (fun k p hj hp => ⟨(out k p hj hp).1, (out k p hj hp).2.imp id fun z => ⟨fun y => I.ex p y z, I.gr.fresh z⟩⟩) dis
abbrev AFM := List AV → (AV → List AV → Prop) → (Exn → List AV → Prop) → Prop
/-- each one's places are those it had, or new -/
def PerA (H : Hp) : List AV → List AV → List V → Prop
  | a' :: as', a :: as, v :: vs => (∀ p ∈ own a' v, p ∈ own a v ∨ H p = none) ∧ PerA H as' as vs
  | [], [], _ => True
  | _, _, _ => False
def spM (K : PySem.W.Frag) (tb : List Addr) (A : AFM) : Sp := fun vs H Q E => ∃ (U : Hp) (avs : List AV) (q : AV → List AV → Prop) (x : Exn → List AV → Prop), Same U H ∧ TbOk tb U H ∧ Paired (RepA K U H) avs vs ∧ (ownAs avs vs).Nodup ∧ (∀ p ∈ ownAs avs vs, U p = none) ∧ A avs q x ∧
  (∀ U' H' av v avs', Gr (ownAs avs vs) U H U' H' → RepA K U' H' av v → (own av v).Nodup → (∀ p ∈ own av v, U' p = none ∧ H p = none ∧ p ∉ ownAs avs' vs) → Paired (RepA K U' H') avs' vs → (ownAs avs' vs).Nodup → (∀ p ∈ ownAs avs' vs, U' p = none) → avs'.map AV.kind = avs.map AV.kind → PerA H avs' avs vs → q av avs' → Q v H') ∧
  (∀ U' H' ex cls o avs', Gr (ownAs avs vs) U H U' H' → XRep K U' H' ex cls o → Paired (RepA K U' H') avs' vs → (ownAs avs' vs).Nodup → (∀ p ∈ ownAs avs' vs, U' p = none) → avs'.map AV.kind = avs.map AV.kind → PerA H avs' avs vs → x ex avs' → E cls o H')
/-- the parameters as they stand: what never changes as it came, what is one's own from its slot -/
def mrg : List AV → List (Option AV) → List AV
  | .fz d :: as, r => .fz d :: mrg as r
  | _ :: as, some a :: r => a :: mrg as r
  | a :: as, none :: r => a :: mrg as r
  | a :: as, [] => a :: mrg as []
  | [], _ => []
/-- the marked parameters put back -/
theorem mrg_rep {K : PySem.W.Frag} {U H U' H' : Hp} (s : Same U U') : ∀ {avs : List AV} {vs : List V} (bs : List AV), Paired (RepA K U H) avs vs → RepAs K U' H' bs (selM (avs.map AV.isOwn) vs) → bs.map AV.kind = (selM (avs.map AV.isOwn) avs).map AV.kind →
    Paired (RepA K U' H') (mrg avs (bs.map some)) vs ∧ ownAs (mrg avs (bs.map some)) vs = ownAs bs (selM (avs.map AV.isOwn) vs) ∧ (mrg avs (bs.map some)).map AV.kind = avs.map AV.kind
  | [], [], bs, .nil, _, e => by
    cases bs with
    | nil => exact ⟨.nil, rfl, rfl⟩
    | cons b bs => cases e
  | a :: avs, v :: vs, bs, .cons h t, r, e => by
    by_cases ho : a.isOwn = true
    · cases bs with
      | nil =>
        have e' : ([] : List Nat) = (selM (a.isOwn :: avs.map AV.isOwn) (a :: avs)).map AV.kind := e
        rw [ho] at e'
        cases e'
      | cons b bs =>
        have e' : b.kind :: bs.map AV.kind = (selM (a.isOwn :: avs.map AV.isOwn) (a :: avs)).map AV.kind := e
        rw [ho] at e'
        obtain ⟨e1, e2⟩ := List.cons.inj e'
        have r' : RepAs K U' H' (b :: bs) (selM (a.isOwn :: avs.map AV.isOwn) (v :: vs)) := r
        rw [ho] at r'
        obtain ⟨w, ws, ew, r1, r2⟩ := r'
        obtain ⟨g1, g2⟩ := List.cons.inj ew
        subst g1
        have r2' : RepAs K U' H' bs (selM (avs.map AV.isOwn) vs) := by rw [g2]; exact r2
        obtain ⟨i1, i2, i3⟩ := mrg_rep s bs t r2' e2
        have em : mrg (a :: avs) ((b :: bs).map some) = b :: mrg avs (bs.map some) := by
          cases a <;> first | rfl | cases ho
        have es : selM ((a :: avs).map AV.isOwn) (v :: vs) = v :: selM (avs.map AV.isOwn) vs := by
          show selM (a.isOwn :: avs.map AV.isOwn) (v :: vs) = _
          rw [ho]
          rfl
        rw [em, es]
        exact ⟨.cons r1 i1, by show own b v ++ _ = own b v ++ _; rw [i2], by rw [List.map_cons, List.map_cons, i3, e1]⟩
    · cases a with
      | fz d =>
        obtain ⟨i1, i2, i3⟩ := mrg_rep s bs t r e
        exact ⟨.cons (R.mono s d v h) i1, by
          show own (.fz d) v ++ ownAs (mrg avs (bs.map some)) vs = ownAs bs (selM (avs.map AV.isOwn) vs)
          rw [i2]
          cases v <;> rfl, by rw [show mrg (.fz d :: avs) (bs.map some) = .fz d :: mrg avs (bs.map some) from rfl, List.map_cons, List.map_cons, i3]⟩
      | _ => exact absurd rfl ho
theorem mrg_per {H : Hp} : ∀ (avs : List AV) (vs : List V) (bs : List AV) (n : Nat), avs.length = vs.length → PerO H bs (selM (avs.map AV.isOwn) vs) (selM (avs.map AV.isOwn) (ownL (avs.map some ++ List.replicate n none) (vs.map some ++ List.replicate n none))) → PerA H (mrg avs (bs.map some)) avs vs
  | [], [], bs, n, _, h => by cases bs <;> trivial
  | a :: avs, v :: vs, bs, n, hl, h => by
    have ih := mrg_per (H := H) avs vs
    by_cases ho : a.isOwn = true
    · have h' : PerO H bs (selM (a.isOwn :: avs.map AV.isOwn) (v :: vs)) (selM (a.isOwn :: avs.map AV.isOwn) (own a v :: ownL (avs.map some ++ List.replicate n none) (vs.map some ++ List.replicate n none))) := h
      rw [ho] at h'
      cases bs with
      | nil => exact h'.elim
      | cons b bs =>
        have em : mrg (a :: avs) ((b :: bs).map some) = b :: mrg avs (bs.map some) := by
          cases a <;> first | rfl | cases ho
        rw [em]
        exact ⟨h'.1, ih bs n (Nat.succ.inj hl) h'.2⟩
    · cases a with
      | fz d => exact ⟨fun p hp => (by cases v <;> cases hp), ih bs n (Nat.succ.inj hl) h⟩
      | _ => exact absurd rfl ho
def bodyM (kk : List Nat) (nl : Nat) (a : AS) : AFM := fun avs q x => avs.map AV.kind = kk ∧ a ⟨fun ρ => q (.fz .non) (mrg avs (selM (avs.map AV.isOwn) ρ)), fun av ρ => q av (mrg avs (selM (avs.map AV.isOwn) ρ)), fun _ => False, fun _ => False, fun e ρ => x e (mrg avs (selM (avs.map AV.isOwn) ρ))⟩ (avs.map some ++ List.replicate nl none)
def ownM (kk : List Nat) : List Bool := kk.map fun k => k != 0
theorem ownM_of : ∀ (avs : List AV), avs.map AV.isOwn = ownM (avs.map AV.kind)
  | [] => rfl
  | a :: avs => by
    show a.isOwn :: avs.map AV.isOwn = (a.kind != 0) :: ownM (avs.map AV.kind)
    rw [ownM_of avs]
    cases a <;> rfl
theorem run_bodyM {K : PySem.W.Frag} {kk : List Nat} {nl : Nat} {a : AS} {vs : List V} {H : Hp} {Q : VK} {E : XK} {t : TS} {σ : L2.St} {tb : List Addr} (h : spM K tb (bodyM kk nl a) vs H Q E) (hσ : σ = vs.map some ++ List.replicate nl none) (hs : ∀ pk pv O M U0 H0 X, SimS ⟨K, ownM kk, pk, pv, O, M, U0, H0, X, fun _ => E, tb⟩ t a) :
    t { nx := fun _ H' => Q .non H', rt := Q } σ H := by
  obtain ⟨U, avs, q, x, sU, tbs, rep, nd, out, ⟨hk, hb⟩, kq, kx⟩ := h
  subst hσ
  have lv : avs.length = vs.length := rep.length
  have ek : avs.map AV.isOwn = ownM kk := by rw [ownM_of, hk]
  have key : ∀ {U' H' : Hp} {as : List (Option AV)} {X : Exn → List (Option AV) → Prop}, Same U U' → ParRep ⟨K, avs.map AV.isOwn, (selM (avs.map AV.isOwn) avs).map AV.kind, selM (avs.map AV.isOwn) vs, ownL (avs.map some ++ List.replicate nl none) (vs.map some ++ List.replicate nl none), ownAs avs vs, U, H, X, fun _ => E, tb⟩ U' H' as →
      Paired (RepA K U' H') (mrg avs as) vs ∧ (ownAs (mrg avs as) vs).Nodup ∧ (∀ p ∈ ownAs (mrg avs as) vs, U' p = none) ∧ (mrg avs as).map AV.kind = avs.map AV.kind ∧ PerA H (mrg avs as) avs vs := fun {U' H' as X} s pr => by
    obtain ⟨bs, eb, r, k, n1, n2, n3⟩ := pr.ex
    subst eb
    obtain ⟨i1, i2, i3⟩ := mrg_rep s bs rep r k
    exact ⟨i1, by rw [i2]; exact n1, by rw [i2]; exact n2, i3, mrg_per avs vs bs nl lv n3⟩
  have I := start_DI (K := K) (nl := nl) (X := fun e as => x e (mrg avs as)) (E := E) sU rep nd out ⟨fun U' H' _ as ex cls o _ _ g pr xr z => by
    obtain ⟨k1, k2, k3, k4, k5⟩ := key g.vv pr
    exact kx U' H' ex cls o _ g xr k1 k2 k3 k4 k5 z, tbs⟩
  have hs' : SimS ⟨K, avs.map AV.isOwn, (selM (avs.map AV.isOwn) avs).map AV.kind, selM (avs.map AV.isOwn) vs, ownL (avs.map some ++ List.replicate nl none) (vs.map some ++ List.replicate nl none), ownAs avs vs, U, H, fun e as => x e (mrg avs as), fun _ => E, tb⟩ t a := by rw [ek]; exact hs _ _ _ _ _ _ _
  refine hs' U H _ _ _ _ rfl I hb ⟨?_, ?_, ?_, ?_⟩
  · intro U' H' σ' ρ' _ I z
    obtain ⟨k1, k2, k3, k4, k5⟩ := key I.gr.vv I.pars
    exact kq U' H' (.fz .non) .non _ I.gr rfl List.nodup_nil (fun p hp => by cases hp) k1 k2 k3 k4 k5 z
  · intro U' H' σ' ρ' av v I r n1 n z
    obtain ⟨k1, k2, k3, k4, k5⟩ := key I.gr.vv I.pars
    obtain ⟨e1, bs, e2, e3⟩ := I.par
    obtain ⟨r1, r2⟩ := sel_owns _ ρ' σ' bs _ I.rep e2 e1
    refine kq U' H' av v _ I.gr r n1 (fun p hp => ⟨(n p hp).1, (n p hp).2.1, fun hz => (n p hp).2.2 ?_⟩) k1 k2 k3 k4 k5 z
    have e2' : selM (avs.map AV.isOwn) ρ' = bs.map some := e2
    rw [e2', (mrg_rep I.gr.vv bs rep r1 e3).2.1] at hz
    exact r2.mem hz
  · exact fun U' H' σ' ρ' _ I z => z.elim
  · exact fun U' H' σ' ρ' _ I z => z.elim
theorem spM_len {K : PySem.W.Frag} {kk : List Nat} {nl : Nat} {a : AS} {vs : List V} {H : Hp} {Q : VK} {E : XK} {tb : List Addr} (h : spM K tb (bodyM kk nl a) vs H Q E) : vs.length = kk.length := by
  obtain ⟨U, avs, q, x, sU, tbs, rep, nd, out, ⟨hk, hb⟩, kq, kx⟩ := h
  rw [← rep.length, ← hk, List.length_map]
abbrev AM := Env → (D → Env → Prop) → (Exn → Env → Prop) → Prop
abbrev AMO := Env → (AV → Env → Prop) → (Exn → Env → Prop) → Prop
abbrev AML := Env → (List D → Env → Prop) → (Exn → Env → Prop) → Prop
def OldNew (H : Hp) (ρ ρ' : Env) (σ : L2.St) : Prop := ∀ p ∈ owns ρ' σ, p ∈ owns ρ σ ∨ H p = none
theorem Gr.comp {M N : List Addr} {U0 H0 U1 H1 U2 H2 : Hp} (a : Gr M U0 H0 U1 H1) (b : Gr N U1 H1 U2 H2) (h : ∀ p ∈ N, p ∈ M ∨ H0 p = none) : Gr M U0 H0 U2 H2 :=
  ⟨a.vv.trans b.vv, b.vh, fun x o m nn e => b.hh x o (fun z => by
    rcases h x z with y | y
    · exact m y
    · rw [y] at e; cases e) nn (a.hh x o m nn e), fun x e => b.dom x (a.dom x e), fun x e k => b.fr x (a.fr x e k) (a.dom x k), fun P h => b.tb P (a.tb P h), fun h => b.nt (a.nt h)⟩
theorem OldNew.trans {H H1 : Hp} {M : List Addr} {U U1 : Hp} {ρ ρ1 ρ2 : Env} {σ : L2.St} (g : Gr M U H U1 H1) (a : OldNew H ρ ρ1 σ) (b : OldNew H1 ρ1 ρ2 σ) : OldNew H ρ ρ2 σ := fun p hp => by
  rcases b p hp with z | z
  · exact a p z
  · exact .inr (g.fresh z)
def SimM (c : DC) (t : TE) (e : AM) : Prop := ∀ (U H : Hp) (σ : L2.St) (ρ : Env) (Q : D → Env → Prop) (q : VK), DI c U H σ ρ → e ρ Q (fun x ρ => c.x ρ x) →
  (∀ U' H' ρ' d v, Gr (owns ρ σ) U H U' H' → DI c U' H' σ ρ' → OldNew H ρ ρ' σ → R c.K U' d v → Q d ρ' → q v H') → t σ H q
def SimMO (c : DC) (t : TE) (e : AMO) : Prop := ∀ (U H : Hp) (σ : L2.St) (ρ : Env) (Q : AV → Env → Prop) (q : VK), DI c U H σ ρ → e ρ Q (fun x ρ => c.x ρ x) →
  (∀ U' H' ρ' av v, Gr (owns ρ σ) U H U' H' → DI c U' H' σ ρ' → OldNew H ρ ρ' σ → RepA c.K U' H' av v → Fresh U' H av v → (∀ p ∈ own av v, p ∉ owns ρ' σ) → Q av ρ' → q v H') → t σ H q
def SimML (c : DC) (t : TA) (e : AML) : Prop := ∀ (U H : Hp) (σ : L2.St) (ρ : Env) (Q : List D → Env → Prop) (q : List V → Hp → Prop), DI c U H σ ρ → e ρ Q (fun x ρ => c.x ρ x) →
  (∀ U' H' ρ' ds vs, Gr (owns ρ σ) U H U' H' → DI c U' H' σ ρ' → OldNew H ρ ρ' σ → Rs c.K U' ds vs → Q ds ρ' → q vs H') → t σ H q
theorem OldNew.refl {H : Hp} {ρ : Env} {σ : L2.St} : OldNew H ρ ρ σ := fun _ h => .inl h
section
variable {t ta : TE} {e : AE} {o : AO} {m : AM} {mo : AMO} {i : Nat}
def mE (e : AE) : AM := fun ρ Q X => e ρ (fun d => Q d ρ) (fun x => X x ρ)
def mO (e : AO) : AMO := fun ρ Q X => e ρ (fun d => Q d ρ) (fun x => X x ρ)
theorem simM_E (h : SimE c t e) : SimM c t (mE e) := fun U H σ ρ Q q I z k => h U H σ ρ _ _ I z fun U1 H1 d v g1 I1 r1 z1 => k U1 H1 ρ d v (g1.weak drs_sub) I1 .refl r1 z1
theorem simM_O (h : SimO c t o) : SimMO c t (mO o) := fun U H σ ρ Q q I z k => h U H σ ρ _ _ I z fun U1 H1 av v g1 I1 r1 n1 z1 => k U1 H1 ρ av v (g1.weak drs_sub) I1 .refl r1 n1 (fun p hp y => I.ex p y (n1.out p hp).2) z1
def mFz (e : AMO) : AM := fun ρ Q X => e ρ (fun av ρ' => frzQ (fun d => Q d ρ') av) X
theorem simM_fz (h : SimMO c t mo) : SimM c t (mFz mo) := fun U H σ ρ Q q I z k => h U H σ ρ _ _ I z fun U1 H1 ρ1 av v g1 I1 o1 r1 n1 d1 z1 => by
  obtain ⟨d, f, z2⟩ := frzQ_some z1
  exact k (sealU U1 H1 (own av v)) H1 ρ1 d v (g1.sealL n1.out (own_pl av v r1)) (I1.sealL (fun p hp => ⟨(n1.out p hp).1, I.gr.fresh (n1.out p hp).2, d1 p hp⟩) (own_pl av v r1)) o1 (RepA.frozen (fun p hp => (n1.out p hp).1) av v d r1 f fun _ h => h) z2
def mNil : AML := fun ρ Q _ => Q [] ρ
def mCons (a : AM) (r : AML) : AML := fun ρ Q X => a ρ (fun d ρ1 => r ρ1 (fun ds ρ2 => Q (d :: ds) ρ2) X) X
theorem simM_nil : SimML c tNil mNil := fun U H σ ρ Q q I z k => k U H ρ [] [] (Gr.refl I.vh) I .refl rfl z
theorem simM_cons {tr : TA} {r : AML} (ha : SimM c ta m) (hr : SimML c tr r) : SimML c (tCons ta tr) (mCons m r) := fun U H σ ρ Q q I z k =>
  ha U H σ ρ _ _ I z fun U1 H1 ρ1 d v g1 I1 o1 r1 z1 => hr U1 H1 σ ρ1 _ _ I1 z1 fun U2 H2 ρ2 ds vs g2 I2 o2 r2 z2 => k U2 H2 ρ2 (d :: ds) (v :: vs) (g1.comp g2 o1) I2 (o1.trans g1 o2) ⟨v, vs, rfl, R.mono g2.vv d v r1, r2⟩ z2
def mTup (r : AML) : AM := fun ρ Q X => r ρ (fun ds ρ1 => ds.length ≤ 1000000 ∧ Q (.tup ds) ρ1) X
theorem simM_tup {tr : TA} {r : AML} (hr : SimML c tr r) : SimM c (tTup tr) (mTup r) := fun U H σ ρ Q q I z k =>
  hr U H σ ρ _ _ I z fun U1 H1 ρ1 ds vs g1 I1 o1 r1 z1 => ⟨le_size (by rw [← r1.len]; exact z1.1), fun p np => by
    have g2 : Gr [] U1 H1 (upd U1 p (.tup vs)) (upd H1 p (.tup vs)) := (Gr.refl I1.vh).new np
    exact k _ _ ρ1 (.tup ds) (.ref p) (g1.trans g2.any) (I1.grow g2) o1 (R.tup upd_same (Rs.mono g2.vv _ _ r1)) z1.2⟩
def mLst (r : AML) : AMO := fun ρ Q X => r ρ (fun ds ρ1 => ds.length ≤ 1000000 ∧ Q (.ol ds) ρ1) X
theorem simM_lst {tr : TA} {r : AML} (hr : SimML c tr r) : SimMO c (tLst tr) (mLst r) := fun U H σ ρ Q q I z k =>
  hr U H σ ρ _ _ I z fun U1 H1 ρ1 ds vs g1 I1 o1 r1 z1 => ⟨le_size (by rw [← r1.len]; exact z1.1), fun p np => by
    have g2 : Gr [] U1 H1 U1 (upd H1 p (.lst vs)) := (Gr.refl I1.vh).newM np
    exact k _ _ ρ1 (.ol ds) (.ref p) (g1.trans g2.any) (I1.grow g2) o1 ⟨p, vs, rfl, upd_same, r1⟩ (.one rfl (I1.vh.free np) (g1.fresh np)) (fun q hq y => by
      rw [List.mem_singleton.mp hq] at y
      exact I1.ex p y np) z1.2⟩
def mSet (i : Nat) (e : AM) : AS := fun N ρ => e ρ (fun d ρ1 => N.nx (ρ1.set i (some (.fz d)))) N.ex
def mSetO (i : Nat) (e : AMO) : AS := fun N ρ => e ρ (fun av ρ1 => N.nx (ρ1.set i (some av))) N.ex
def mDrop (e : AM) : AS := fun N ρ => e ρ (fun _ ρ1 => N.nx ρ1) N.ex
def mRet (e : AM) : AS := fun N ρ => e ρ (fun d ρ1 => N.rt (.fz d) ρ1) N.ex
def mRetO (e : AMO) : AS := fun N ρ => e ρ (fun av ρ1 => N.rt av ρ1) N.ex
theorem simM_set (hi : noPar c i = true) (h : SimM c t m) : SimS c (tAsg t (gName i)) (mSet i m) := fun U H σ ρ N n hx I z P => by
  unfold mSet at z
  rw [hx] at z
  exact h U H σ ρ _ _ I z fun U1 H1 ρ1 d v g1 I1 _ r1 z1 => P.nx U1 H1 _ _ g1.vv (I1.setF r1 hi) z1
theorem simM_setO (hi : noPar c i = true) (h : SimMO c t mo) : SimS c (tAsg t (gName i)) (mSetO i mo) := fun U H σ ρ N n hx I z P => by
  unfold mSetO at z
  rw [hx] at z
  exact h U H σ ρ _ _ I z fun U1 H1 ρ1 av v g1 I1 _ r1 n1 d1 z1 => P.nx U1 H1 _ _ g1.vv (I1.setO r1 n1.nd (fun p hp => ⟨(n1.out p hp).1, I.gr.fresh (n1.out p hp).2, d1 p hp⟩) hi) z1
theorem simM_drop (h : SimM c t m) : SimS c (tDrop t) (mDrop m) := fun U H σ ρ N n hx I z P => by
  unfold mDrop at z
  rw [hx] at z
  exact h U H σ ρ _ _ I z fun U1 H1 ρ1 d v g1 I1 _ r1 z1 => P.nx U1 H1 _ _ g1.vv I1 z1
theorem simM_retO (h : SimMO c t mo) : SimS c (tRet t) (mRetO mo) := fun U H σ ρ N n hx I z P => by
  unfold mRetO at z
  rw [hx] at z
  exact h U H σ ρ _ _ I z fun U1 H1 ρ1 av v g1 I1 _ r1 n1 d1 z1 => P.rt U1 H1 σ ρ1 av v I1 r1 n1.nd (fun p hp => ⟨(n1.out p hp).1, I.gr.fresh (n1.out p hp).2, d1 p hp⟩) z1
def mApp (i : Nat) (e : AM) : AS := fun N ρ => olQ ρ i fun _ => e ρ (fun d ρ1 => olQ ρ1 i fun ds => ds.length < 1000000 ∧ N.nx (ρ1.set i (some (.ol (ds ++ [d]))))) N.ex
theorem simM_app (he : SimM c t m) : SimS c (tDrop (tBM c.K "list" rAppend (tVar i) (tCons t tNil))) (mApp i m) := fun U H σ ρ N n hx I z P => by
  obtain ⟨ds0, e0, z⟩ := olQ_of z
  rw [hx] at z
  obtain ⟨p, xs, hs, hp, hr⟩ := ol_at I e0
  refine ⟨.ref p, hs, .inl ⟨rfl, xs, SqL.of hp⟩, he U H σ ρ _ _ I z fun U1 H1 ρ1 d v g1 I1 _ r1 z1 => ?_⟩
  obtain ⟨ds, e1, z2, z3⟩ := olQ_of z1
  obtain ⟨p', xs', hs', hp', hr'⟩ := ol_at I1 e1
  rw [hs] at hs'
  have e' := V.ref.inj (Option.some.inj (Option.some.inj hs'))
  subst e'
  exact ⟨p, xs', v, rfl, rfl, hp', lt_size (by rw [← hr'.len]; exact z2), P.nx U1 _ σ _ g1.vv (I1.mutL e1 hs (hr'.snoc r1)) z3⟩
def argM (ρ : Env) : Arg → Option AV
  | .val d => some (.fz d)
  | .slot i => match ρ[i]? with
    | some (some av) => if av.isOwn = true then some av else none
    | _ => none
def argsM (ρ : Env) : List Arg → Option (List AV)
  | [] => some []
  | a :: as => match argM ρ a, argsM ρ as with
    | some x, some xs => some (x :: xs)
    | _, _ => none
def slotIx : List Arg → List Nat
  | [] => []
  | .slot i :: as => i :: slotIx as
  | .val _ :: as => slotIx as
def putA (ρ : Env) : List Arg → List AV → Env
  | .slot i :: as, a :: avs => (putA ρ as avs).set i (some a)
  | .val _ :: as, _ :: avs => putA ρ as avs
  | _, _ => ρ
theorem putA_len (ρ : Env) : ∀ (as : List Arg) (avs : List AV), (putA ρ as avs).length = ρ.length
  | [], _ => by unfold putA; rfl
  | .slot i :: as, [] => by unfold putA; rfl
  | .val _ :: as, [] => by unfold putA; rfl
  | .slot i :: as, a :: avs => by show ((putA ρ as avs).set i (some a)).length = _; rw [List.length_set]; exact putA_len ρ as avs
  | .val _ :: as, a :: avs => putA_len ρ as avs
theorem putA_out (ρ : Env) {k : Nat} : ∀ (as : List Arg) (avs : List AV), k ∉ slotIx as → (putA ρ as avs)[k]? = ρ[k]?
  | [], _, _ => by unfold putA; rfl
  | .slot i :: as, [], _ => by unfold putA; rfl
  | .val _ :: as, [], _ => by unfold putA; rfl
  | .slot i :: as, a :: avs, h => by
    show ((putA ρ as avs).set i (some a))[k]? = _
    rw [List.getElem?_set_ne (fun z => h (by rw [z]; exact List.mem_cons_self)), putA_out ρ as avs fun z => h (List.mem_cons_of_mem _ z)]
  | .val _ :: as, a :: avs, h => putA_out ρ as avs h
theorem slotIx_mem {i : Nat} : ∀ {as : List Arg}, i ∈ slotIx as ↔ ∃ n : Nat, as[n]? = some (.slot i)
  | [] => ⟨fun h => (by cases h), fun ⟨n, h⟩ => (by simp at h)⟩
  | .slot j :: as => by
    constructor
    · intro h
      rcases List.mem_cons.mp h with rfl | h
      · exact ⟨0, rfl⟩
      · obtain ⟨n, hn⟩ := (slotIx_mem (as := as)).mp h
        exact ⟨n + 1, hn⟩
    · rintro ⟨n, h⟩
      cases n with
      | zero => cases h; exact List.mem_cons_self
      | succ n => exact List.mem_cons_of_mem _ ((slotIx_mem (as := as)).mpr ⟨n, h⟩)
  | .val d :: as => by
    constructor
    · intro h
      obtain ⟨n, hn⟩ := (slotIx_mem (as := as)).mp (show i ∈ slotIx as from h)
      exact ⟨n + 1, hn⟩
    · rintro ⟨n, h⟩
      cases n with
      | zero => cases h
      | succ n => exact (show i ∈ slotIx as from (slotIx_mem (as := as)).mpr ⟨n, h⟩)
theorem slot_uniq {i : Nat} : ∀ {as : List Arg} {n m : Nat}, (slotIx as).Nodup → as[n]? = some (.slot i) → as[m]? = some (.slot i) → n = m
  | [], n, m, _, h, _ => by simp at h
  | .val d :: as, 0, m, _, h, _ => by cases h
  | .val d :: as, n + 1, 0, _, _, h => by cases h
  | .val d :: as, n + 1, m + 1, nd, h, k => congrArg (· + 1) (slot_uniq (as := as) nd h k)
  | .slot j :: as, 0, 0, _, _, _ => rfl
  | .slot j :: as, 0, m + 1, nd, h, k => by
    cases h
    exact absurd (slotIx_mem.mpr ⟨m, k⟩) (List.nodup_cons.mp (show (i :: slotIx as).Nodup from nd)).1
  | .slot j :: as, n + 1, 0, nd, h, k => by
    cases k
    exact absurd (slotIx_mem.mpr ⟨n, h⟩) (List.nodup_cons.mp (show (i :: slotIx as).Nodup from nd)).1
  | .slot j :: as, n + 1, m + 1, nd, h, k => congrArg (· + 1) (slot_uniq (as := as) (List.nodup_cons.mp (show (j :: slotIx as).Nodup from nd)).2 h k)
theorem putA_in (ρ : Env) {i : Nat} {a' : AV} (hi : i < ρ.length) : ∀ (as : List Arg) (avs : List AV) (n : Nat), (slotIx as).Nodup → as[n]? = some (.slot i) → avs[n]? = some a' → (putA ρ as avs)[i]? = some (some a')
  | [], _, n, _, h, _ => by simp at h
  | _ :: _, [], n, _, _, h => by simp at h
  | .slot j :: as, a :: avs, 0, _, h, k => by
    cases h
    cases k
    show ((putA ρ as avs).set i (some a'))[i]? = _
    rw [List.getElem?_set_self (by rw [putA_len]; exact hi)]
  | .slot j :: as, a :: avs, n + 1, nd, h, k => by
    have nd' := List.nodup_cons.mp (show (j :: slotIx as).Nodup from nd)
    show ((putA ρ as avs).set j (some a))[i]? = _
    rw [List.getElem?_set_ne (fun z => nd'.1 (slotIx_mem.mpr ⟨n, by rw [z]; exact h⟩))]
    exact putA_in ρ hi as avs n nd'.2 h k
  | .val d :: as, a :: avs, 0, _, h, _ => by cases h
  | .val d :: as, a :: avs, n + 1, nd, h, k => putA_in ρ hi as avs n nd h k
theorem argsM_at {ρ : Env} : ∀ {as : List Arg} {avs : List AV}, argsM ρ as = some avs → avs.length = as.length ∧ ∀ (n : Nat) (x : Arg), as[n]? = some x → ∃ a, avs[n]? = some a ∧ argM ρ x = some a
  | [], avs, e => by
    cases e
    exact ⟨rfl, fun n x h => by simp at h⟩
  | y :: as, avs, e => by
    unfold argsM at e
    cases ea : argM ρ y with
    | none => rw [ea] at e; cases e
    | some a =>
      rw [ea] at e
      cases es : argsM ρ as with
      | none => rw [es] at e; cases e
      | some xs =>
        rw [es] at e
        cases e
        obtain ⟨l, h⟩ := argsM_at es
        refine ⟨by rw [List.length_cons, List.length_cons, l], fun n x hx => ?_⟩
        cases n with
        | zero => cases hx; exact ⟨a, rfl, ea⟩
        | succ n => exact h n x hx
theorem argM_slot {ρ : Env} {i : Nat} {a : AV} (h : argM ρ (.slot i) = some a) : ρ[i]? = some (some a) ∧ a.isOwn = true := by
  unfold argM at h
  dsimp only at h
  split at h
  · rename_i av e
    split at h
    · cases h; exact ⟨e, by assumption⟩
    · cases h
  · cases h
theorem perA_at {H : Hp} : ∀ {as' as : List AV} {vs : List V} {n : Nat} {a' a : AV} {v : V}, PerA H as' as vs → as'[n]? = some a' → as[n]? = some a → vs[n]? = some v → ∀ p ∈ own a' v, p ∈ own a v ∨ H p = none
  | [], _, _, n, _, _, _, _, h, _, _ => by simp at h
  | _ :: _, [], _, n, _, _, _, _, _, h, _ => by simp at h
  | _ :: _, _ :: _, [], n, _, _, _, _, _, _, h => by simp at h
  | x' :: as', x :: as, w :: vs, 0, a', a, v, h, e1, e2, e3 => by
    cases e1
    cases e2
    cases e3
    exact h.1
  | x' :: as', x :: as, w :: vs, n + 1, a', a, v, h, e1, e2, e3 => perA_at (as' := as') (as := as) (vs := vs) (n := n) h.2 e1 e2 e3
theorem ownAs_K (avs : List AV) (vs : List V) (h : avs.length = vs.length) : ownAs avs vs = owns (avs.map some) (vs.map some) := by
  have := owns_args avs vs 0 0 h
  rw [← this]
  simp
theorem ownK_args {avs : List AV} {vs : List V} {n : Nat} {a : AV} {v : V} (h1 : avs[n]? = some a) (h2 : vs[n]? = some v) : ownK (avs.map some) (vs.map some) n = own a v := by
  unfold ownK
  rw [List.getElem?_map, List.getElem?_map, h1, h2]
  rfl
def callM (A : AFM) (ρ : Env) (Q : AV → Env → Prop) (X : Exn → Env → Prop) (as : List Arg) : Prop := (slotIx as).Nodup ∧ match argsM ρ as with
  | some avs => A avs (fun av avs' => Q av (putA ρ as avs')) (fun x avs' => X x (putA ρ as avs'))
  | none => False
theorem callM_of {A : AFM} {Q : AV → Env → Prop} {X : Exn → Env → Prop} {as : List Arg} (h : callM A ρ Q X as) : (slotIx as).Nodup ∧ ∃ avs, argsM ρ as = some avs ∧ A avs (fun av avs' => Q av (putA ρ as avs')) (fun x avs' => X x (putA ρ as avs')) := by
  obtain ⟨h1, h2⟩ := h
  refine ⟨h1, ?_⟩
  cases e : argsM ρ as with
  | none => rw [e] at h2; exact h2.elim
  | some avs => rw [e] at h2; exact ⟨avs, rfl, h2⟩
theorem run_spM {A : AFM} {as : List Arg} {vs : List V} {Q : AV → Env → Prop} {q : VK} {E : XK} {X : Exn → Env → Prop} (I : DI c U H σ ρ) (r : Paired (ArgR c.K U σ) as vs) (h : callM A ρ Q X as)
    (k : ∀ U' H' ρ' av v, Gr (owns ρ σ) U H U' H' → DI c U' H' σ ρ' → OldNew H ρ ρ' σ → RepA c.K U' H' av v → Fresh U' H av v → (∀ p ∈ own av v, p ∉ owns ρ' σ) → Q av ρ' → q v H')
    (kx : ∀ U' H' ρ' x cls o, DI c U' H' σ ρ' → XRep c.K U' H' x cls o → X x ρ' → E cls o H') : spM c.K c.tb A vs H q E := by
  obtain ⟨nd, avs, ea, hA⟩ := callM_of h
  obtain ⟨la, hat⟩ := argsM_at ea
  have lv : as.length = vs.length := r.length
  obtain ⟨nd1, nd2⟩ := ownK_nodup.mp I.nd
  have rl : ρ.length = σ.length := I.rep.length
  -- position by position
  have slot : ∀ (n i : Nat), as[n]? = some (.slot i) → ∃ a v, avs[n]? = some a ∧ vs[n]? = some v ∧ ρ[i]? = some (some a) ∧ σ[i]? = some (some v) ∧ RepA c.K U H a v ∧ ownK ρ σ i = own a v := fun n i hn => by
    obtain ⟨a, e1, e2⟩ := hat n _ hn
    obtain ⟨e3, _⟩ := argM_slot e2
    obtain ⟨v, e4, e5⟩ := Paired.at' r n _ hn
    obtain ⟨w, e6, e7, _⟩ := rep_at I.rep i a e3
    have e5' : σ[i]? = some (some v) := e5
    rw [e5'] at e6
    cases e6
    exact ⟨a, v, e1, e4, e3, e5', e7, by unfold ownK; rw [e3, e5']; rfl⟩
  have val : ∀ (n : Nat) (d : D), as[n]? = some (.val d) → avs[n]? = some (.fz d) := fun n d hn => by
    obtain ⟨a, e1, e2⟩ := hat n _ hn
    cases e2
    exact e1
  have rep : Paired (RepA c.K U H) avs vs := paired_at (la.trans lv) fun n a v ha hv => by
    obtain ⟨x, ex⟩ : ∃ x, as[n]? = some x := ⟨as[n]'(by rw [lv]; exact (List.getElem?_eq_some_iff.mp hv).1), List.getElem?_eq_getElem _⟩
    cases x with
    | val d =>
      rw [val n d ex] at ha
      cases ha
      obtain ⟨w, e1, e2⟩ := Paired.at' r n _ ex
      rw [hv] at e1
      cases e1
      exact e2
    | slot i =>
      obtain ⟨a', v', f1, f2, _, _, f5, _⟩ := slot n i ex
      rw [ha] at f1
      rw [hv] at f2
      cases f1
      cases f2
      exact f5
  have ownN : ∀ (n : Nat) (a : AV) (v : V) (p : Addr), avs[n]? = some a → vs[n]? = some v → p ∈ own a v → ∃ i, as[n]? = some (.slot i) ∧ p ∈ ownK ρ σ i := fun n a v p ha hv hp => by
    obtain ⟨x, ex⟩ : ∃ x, as[n]? = some x := ⟨as[n]'(by rw [lv]; exact (List.getElem?_eq_some_iff.mp hv).1), List.getElem?_eq_getElem _⟩
    cases x with
    | val d =>
      rw [val n d ex] at ha
      cases ha
      cases v <;> cases hp
    | slot i =>
      obtain ⟨a', v', f1, f2, _, _, _, f6⟩ := slot n i ex
      rw [ha] at f1
      rw [hv] at f2
      cases f1
      cases f2
      exact ⟨i, ex, by rw [f6]; exact hp⟩
  have memA : ∀ {bs : List AV} {p : Addr}, bs.length = vs.length → p ∈ ownAs bs vs → ∃ (n : Nat) (b : AV) (v : V), bs[n]? = some b ∧ vs[n]? = some v ∧ p ∈ own b v := fun {bs p} hl hp => by
    rw [ownAs_K bs vs hl] at hp
    obtain ⟨n, hn⟩ := ownK_mem.mp hp
    unfold ownK at hn
    rw [List.getElem?_map, List.getElem?_map] at hn
    cases e1 : bs[n]? with
    | none => rw [e1] at hn; cases hn
    | some b =>
      rw [e1] at hn
      cases e2 : vs[n]? with
      | none => rw [e2] at hn; cases hn
      | some v => rw [e2] at hn; exact ⟨n, b, v, e1, e2, hn⟩
  have inA : ∀ p ∈ ownAs avs vs, ∃ i, i ∈ slotIx as ∧ p ∈ ownK ρ σ i := fun p hp => by
    obtain ⟨n, a, v, e1, e2, e3⟩ := memA (la.trans lv) hp
    obtain ⟨i, f1, f2⟩ := ownN n a v p e1 e2 e3
    exact ⟨i, slotIx_mem.mpr ⟨n, f1⟩, f2⟩
  have ndA : (ownAs avs vs).Nodup := by
    rw [ownAs_K avs vs (la.trans lv)]
    refine ownK_nodup.mpr ⟨fun n => ?_, fun n m p hnm hn hm => ?_⟩
    · cases e1 : avs[n]? with
      | none => unfold ownK; rw [List.getElem?_map, e1]; exact List.nodup_nil
      | some a =>
        cases e2 : vs[n]? with
        | none => unfold ownK; rw [List.getElem?_map, List.getElem?_map, e1, e2]; exact List.nodup_nil
        | some v =>
          rw [ownK_args e1 e2]
          by_cases hz : own a v = []
          · rw [hz]; exact List.nodup_nil
          · obtain ⟨p, hp⟩ := List.exists_mem_of_ne_nil _ hz
            obtain ⟨i, f1, _⟩ := ownN n a v p e1 e2 hp
            obtain ⟨a', v', g1, g2, _, _, _, g6⟩ := slot n i f1
            rw [e1] at g1
            rw [e2] at g2
            cases g1
            cases g2
            rw [← g6]
            exact nd1 i
    · have at1 : ∀ l, p ∈ ownK (avs.map some) (vs.map some) l → ∃ i, as[l]? = some (.slot i) ∧ p ∈ ownK ρ σ i := fun l hl => by
        unfold ownK at hl
        rw [List.getElem?_map, List.getElem?_map] at hl
        cases e1 : avs[l]? with
        | none => rw [e1] at hl; cases hl
        | some a =>
          rw [e1] at hl
          cases e2 : vs[l]? with
          | none => rw [e2] at hl; cases hl
          | some v => rw [e2] at hl; exact ownN l a v p e1 e2 hl
      obtain ⟨i, f1, f2⟩ := at1 n hn
      obtain ⟨j, g1, g2⟩ := at1 m hm
      by_cases hij : i = j
      · subst hij
        exact hnm (slot_uniq nd f1 g1)
      · exact nd2 i j p hij f2 g2
  have step : ∀ {U' H' : Hp} {avs' : List AV}, Gr (ownAs avs vs) U H U' H' → Paired (RepA c.K U' H') avs' vs → (ownAs avs' vs).Nodup → (∀ p ∈ ownAs avs' vs, U' p = none) → avs'.map AV.kind = avs.map AV.kind → PerA H avs' avs vs →
      DI c U' H' σ (putA ρ as avs') ∧ OldNew H ρ (putA ρ as avs') σ ∧ Gr (owns ρ σ) U H U' H' ∧ ∀ p ∈ owns (putA ρ as avs') σ, p ∈ owns ρ σ ∨ p ∈ ownAs avs' vs := fun {U' H' avs'} g r' n' u' kd per => by
    have l' : avs'.length = vs.length := r'.length
    obtain ⟨nd1', nd2'⟩ := ownK_nodup.mp (by rw [← ownAs_K avs' vs l']; exact n')
    have sl' : ∀ (n i : Nat), as[n]? = some (.slot i) → ∃ a a' v, avs[n]? = some a ∧ avs'[n]? = some a' ∧ vs[n]? = some v ∧ ρ[i]? = some (some a) ∧ (putA ρ as avs')[i]? = some (some a') ∧ σ[i]? = some (some v) ∧ a'.kind = a.kind ∧ RepA c.K U' H' a' v ∧ ownK (putA ρ as avs') σ i = own a' v ∧ ownK ρ σ i = own a v := fun n i hn => by
      obtain ⟨a, v, e1, e2, e3, e4, _, e6⟩ := slot n i hn
      obtain ⟨a', f1⟩ : ∃ x, avs'[n]? = some x := ⟨avs'[n]'(by rw [l']; exact (List.getElem?_eq_some_iff.mp e2).1), List.getElem?_eq_getElem _⟩
      have f2 := putA_in ρ (i := i) (a' := a') (List.getElem?_eq_some_iff.mp e3).1 as avs' n nd hn f1
      obtain ⟨w, f3, f4⟩ := Paired.at' r' n a' f1
      rw [e2] at f3
      cases f3
      have f5 : a'.kind = a.kind := by
        have : (avs'.map AV.kind)[n]? = (avs.map AV.kind)[n]? := by rw [kd]
        rw [List.getElem?_map, List.getElem?_map, f1, e1] at this
        exact Option.some.inj this
      exact ⟨a, a', v, e1, f1, e2, e3, f2, e4, f5, f4, by unfold ownK; rw [f2, e4]; rfl, e6⟩
    have J : ∀ k, (slotIx as).contains k = true ↔ ∃ n : Nat, as[n]? = some (.slot k) := fun k => by rw [List.contains_iff_mem, slotIx_mem]
    have nJ : ∀ k, (slotIx as).contains k = false → k ∉ slotIx as := fun k hk z => by rw [List.contains_iff_mem.mpr z] at hk; cases hk
    have hin : ∀ p ∈ owns (putA ρ as avs') σ, p ∈ owns ρ σ ∨ p ∈ ownAs avs' vs := fun p hp => by
      obtain ⟨k, hk⟩ := ownK_mem.mp hp
      cases hj : (slotIx as).contains k with
      | true =>
        obtain ⟨n, hn⟩ := (J k).mp hj
        obtain ⟨a, a', v, _, f1, e2, _, _, _, _, _, f9, _⟩ := sl' n k hn
        refine .inr ?_
        rw [ownAs_K avs' vs l']
        exact ownK_mem.mpr ⟨n, by rw [ownK_args f1 e2, ← f9]; exact hk⟩
      | false =>
        refine .inl (ownK_mem.mpr ⟨k, ?_⟩)
        unfold ownK at hk ⊢
        rw [putA_out ρ as avs' (nJ k hj)] at hk
        exact hk
    have gw : Gr (owns ρ σ) U H U' H' := g.weak fun p hp => by
      obtain ⟨i, _, hi⟩ := inA p hp
      exact ownK_mem.mpr ⟨i, hi⟩
    refine ⟨I.multi (M := ownAs avs vs) (fun k => (slotIx as).contains k) g (putA_len ρ as avs') (fun k hk => putA_out ρ as avs' (nJ k hk)) (fun k hk => ?_) (fun p hp => ?_) (fun k p hk hp => ?_) (fun k l p hkl hk hl hp hq => ?_), fun p hp => ?_, gw, hin⟩
    · obtain ⟨n, hn⟩ := (J k).mp hk
      obtain ⟨a, a', v, e1, f1, e2, e3, f2, e4, f5, f6, f7, _⟩ := sl' n k hn
      exact ⟨a, a', v, e3, f2, e4, f5, f6, by have := nd1' n; rwa [ownK_args f1 e2] at this⟩
    · obtain ⟨i, h1, h2⟩ := inA p hp
      exact ⟨i, List.contains_iff_mem.mpr h1, h2⟩
    · obtain ⟨n, hn⟩ := (J k).mp hk
      obtain ⟨a, a', v, e1, f1, e2, e3, f2, e4, f5, f6, f7, f8⟩ := sl' n k hn
      rw [f7] at hp
      refine ⟨u' p (by rw [ownAs_K avs' vs l']; exact ownK_mem.mpr ⟨n, by rw [ownK_args f1 e2]; exact hp⟩), ?_⟩
      rw [f8]
      exact perA_at per f1 e1 e2 p hp
    · obtain ⟨n, hn⟩ := (J k).mp hk
      obtain ⟨m, hm⟩ := (J l).mp hl
      obtain ⟨a, a', v, _, f1, e2, _, _, _, _, _, f7, _⟩ := sl' n k hn
      obtain ⟨b, b', w, _, g1, h2, _, _, _, _, _, g7, _⟩ := sl' m l hm
      rw [f7] at hp
      rw [g7] at hq
      refine nd2' n m p (fun z => ?_) (by rw [ownK_args f1 e2]; exact hp) (by rw [ownK_args g1 h2]; exact hq)
      rw [z] at hn
      rw [hn] at hm
      cases hm
      exact hkl rfl
    · rcases hin p hp with z | z
      · exact .inl z
      · obtain ⟨n, a', v, f1, e2, f3⟩ := memA l' z
        obtain ⟨a, e1⟩ : ∃ x, avs[n]? = some x := ⟨avs[n]'(by rw [la, lv]; exact (List.getElem?_eq_some_iff.mp e2).1), List.getElem?_eq_getElem _⟩
        rcases perA_at per f1 e1 e2 p f3 with y | y
        · obtain ⟨i, _, hi⟩ := ownN n a v p e1 e2 y
          exact .inl (ownK_mem.mpr ⟨i, hi⟩)
        · exact .inr y
  refine ⟨U, avs, _, _, I.vh, I.tbs, rep, ndA, fun p hp => ?_, hA, fun U' H' av v avs' g ra n1 n2 r' n3 n4 kd per z => ?_, fun U' H' ex cls o avs' g xr r' n3 n4 kd per z => ?_⟩
  · obtain ⟨i, _, hi⟩ := inA p hp
    exact (I.out p (ownK_mem.mpr ⟨i, hi⟩)).1
  · obtain ⟨s1, s2, s3, s4⟩ := step g r' n3 n4 kd per
    refine k U' H' _ av v s3 s1 s2 ra ⟨n1, fun p hp => ⟨(n2 p hp).1, (n2 p hp).2.1⟩⟩ (fun p hp y => ?_) z
    rcases s4 p y with w | w
    · exact I.ex p w (n2 p hp).2.1
    · exact (n2 p hp).2.2 w
  · obtain ⟨s1, _⟩ := step g r' n3 n4 kd per
    exact kx U' H' _ ex cls o s1 xr z
def aSlotO (i : Nat) (r : AA) : AA := fun ρ Q X => match ρ[i]? with
  | some (some _) => r ρ (fun ds => Q (.slot i :: ds)) X
  | _ => False
theorem sim_slotO {tr : TA} {r : AA} (hr : SimA c tr r) : SimA c (tCons (tVar i) tr) (aSlotO i r) := fun U H σ ρ Q q I z k => by
  unfold aSlotO at z
  split at z
  · rename_i e0
    obtain ⟨v, e, _⟩ := rep_at I.rep i _ e0
    exact ⟨v, e, hr U H σ ρ _ _ I z fun U2 H2 ds vs g2 I2 r2 z2 => k U2 H2 (.slot i :: ds) (v :: vs) g2 I2 (.cons e r2) z2⟩
  · exact z.elim
def mCall (A : AFM) (r : AA) : AMO := fun ρ Q X => r ρ (callM A ρ Q X) (fun x => X x ρ)
def mCall0 (A : AFM) (r : AA) : AMO := fun ρ Q X => r ρ (callM A ρ Q fun _ _ => False) (fun x => X x ρ)
theorem simM_call {A : AFM} {tr : TA} {r : AA} {E : XK} (hr : SimA c tr r) : SimMO c (tCall (spM c.K c.tb A) [] E tr) (mCall0 A r) := fun U H σ ρ Q q I z k =>
  hr U H σ ρ _ _ I z fun U1 H1 as vs g1 I1 r1 z1 => by
    rw [List.append_nil]
    exact run_spM I1 r1 z1 (fun U2 H2 ρ2 av v g2 I2 o2 r2 n2 d2 z2 => k U2 H2 ρ2 av v ((g1.weak drs_sub).trans g2) I2 (OldNew.trans g1 .refl o2) r2 (n2.back fun _ h => g1.fresh h) d2 z2) (fun _ _ _ _ _ _ _ _ z => z.elim)
end
end
end SW
namespace SW
open PySem PySem.Spec PyProof.Rows L2
variable [QN]
def rMulS : R2 := fun x y H Q => ∃ a k, x = .str a ∧ y = .int k ∧ 0 ≤ k ∧ k ≤ 1000000 ∧ a.length * k.toNat ≤ 1000000 ∧ Q (.str (Txt.mul a k)) H
theorem op_mulS {X : Cx} : OpR X (binaryOp .Mult) rMulS := by
  intro pins s σ H x y v u Q I rx ry h
  obtain ⟨a, k, rfl, rfl, h1, h2, hz, q⟩ := h
  obtain ⟨t, rfl⟩ := rx
  obtain ⟨t', rfl⟩ := ry
  refine PySem.SB.mul ⟨?_, fun h3 _ => ?_, fun _ _ => PyProof.Rows.short24 (by omega)⟩ fun t' n => ⟨.str _, H, I.tok n, ⟨t', rfl⟩, q⟩
  · rw [decide_eq_false (by omega), decide_eq_false (by omega)]
    rfl
  · have hk : (a.length : Int) * k ≤ 1000000 := by
      have e : (k.toNat : Int) = k := Int.toNat_of_nonneg h1
      have e2 : ((a.length * k.toNat : Nat) : Int) = (a.length : Int) * k := by rw [Int.natCast_mul, e]
      omega
    have : (a.length : Int) ≤ (2 ^ 63 - 1) / k := Int.le_ediv_of_mul_le (by omega) (by omega)
    omega
def rCatS : R2 := fun x y H Q => ∃ i j, x = .str i ∧ y = .str j ∧ i.length + j.length ≤ sizeLine ∧ Q (.str (i ++ j)) H
theorem op_catS {X : Cx} : OpR X (binaryOp .Add) rCatS := op_add_str
def rJoinK (K : PySem.W.Frag) : V → List V → Hp → VK → Prop := fun x xs H Q => ∃ a p, ∃ ys : List Str, x = .str a ∧ xs = [.ref p] ∧ (SqL K H p (ys.map V.str) ∨ SqT K H p (ys.map V.str)) ∧
    (ys.map (·.length)).sum + ys.length * a.length ≤ 16777216 ∧ Q (.str (Txt.join a ys)) H
theorem mt_joinK {X : Cx} {K : PySem.W.Frag} (h : X.K = K) : MtR X "str.join" (rJoinK K) := by subst h; exact mt_join
section
variable {K : PySem.W.Frag} {c : DC} {U H : Hp} {ta : TE} {tr : TA} {a : AE} {r : AL}
def MtD (K : PySem.W.Frag) (m : V → List V → Hp → VK → Prop) (f : D → List D → (D → Prop) → Prop) : Prop := ∀ (U H : Hp) (v : V) (vs : List V) (d : D) (ds : List D) (Q : D → Prop) (q : VK), Same U H → CR K U H d v → Paired (CR K U H) ds vs → f d ds Q →
  (∀ U' H' z u, Gr [] U H U' H' → R K U' z u → Q z → q u H') → m v vs H q
def aBmS (f : D → List D → (D → Prop) → Prop) (a : AE) (r : AL) : AE := fun ρ Q X => a ρ (strQ fun x => r ρ (fun ds => f (.str x) ds Q) X) X
theorem sim_bmS {m : V → List V → Hp → VK → Prop} {f : D → List D → (D → Prop) → Prop} (h : MtD c.K m f) (ha : SimW c ta a) (hr : SimLW c tr r) : SimE c (tBM c.K "str" m ta tr) (aBmS f a r) := fun U H σ ρ Q q I z k =>
  ha U H σ ρ _ _ I z fun U1 H1 d v g1 I1 w1 z1 => by
    obtain ⟨x, rfl, z2⟩ := strQ_of z1
    have e := (w1.cr I1).str
    subst e
    exact ⟨rfl, hr U1 H1 σ ρ _ _ I1 z2 fun U2 H2 ds vs g2 I2 w2 z3 => h U2 H2 _ vs (.str x) ds Q q I2.vh (.of rfl) (wks_cr I2 w2) z3 fun U3 H3 y u g3 r3 z4 => k U3 H3 y u ((g1.trans g2).trans g3.any) (I2.grow g3) r3 z4⟩
def oMulS : D → D → (D → Prop) → Prop := fun d e Q => strQ (fun x => intQ (fun k => 0 ≤ k ∧ k ≤ 1000000 ∧ x.length * k.toNat ≤ 1000000 ∧ Q (.str (Txt.mul x k))) e) d
theorem op_mulSD : OpD K rMulS oMulS := fun U H v w d e Q q s cd ce z k => by
  obtain ⟨x, rfl, z⟩ := strQ_of z
  obtain ⟨i, rfl, z1, z2, z3, z⟩ := intQ_of z
  exact ⟨x, i, cd.str, ce.int, z1, z2, z3, k U H (.str _) _ (Gr.refl s) rfl z⟩
def oCatS : D → D → (D → Prop) → Prop := fun d e Q => strQ (fun x => strQ (fun y => x.length + y.length ≤ 1000000 ∧ Q (.str (x ++ y))) e) d
theorem op_catSD : OpD K rCatS oCatS := fun U H v w d e Q q s cd ce z k => by
  obtain ⟨x, rfl, z0⟩ := strQ_of z
  obtain ⟨y, rfl, z1, z⟩ := strQ_of z0
  exact ⟨x, y, cd.str, ce.str, le_size z1, k U H (.str _) _ (Gr.refl s) rfl z⟩
def charQ (Q : Nat → Prop) (x : Str) : Prop := ∃ n, x = ⟨#[n]⟩ ∧ Q n
def oInS : D → D → (D → Prop) → Prop := fun d e Q => strQ (fun x => strQ (fun y => charQ (fun n => Q (.bl (decide (n ∈ y.cps.toList)))) x) e) d
theorem op_inSS : OpD K rInS oInS := fun U H v w d e Q q s cd ce z k => by
  obtain ⟨x, rfl, z0⟩ := strQ_of z
  obtain ⟨y, rfl, n, rfl, z9⟩ := strQ_of z0
  exact ⟨n, y, cd.str, ce.str, k U H (.bl _) _ (Gr.refl s) rfl z9⟩
def oJoin : D → List D → (D → Prop) → Prop := fun d ds Q => strQ (fun x => oneQ (seqQ fun es => someQ (fun ys => (ys.map (·.length)).sum + ys.length * x.length ≤ 1000000 ∧ Q (.str (Txt.join x ys))) (strsOf es)) ds) d
theorem mt_joinD : MtD K (rJoinK K) oJoin := fun U H v vs d ds Q q s cd cs z k => by
  obtain ⟨x, rfl, z⟩ := strQ_of z
  obtain ⟨e, rfl, z⟩ := oneQ_of z
  obtain ⟨es, he, z⟩ := seqQ_of z
  obtain ⟨ys, hy, z1, z⟩ := someQ_of z
  obtain ⟨w, rfl, ce⟩ := paired1 cs
  obtain ⟨p, xs, rfl, h1, h2⟩ := ce.seq s he
  rw [strsOf_eq hy] at h2
  rw [h2.strs] at h1
  exact ⟨x, p, ys, cd.str, rfl, h1, by omega, k U H (.str _) _ (Gr.refl s) rfl z⟩
end
end SW
namespace SW
open PySem PySem.Spec PyProof.Rows L2
variable [QN]
section
variable {c : DC} {U H U' H' : Hp} {σ τ : L2.St} {ρ ρ' : Env}
/-- slots of which nothing is told may hold anything -/
theorem owns_resig : ∀ {ρ : Env} {σ τ : L2.St}, σ.length = τ.length → (∀ k : Nat, ρ[k]? = some none ∨ σ[k]? = τ[k]?) → owns ρ σ = owns ρ τ
  | [], σ, τ, _, _ => by cases σ <;> cases τ <;> rfl
  | a :: ρ, [], [], _, _ => rfl
  | a :: ρ, x :: σ, y :: τ, hl, h => by
    show ownS a x ++ owns ρ σ = ownS a y ++ owns ρ τ
    rw [owns_resig (Nat.succ.inj hl) fun k => h (k + 1)]
    rcases h 0 with z | z
    · have z' := Option.some.inj z
      subst z'
      rfl
    · have z' := Option.some.inj z
      subst z'
      rfl
theorem reps_resig {K : PySem.W.Frag} : ∀ {ρ : Env} {σ τ : L2.St}, σ.length = τ.length → (∀ k : Nat, ρ[k]? = some none ∨ σ[k]? = τ[k]?) → Paired (RepS K U H) ρ σ → Paired (RepS K U H) ρ τ
  | _, _, [], _, _, .nil => .nil
  | _, _, _ :: _, hl, _, .nil => by cases hl
  | a :: ρ, x :: σ, y :: τ, hl, h, .cons r t => by
    refine .cons ?_ (reps_resig (Nat.succ.inj hl) (fun k => h (k + 1)) t)
    rcases h 0 with z | z
    · have z' := Option.some.inj z
      subst z'
      trivial
    · have z' := Option.some.inj z
      subst z'
      exact r
theorem DI.resig (I : DI c U H σ ρ) (hl : σ.length = τ.length) (h : ∀ k : Nat, ρ[k]? = some none ∨ σ[k]? = τ[k]?) (hp : selM c.ks τ = selM c.ks σ) : DI c U H τ ρ :=
  ⟨I.gr, reps_resig hl h I.rep, by rw [← owns_resig hl h]; exact I.nd, by rw [← owns_resig hl h]; exact I.out, ⟨hp.trans I.par.1, I.par.2⟩, I.ko, fun k av v e1 e2 p hp => by
    rcases h k with z | z
    · rw [z] at e1
      cases e1
    · exact I.ow k av v e1 (z.trans e2) p hp, by rw [← hl]; exact I.on⟩
theorem wipeA_at {vs : List Nat} : ∀ (k : Nat), (wipeA ρ vs)[k]? = if k ∈ vs then (if k < ρ.length then some none else none) else ρ[k]? := by
  induction vs with
  | nil => intro k; simp [wipeA]
  | cons v vs ih =>
    intro k
    have hl : ∀ (ws : List Nat), (wipeA ρ ws).length = ρ.length := fun ws => by
      induction ws with
      | nil => rfl
      | cons w ws ih => unfold wipeA; rw [List.length_set, ih]
    unfold wipeA
    rw [List.getElem?_set, hl, ih k]
    by_cases h : v = k
    · subst h
      simp
    · have h' : ¬ k = v := fun z => h z.symm
      simp [h, h']
/-- a comprehension whose element changes slots -/
def aCompM (g : AG) (e : AM) (vs : List Nat) : List D → List D → Env → (List D → Env → Prop) → (Exn → Env → Prop) → Prop
  | [], acc, ρ, Q, _ => Q acc ρ
  | d :: r, acc, ρ, Q, X => g d ρ (fun ρ2 => e ρ2 (fun y ρ3 => acc.length < 1000000 ∧ aCompM g e vs r (acc ++ [y]) (wipeA ρ3 vs) Q X) X)
def mLc (it : AL) (g : AG) (e : AM) (vs : List Nat) : AMO := fun ρ Q X => it ρ (fun ds => aCompM g e vs ds [] (wipeA ρ vs) (fun acc ρ' => Q (.ol acc) ρ') X) (fun x => X x ρ)
theorem owns_wipe {vs : List Nat} : ∀ p ∈ owns (wipeA ρ vs) (wipe σ vs), p ∈ owns ρ σ := by
  induction vs with
  | nil => exact fun p hp => hp
  | cons v vs ih => exact fun p hp => ih p ((owns_set_sub (wipeA ρ vs) (wipe σ vs) v none none rfl).mem hp)
theorem simM_lc {js vs : List Nat} {wi : TI} {it : AL} {g : TG} {ag : AG} {te : TE} {e : AM} (hi : SimI c wi it) (hg : SimG c js g ag) (he : SimM c te e) (hj : (js.all fun j => vs.contains j) = true) (hv : (vs.all fun i => noPar c i) = true) :
    SimMO c (tLc wi g tYes te vs) (mLc it ag e vs) := fun U H σ ρ Q q I z k => by
  refine hi U H σ ρ _ _ I z fun U1 H1 J ds g1 I1 W z1 => ?_
  obtain ⟨Y, w, hY⟩ := W
  intro Da nD
  have nD0 : H Da = none := g1.fresh nD
  have nDH : c.H0 Da = none := I1.gr.fresh nD
  have hjs : ∀ j ∈ js, j ∈ vs := fun j hj' => List.contains_iff_mem.mp (List.all_eq_true.mp hj j hj')
  have o0 : ∀ p ∈ owns (wipeA ρ vs) (wipe σ vs), p ∈ owns ρ σ := owns_wipe
  have lw : (wipe σ vs).length = σ.length := wipe_length _ _
  have lr : ρ.length = σ.length := I.rep.length
  refine lc_it (Qd := fun H' => q (.ref Da) H') w (fun n H' => ∃ U' ρn acc accD, Gr (owns ρ σ) U1 H1 U' H' ∧ DI c U' H' (wipe σ vs) ρn ∧ (∀ v ∈ vs, v < σ.length → ρn[v]? = some none) ∧ (∀ p ∈ owns ρn (wipe σ vs), p ∈ owns ρ σ ∨ H1 p = none) ∧ H' Da = some (.lst acc) ∧ U' Da = none ∧ Da ∉ owns ρn (wipe σ vs) ∧ Rs c.K U' accD acc ∧ aCompM ag e vs (ds.drop n) accD ρn (fun acc ρ' => Q (.ol acc) ρ') (fun x ρ => c.x ρ x)) ?_ ?_ ?_ ?_
  · have g2 : Gr [] U1 H1 U1 (upd H1 Da (.lst [])) := (Gr.refl I1.vh).newM nD
    obtain ⟨Iw, _, _⟩ := (I1.grow g2).wipe hv
    exact ⟨U1, wipeA ρ vs, [], [], g2.any, Iw, fun v hv' hl => by rw [wipeA_at, if_pos hv', if_pos (by omega)], fun p hp => .inl (o0 p hp), upd_same, I1.vh.free nD, fun h => I1.ex Da (o0 Da h) nD, rfl, z1⟩
  · rintro n H' hn ⟨U', ρn, acc, accD, gg, I', _⟩
    exact fun a o ha => gg.vh a o (gg.vv a o ha)
  · rintro n x H' H'' hn ⟨U', ρn, acc, accD, gg, I', hw, on, hD, uD, nDn, hr, z2⟩ hy
    have ed : ds[n]? = some ds[n] := List.getElem?_eq_getElem hn
    obtain ⟨U3, g3, r3⟩ := hY n H' x H'' _ U' gg.vv I'.vh hy ed
    rw [drop_at ed] at z2
    have I3 := I'.grow g3
    refine hg U3 H'' _ _ _ x _ _ I3 r3 z2 fun σ2 ρ2 I2 p2 z3 => ⟨wipe_put p2 hjs, ?_⟩
    unfold tYes
    refine i_itT (he U3 H'' σ2 ρ2 _ _ I2 z3 fun U6 H6 ρ6 y vy g6 I6 o6 r6 z6 => ?_)
    have hD3 := g3.hh _ _ (by simp) (ntb rfl) hD
    have uD3 : U3 Da = none := g3.fr Da uD (by rw [hD]; intro z; cases z)
    have nD2 : Da ∉ owns ρ2 σ2 := fun h => nDn (p2.ow Da h)
    have hD6 := g6.hh _ _ nD2 (ntb rfl) hD3
    have uD6 : U6 Da = none := g6.fr Da uD3 (by rw [hD3]; intro z; cases z)
    obtain ⟨Iw, _, _⟩ := I6.wipe hv
    have ew : wipe σ2 vs = wipe σ vs := wipe_put p2 hjs
    have o6w : ∀ p ∈ owns (wipeA ρ6 vs) (wipe σ2 vs), p ∈ owns ρ6 σ2 := owns_wipe
    rw [ew] at Iw o6w
    have oldD : ∀ p ∈ owns (wipeA ρ6 vs) (wipe σ vs), p ∈ owns ρn (wipe σ vs) ∨ H'' p = none := fun p hp => (o6 p (o6w p hp)).imp (p2.ow p) id
    have nD6 : Da ∉ owns (wipeA ρ6 vs) (wipe σ vs) := fun h => by
      rcases oldD Da h with z | z
      · exact nDn z
      · rw [hD3] at z
        cases z
    have gg3 : Gr (owns ρ σ) U1 H1 U3 H'' := gg.trans g3.any
    have gg6 : Gr (owns ρ σ) U1 H1 U6 H6 := gg3.comp g6 fun p hp => on p (p2.ow p hp)
    refine ⟨acc, hD6, lt_size (by rw [← hr.len]; exact z6.1), U6, wipeA ρ6 vs, acc ++ [vy], accD ++ [y], gg6.mut uD6 (.inr nD) (.of hD6 rfl), Iw.mutFree uD6 nDH nD6 (.of hD6 rfl), fun v hv' hl => ?_, fun p hp => ?_, upd_same, uD6, nD6, (Rs.mono (g3.vv.trans g6.vv) _ _ hr).snoc r6, z6.2⟩
    · rw [wipeA_at, if_pos hv', if_pos (by rw [I6.rep.length, p2.len, lw]; exact hl)]
    · rcases oldD p hp with z | z
      · exact on p z
      · exact .inr (gg3.fresh z)
  · rintro H' ⟨U', ρn, acc, accD, gg, I', hw, on, hD, uD, nDn, hr, z2⟩
    rw [List.drop_length] at z2
    have hk : ∀ k : Nat, ρn[k]? = some none ∨ (wipe σ vs)[k]? = σ[k]? := fun k => by
      rw [wipe_at]
      by_cases hv' : k ∈ vs
      · by_cases hl : k < σ.length
        · exact .inl (hw k hv' hl)
        · refine .inr ?_
          rw [if_pos hv', if_neg hl, List.getElem?_eq_none (by omega)]
      · exact .inr (if_neg hv')
    have hsel : selM c.ks σ = selM c.ks (wipe σ vs) := sel_at c.ks _ _ fun k hk' => by
      rw [wipe_at, if_neg fun z => by
        have := noPar_of (List.all_eq_true.mp hv k z)
        rw [this] at hk'
        cases hk']
    have If := I'.resig lw hk hsel
    have eo := owns_resig lw hk
    refine k U' H' ρn (.ol accD) (.ref Da) ((g1.weak drs_sub).trans gg) If (fun p hp => ?_) ⟨Da, acc, rfl, hD, hr⟩ (.one rfl uD nD0) (fun p hp hz => ?_) z2
    · rw [← eo] at hp
      exact (on p hp).imp id g1.fresh
    · rw [List.mem_singleton.mp hp, ← eo] at hz
      exact nDn hz
end
end SW
namespace SW
open PySem PySem.Spec PyProof.Rows L2
variable [QN]
section
variable {c : DC} {U H U' H' : Hp} {σ : L2.St} {ρ ρ' : Env}
inductive Swap : AV → V → AV → V → AV → AV → Prop
  | here {b b' : AV} {w : V} : Swap b w b w b' b'
  | on {ws : List V} {as : List AV} {v : V} {k : Nat} {a a' b b' : AV} {x w : V} : as[k]? = some a → ws[k]? = some x → Swap a x b w b' a' → Swap (.on ws as) v b w b' (.on ws (as.set k a'))
theorem ownAs_set : ∀ {as : List AV} {ws : List V} {k : Nat} {a a' : AV} {x : V}, as[k]? = some a → ws[k]? = some x → own a' x = own a x → ownAs (as.set k a') ws = ownAs as ws
  | [], _, k, a, a', x, e, _, _ => by simp at e
  | _ :: _, [], k, a, a', x, _, e, _ => by simp at e
  | b :: as, y :: ws, 0, a, a', x, e, f, h => by
    cases e
    cases f
    show own a' _ ++ ownAs as ws = own _ _ ++ ownAs as ws
    rw [h]
  | b :: as, y :: ws, k + 1, a, a', x, e, f, h => by
    show own b y ++ ownAs (as.set k a') ws = own b y ++ ownAs as ws
    rw [ownAs_set (as := as) (ws := ws) e f h]
theorem repAs_set {K : PySem.W.Frag} : ∀ {as : List AV} {ws : List V} {k : Nat} {a a' : AV} {x : V}, RepAs K U H as ws → as[k]? = some a → ws[k]? = some x → RepA K U H' a' x → (ownAs as ws).Nodup → (∀ p, p ∉ own a x → H' p = H p) → (∀ p ∈ ownAs as ws, U p = none) → RepAs K U H' (as.set k a') ws
  | [], _, k, a, a', x, _, e, _, _, _, _, _ => by simp at e
  | _ :: _, [], k, a, a', x, _, _, e, _, _, _, _ => by simp at e
  | b :: as, y :: ws, 0, a, a', x, ⟨v, r, e1, h1, h2⟩, e, f, h, nd, hH, hu => by
    cases e
    cases f
    obtain ⟨rfl, rfl⟩ := List.cons.inj e1
    obtain ⟨n1, n2, n3⟩ := List.nodup_append.mp (show (own b y ++ ownAs as ws).Nodup from nd)
    exact ⟨y, ws, rfl, h, RepAs.keep (Same.refl U) as ws (fun p hp => ⟨hH p (fun z => n3 p z p hp rfl), hu p (List.mem_append_right _ hp)⟩) h2⟩
  | b :: as, y :: ws, k + 1, a, a', x, ⟨v, r, e1, h1, h2⟩, e, f, h, nd, hH, hu => by
    obtain ⟨rfl, rfl⟩ := List.cons.inj e1
    obtain ⟨n1, n2, n3⟩ := List.nodup_append.mp (show (own b y ++ ownAs as ws).Nodup from nd)
    exact ⟨y, ws, rfl, RepA.keep (Same.refl U) b y (fun p hp => ⟨hH p (fun z => n3 p hp p (ownAs_at (as := as) e f p z) rfl), hu p (List.mem_append_left _ hp)⟩) h1, repAs_set (as := as) h2 e f h n2 hH fun p hp => hu p (List.mem_append_right _ hp)⟩
theorem Swap.sub {K : PySem.W.Frag} {a b b' a' : AV} {v w : V} (h : Swap a v b w b' a') : RepA K U H a v → ∀ p ∈ own b w, p ∈ own a v := by
  induction h with
  | here => exact fun _ p hp => hp
  | on h1 h2 _ ih =>
    rintro ⟨q, rfl, _, k⟩ p hp
    exact List.mem_cons_of_mem _ (ownAs_at h1 h2 p (ih (RepAs.at k _ _ _ h1 h2) p hp))
theorem ownAs_nd : ∀ {as : List AV} {ws : List V} {k : Nat} {a : AV} {x : V}, as[k]? = some a → ws[k]? = some x → (ownAs as ws).Nodup → (own a x).Nodup
  | [], _, k, a, x, e, _, _ => by simp at e
  | _ :: _, [], k, a, x, _, e, _ => by simp at e
  | b :: as, y :: ws, 0, a, x, e, f, h => by
    cases e
    cases f
    exact (List.nodup_append.mp (show (own b y ++ ownAs as ws).Nodup from h)).1
  | b :: as, y :: ws, k + 1, a, x, e, f, h => ownAs_nd (as := as) (ws := ws) e f (List.nodup_append.mp (show (own b y ++ ownAs as ws).Nodup from h)).2.1
theorem Swap.ok {K : PySem.W.Frag} {a b b' a' : AV} {v w : V} (h : Swap a v b w b' a') : RepA K U H a v → (own a v).Nodup → (∀ p ∈ own a v, U p = none) → RepA K U H' b' w → own b' w = own b w → b'.kind = b.kind → (∀ p, p ∉ own b w → H' p = H p) → RepA K U H' a' v ∧ own a' v = own a v ∧ a'.kind = a.kind := by
  induction h with
  | here => exact fun _ _ _ h1 h2 h3 _ => ⟨h1, h2, h3⟩
  | @on ws as v k a a' b b' x w h1 h2 hs ih =>
    rintro ⟨q, rfl, hq, k1⟩ nd hu r1 o1 kd hH
    have nd' : (q :: ownAs as ws).Nodup := nd
    obtain ⟨nq, nd2⟩ := List.nodup_cons.mp nd'
    have ra := RepAs.at k1 _ _ _ h1 h2
    have sub : ∀ p ∈ own a x, p ∈ ownAs as ws := ownAs_at h1 h2
    obtain ⟨i1, i2, i3⟩ := ih ra (ownAs_nd h1 h2 nd2) (fun p hp => hu p (List.mem_cons_of_mem _ (sub p hp))) r1 o1 kd hH
    have eo := ownAs_set h1 h2 i2
    have qn : q ∉ own b w := fun z => nq (sub q (hs.sub ra q z))
    refine ⟨⟨q, rfl, (hH q qn).trans hq, repAs_set k1 h1 h2 i1 nd2 (fun p hp => hH p fun z => hp (hs.sub ra p z)) fun p hp => hu p (List.mem_cons_of_mem _ hp)⟩, ?_, rfl⟩
    show q :: ownAs (as.set k a') ws = q :: ownAs as ws
    rw [eo]
theorem DI.swap {j : Nat} {a b b' a' : AV} {v w : V} (I : DI c U H σ ρ) (e1 : ρ[j]? = some (some a)) (e2 : σ[j]? = some (some v)) (h : Swap a v b w b' a') (r : RepA c.K U H' b' w) (ho : own b' w = own b w) (hk : b'.kind = b.kind) (hH : ∀ p, p ∉ own b w → H' p = H p) (hd : ∀ p ∈ own b w, H' p ≠ none) : DI c U H' σ (ρ.set j (some a')) := by
  obtain ⟨v', f1, f2, f3⟩ := rep_at I.rep j a e1
  rw [e2] at f1
  cases f1
  have hu : ∀ p ∈ own a v, U p = none := fun p hp => (I.out p (f3 p hp)).1
  obtain ⟨k1, k2, k3⟩ := h.ok f2 (own_nd I.nd e1 e2) hu r ho hk hH
  have sub := h.sub f2
  have hj : j < ρ.length := (List.getElem?_eq_some_iff.mp e1).1
  have ej : (ρ.set j (some a'))[j]? = some (some a') := List.getElem?_set_self hj
  have ok1 : ownK ρ σ j = own a v := by unfold ownK; rw [e1, e2]; rfl
  have ok2 : ownK (ρ.set j (some a')) σ j = own a v := by unfold ownK; rw [ej, e2]; exact k2
  have g : Gr (own b w) U H U H' := ⟨Same.refl U, fun x o e => by
    have : x ∉ own b w := fun z => by rw [hu x (sub x z)] at e; cases e
    rw [hH x this]
    exact I.vh x o e, fun x o m _ e => by rw [hH x m]; exact e, fun x e => by
    by_cases z : x ∈ own b w
    · exact hd x z
    · rw [hH x z]; exact e, fun x e _ => e, fun P h => tab_keep h fun x o e n => by
    rw [hH x fun z => by
      obtain ⟨y, y1, y2⟩ := I.pl x (f3 x (sub x z))
      rw [y1] at e
      cases e
      rw [y2] at n
      cases n]
    exact e, id⟩
  refine I.multi (M := own b w) (fun k => k == j) g (List.length_set ..) (fun k hk => ?_) (fun k hk => ?_) (fun p hp => ⟨j, by simp, by rw [ok1]; exact sub p hp⟩) (fun k p hk hp => ?_) (fun k l p hkl h1 h2 => ?_)
  · rw [List.getElem?_set_ne fun z => by rw [z] at hk; simp at hk]
  · have : k = j := by simpa using hk
    subst this
    exact ⟨a, a', v, e1, ej, e2, k3, k1, by rw [k2]; exact own_nd I.nd e1 e2⟩
  · have : k = j := by simpa using hk
    subst this
    rw [ok2] at hp
    exact ⟨hu p hp, .inl (by rw [ok1]; exact hp)⟩
  · have a1 : k = j := by simpa using h1
    have a2 : l = j := by simpa using h2
    exact absurd (a1.trans a2.symm) hkl
def lnIx : List V → Addr → Option Nat
  | .ref p :: ws, q => if p = q then some 0 else (lnIx ws q).map (· + 1)
  | _ :: ws, q => (lnIx ws q).map (· + 1)
  | [], _ => none
theorem lnIx_at : ∀ {ws : List V} {q : Addr} {m : Nat}, lnIx ws q = some m → ws[m]? = some (.ref q)
  | [], q, m, h => by cases h
  | v :: ws, q, m, h => by
    have go : ∀ {n : Nat}, (lnIx ws q).map (· + 1) = some n → (v :: ws)[n]? = some (.ref q) := fun {n} h => by
      cases e : lnIx ws q with
      | none => rw [e] at h; cases h
      | some k =>
        rw [e] at h
        cases h
        exact lnIx_at (ws := ws) e
    unfold lnIx at h
    split at h
    · rename_i p ws' q' e1
      cases e1
      split at h
      · rename_i e
        cases h
        rw [← e]
        rfl
      · exact go h
    · rename_i e1
      cases e1
      exact go h
    · rename_i e1
      cases e1
def lnQ (ρ : Env) (j ln : Nat) (Q : List V → List AV → Nat → List V → List AV → Prop) : Prop := match ρ[j]?, ρ[ln]? with
  | some (some (.on ws as)), some (some (.fz (.adr q))) => match lnIx ws q with
    | some m => match as[m]? with
      | some (.on xs bs) => Q ws as m xs bs
      | _ => False
    | none => False
  | _, _ => False
theorem lnQ_of {j ln : Nat} {Q : List V → List AV → Nat → List V → List AV → Prop} (h : lnQ ρ j ln Q) : ∃ ws as q m xs bs, ρ[j]? = some (some (.on ws as)) ∧ ρ[ln]? = some (some (.fz (.adr q))) ∧ ws[m]? = some (.ref q) ∧ as[m]? = some (.on xs bs) ∧ Q ws as m xs bs := by
  unfold lnQ at h
  split at h
  · rename_i ws as q e1 e2
    split at h
    · rename_i m e3
      split at h
      · rename_i xs bs e4
        exact ⟨ws, as, q, m, xs, bs, e1, e2, lnIx_at e3, e4, h⟩
      · exact h.elim
    · exact h.elim
  · exact h.elim
def shQ (Q : D → Prop) : Option AV → Prop
  | some a => someQ Q a.sh
  | none => False
theorem shQ_of {Q : D → Prop} {o : Option AV} (h : shQ Q o) : ∃ a d, o = some a ∧ a.sh = some d ∧ Q d := by
  cases o with
  | none => exact h.elim
  | some a =>
    obtain ⟨d, e, z⟩ := someQ_of h
    exact ⟨a, d, rfl, e, z⟩
def fzOf (Q : D → Prop) : Option AV → Prop
  | some (.fz d) => Q d
  | _ => False
theorem fzOf_of {Q : D → Prop} {o : Option AV} (h : fzOf Q o) : ∃ d, o = some (.fz d) ∧ Q d := by
  unfold fzOf at h
  split at h
  · exact ⟨_, rfl, h⟩
  · exact h.elim
theorem atI_rep {K : PySem.W.Frag} {as : List AV} {xs : List V} {i : Int} {a : AV} (r : RepAs K U H as xs) (h : atI as i = some a) : ∃ (k : Nat) (v : V), ixN as.length i = some k ∧ as[k]? = some a ∧ xs[k]? = some v ∧ atI xs i = some v ∧ RepA K U H a v := by
  unfold atI at h ⊢
  rw [← r.len]
  cases e : ixN as.length i with
  | none => rw [e] at h; cases h
  | some j =>
    rw [e] at h
    have h' : as[j]? = some a := h
    obtain ⟨v, h1, h2⟩ := Paired.at' r.paired j a h'
    exact ⟨j, v, rfl, h', h1, h1, h2⟩
def aLn (j ln : Nat) (i : Int) : AE := fun ρ Q _ => lnQ ρ j ln fun _ _ _ _ bs => shQ Q (atI bs i)
def aLnE (j ln : Nat) (i : Int) : AE := fun ρ Q _ => lnQ ρ j ln fun _ _ _ _ bs => fzOf Q (atI bs i)
theorem ln_at {j ln : Nat} {ws : List V} {as : List AV} {q : Addr} {m : Nat} {xs : List V} {bs : List AV} (I : DI c U H σ ρ) (e1 : ρ[j]? = some (some (.on ws as))) (e2 : ρ[ln]? = some (some (.fz (.adr q)))) (e3 : ws[m]? = some (.ref q)) (e4 : as[m]? = some (.on xs bs)) : ∃ v0, σ[j]? = some (some v0) ∧ σ[ln]? = some (some (.ref q)) ∧ H q = some (.lst xs) ∧ RepAs c.K U H bs xs ∧ RepA c.K U H (.on ws as) v0 := by
  obtain ⟨v0, f1, f2, f3⟩ := rep_at I.rep j _ e1
  obtain ⟨w, g1, g2, _⟩ := rep_at I.rep ln _ e2
  have g2' : w = .ref q := g2
  subst g2'
  obtain ⟨p0, h1, h2, h3⟩ := f2
  obtain ⟨p1, k1, k2, k3⟩ := RepAs.at h3 _ _ _ e4 e3
  cases k1
  exact ⟨v0, f1, g1, k2, k3, p0, h1, h2, h3⟩
theorem sim_ln {j ln : Nat} {i : Int} : SimW c (tOp (rIxL c.K) (tVar ln) (tC (.int i))) (aLn j ln i) := fun U H σ ρ Q q I z k => by
  obtain ⟨ws, as, a, m, xs, bs, e1, e2, e3, e4, z⟩ := lnQ_of z
  obtain ⟨b, d, e5, e6, z⟩ := shQ_of z
  obtain ⟨v0, s1, s2, s3, s4, s5⟩ := ln_at I e1 e2 e3 e4
  obtain ⟨n, w, x1, x2, x3, x4, x5⟩ := atI_rep s4 e5
  exact ⟨.ref a, s2, a, xs, i, w, rfl, rfl, SqL.of s3, x4, k U H d w (Gr.refl I.vh) I (.inr ⟨j, _, v0, b, e1, s1, .on e4 e3 (.on x2 x3 .here), e6⟩) z⟩
theorem sim_lnE {j ln : Nat} {i : Int} : SimE c (tOp (rIxL c.K) (tVar ln) (tC (.int i))) (aLnE j ln i) := fun U H σ ρ Q q I z k => by
  obtain ⟨ws, as, a, m, xs, bs, e1, e2, e3, e4, z⟩ := lnQ_of z
  obtain ⟨d, e5, z⟩ := fzOf_of z
  obtain ⟨v0, s1, s2, s3, s4, s5⟩ := ln_at I e1 e2 e3 e4
  obtain ⟨n, w, x1, x2, x3, x4, x5⟩ := atI_rep s4 e5
  exact ⟨.ref a, s2, a, xs, i, w, rfl, rfl, SqL.of s3, x4, k U H d w (Gr.refl I.vh) I x5 z⟩
def olOf (bs : List AV) (i : Int) (Q : Nat → List D → Prop) : Prop := match ixN bs.length i with
  | some k => match bs[k]? with
    | some (.ol ds) => Q k ds
    | _ => False
  | none => False
theorem olOf_of {bs : List AV} {i : Int} {Q : Nat → List D → Prop} (h : olOf bs i Q) : ∃ k ds, ixN bs.length i = some k ∧ bs[k]? = some (.ol ds) ∧ Q k ds := by
  unfold olOf at h
  split at h
  · rename_i k e
    split at h
    · exact ⟨k, _, e, by assumption, h⟩
    · exact h.elim
  · exact h.elim
/-- an inner list grows -/
def aAppLn (j ln : Nat) (i : Int) (e : AE) : AS := fun N ρ => lnQ ρ j ln fun ws as m xs bs => olOf bs i fun k ds => e ρ (fun d => ds.length < 1000000 ∧ N.nx (ρ.set j (some (.on ws (as.set m (.on xs (bs.set k (.ol (ds ++ [d])))))))) ) (fun x => N.ex x ρ)
theorem sim_appLn {j ln : Nat} {i : Int} {te : TE} {e : AE} (he : SimE c te e) : SimS c (tDrop (tBM c.K "list" rAppend (tOp (rIxL c.K) (tVar ln) (tC (.int i))) (tCons te tNil))) (aAppLn j ln i e) := fun U H σ ρ N n hx I z P => by
  obtain ⟨ws, as, a, m, xs, bs, e1, e2, e3, e4, z⟩ := lnQ_of z
  obtain ⟨k, ds, e5, e6, z⟩ := olOf_of z
  rw [hx] at z
  obtain ⟨v0, s1, s2, s3, s4, s5⟩ := ln_at I e1 e2 e3 e4
  have e7 : atI bs i = some (.ol ds) := by unfold atI; rw [e5]; exact e6
  obtain ⟨k', w, x1, x2, x3, x4, p, ys, x5, x6, x7⟩ := atI_rep s4 e7
  rw [e5] at x1
  cases x1
  subst x5
  refine ⟨.ref a, s2, a, xs, i, .ref p, rfl, rfl, SqL.of s3, x4, .inl ⟨rfl, ys, SqL.of x6⟩, he U H σ ρ _ _ I z fun U1 H1 d v g1 I1 r1 z1 => ?_⟩
  obtain ⟨v1, t1, t2, t3, t4, t5⟩ := ln_at I1 e1 e2 e3 e4
  rw [s1] at t1
  cases t1
  obtain ⟨p', ys', y5, y6, y7⟩ := RepAs.at t4 _ _ _ e6 x3
  cases y5
  have sw : Swap (.on ws as) v0 (.ol ds) (.ref p) (.ol (ds ++ [d])) (.on ws (as.set m (.on xs (bs.set k (.ol (ds ++ [d])))))) := .on e4 e3 (.on e6 x3 .here)
  refine ⟨p, ys', v, rfl, rfl, y6, lt_size (by rw [← y7.len]; exact z1.1), P.nx U1 _ σ _ g1.vv (I1.swap e1 s1 sw ⟨p, _, rfl, upd_same, y7.snoc r1⟩ rfl rfl (fun x hx' => upd_ne fun z => hx' (by rw [z]; exact List.mem_singleton.mpr rfl)) (fun x hx' => by rw [List.mem_singleton.mp hx', upd_same]; intro z; cases z)) z1.2⟩
/-- lines[i][k], where that never changes -/
def onQ (ρ : Env) (j : Nat) (Q : List V → List AV → Prop) : Prop := match ρ[j]? with
  | some (some (.on ws as)) => Q ws as
  | _ => False
theorem onQ_of {j : Nat} {Q : List V → List AV → Prop} (h : onQ ρ j Q) : ∃ ws as, ρ[j]? = some (some (.on ws as)) ∧ Q ws as := by
  unfold onQ at h
  split at h
  · exact ⟨_, _, by assumption, h⟩
  · exact h.elim
def onOf (Q : List AV → Prop) : Option AV → Prop
  | some (.on _ bs) => Q bs
  | _ => False
theorem onOf_of {Q : List AV → Prop} {o : Option AV} (h : onOf Q o) : ∃ xs bs, o = some (.on xs bs) ∧ Q bs := by
  unfold onOf at h
  split at h
  · exact ⟨_, _, rfl, h⟩
  · exact h.elim
def aOnIx (j : Nat) (e : AE) (i : Int) : AE := fun ρ Q X => onQ ρ j fun _ as => e ρ (intQ fun n => onOf (fun bs => fzOf Q (atI bs i)) (atI as n)) X
theorem sim_onIx {j : Nat} {i : Int} {te : TE} {e : AE} (he : SimE c te e) : SimE c (tOp (rIxL c.K) (tOp (rIxL c.K) (tVar j) te) (tC (.int i))) (aOnIx j e i) := fun U H σ ρ Q q I z k => by
  obtain ⟨ws, as, e1, z⟩ := onQ_of z
  obtain ⟨v0, f1, _⟩ := rep_at I.rep j _ e1
  refine ⟨v0, f1, he U H σ ρ _ _ I z fun U1 H1 d v g1 I1 r1 z1 => ?_⟩
  obtain ⟨n, rfl, z1⟩ := intQ_of z1
  obtain ⟨xs, bs, e2, z1⟩ := onOf_of z1
  obtain ⟨d, e3, z1⟩ := fzOf_of z1
  obtain ⟨v1, f2, f3, _⟩ := rep_at I1.rep j _ e1
  rw [f1] at f2
  cases f2
  obtain ⟨p, rfl, g2, g3⟩ := f3
  obtain ⟨m, w, x1, x2, x3, x4, p', x5, x6, x7⟩ := atI_rep g3 e2
  subst x5
  obtain ⟨m', w', y1, y2, y3, y4, y5⟩ := atI_rep x7 e3
  exact ⟨p, ws, n, .ref p', rfl, r1, SqL.of g2, x4, p', xs, i, w', rfl, rfl, SqL.of x6, y4, k U1 H1 d w' g1 I1 y5 z1⟩
abbrev AMLO := Env → (List AV → Env → Prop) → (Exn → Env → Prop) → Prop
def SimMLO (c : DC) (t : TA) (e : AMLO) : Prop := ∀ (U H : Hp) (σ : L2.St) (ρ : Env) (Q : List AV → Env → Prop) (q : List V → Hp → Prop), DI c U H σ ρ → e ρ Q (fun x ρ => c.x ρ x) →
  (∀ U' H' ρ' avs vs, Gr (owns ρ σ) U H U' H' → DI c U' H' σ ρ' → OldNew H ρ ρ' σ → RepAs c.K U' H' avs vs → (ownAs avs vs).Nodup → (∀ p ∈ ownAs avs vs, U' p = none ∧ H p = none ∧ p ∉ owns ρ' σ) → Q avs ρ' → q vs H') → t σ H q
def mNilO : AMLO := fun ρ Q _ => Q [] ρ
def mConsO (a : AMO) (r : AMLO) : AMLO := fun ρ Q X => a ρ (fun d ρ1 => r ρ1 (fun ds ρ2 => Q (d :: ds) ρ2) X) X
theorem simM_nilO : SimMLO c tNil mNilO := fun U H σ ρ Q q I z k => k U H ρ [] [] (Gr.refl I.vh) I .refl rfl List.nodup_nil (fun p hp => by cases hp) z
theorem simM_consO {ta : TE} {tr : TA} {m : AMO} {r : AMLO} (ha : SimMO c ta m) (hr : SimMLO c tr r) : SimMLO c (tCons ta tr) (mConsO m r) := fun U H σ ρ Q q I z k =>
  ha U H σ ρ _ _ I z fun U1 H1 ρ1 av v g1 I1 o1 r1 n1 d1 z1 => hr U1 H1 σ ρ1 _ _ I1 z1 fun U2 H2 ρ2 avs vs g2 I2 o2 r2 nd2 f2 z2 => by
    have ex1 : ∀ p ∈ own av v, H1 p ≠ none := own_some av v r1
    refine k U2 H2 ρ2 (av :: avs) (v :: vs) (g1.comp g2 o1) I2 (o1.trans g1 o2) ⟨v, vs, rfl, RepA.keep g2.vv av v (fun p hp => ⟨keep_at g2 (own_pl av v r1 p hp) (d1 p hp), g2.fr p (n1.out p hp).1 (ex1 p hp)⟩) r1, r2⟩ ?_ (fun p hp => ?_) z2
    · exact List.nodup_append.mpr ⟨n1.nd, nd2, fun x hx y hy e => ex1 x hx (by rw [e]; exact (f2 y hy).2.1)⟩
    · rcases List.mem_append.mp hp with hp | hp
      · refine ⟨g2.fr p (n1.out p hp).1 (ex1 p hp), (n1.out p hp).2, fun z => ?_⟩
        rcases o2 p z with y | y
        · exact d1 p hp y
        · exact ex1 p hp y
      · exact ⟨(f2 p hp).1, g1.fresh (f2 p hp).2.1, (f2 p hp).2.2⟩
/-- a value that never changes, among things of one's own -/
def mUp (e : AM) : AMO := fun ρ Q X => e ρ (fun d ρ1 => Q (.fz d) ρ1) X
theorem simM_up {t : TE} {m : AM} (h : SimM c t m) : SimMO c t (mUp m) := fun U H σ ρ Q q I z k => h U H σ ρ _ _ I z fun U1 H1 ρ1 d v g1 I1 o1 r1 z1 => k U1 H1 ρ1 (.fz d) v g1 I1 o1 r1 .fz (fun p hp => by cases v <;> cases hp) z1
def mLstO (r : AMLO) : AMO := fun ρ Q X => r ρ (fun as ρ1 => as.length ≤ 1000000 ∧ ∀ ws : List V, ws.length = as.length → Q (.on ws as) ρ1) X
theorem simM_lstO {tr : TA} {r : AMLO} (hr : SimMLO c tr r) : SimMO c (tLst tr) (mLstO r) := fun U H σ ρ Q q I z k =>
  hr U H σ ρ _ _ I z fun U1 H1 ρ1 avs vs g1 I1 o1 r1 nd1 f1 z1 => ⟨le_size (by rw [← r1.len]; exact z1.1), fun p np => by
    have g2 : Gr [] U1 H1 U1 (upd H1 p (.lst vs)) := (Gr.refl I1.vh).newM np
    have ex1 : ∀ q ∈ ownAs avs vs, H1 q ≠ none := ownAs_some avs vs r1
    have np' : p ∉ ownAs avs vs := fun z => ex1 p z np
    refine k _ _ ρ1 (.on vs avs) (.ref p) (g1.trans g2.any) (I1.grow g2) o1 ⟨p, rfl, upd_same, RepAs.keep (Same.refl U1) avs vs (fun q hq => ⟨upd_ne (fun z => np' (z ▸ hq)), (f1 q hq).1⟩) r1⟩ ⟨List.nodup_cons.mpr ⟨np', nd1⟩, fun q hq => ?_⟩ (fun q hq y => ?_) (z1.2 vs r1.len.symm)
    · rcases List.mem_cons.mp hq with rfl | hq
      · exact ⟨I1.vh.free np, g1.fresh np⟩
      · exact ⟨(f1 q hq).1, (f1 q hq).2.1⟩
    · rcases List.mem_cons.mp hq with rfl | hq
      · exact I1.ex q y np
      · exact (f1 q hq).2.2 y⟩
theorem repAs_snoc {K : PySem.W.Frag} : ∀ {as : List AV} {ws : List V} {a : AV} {w : V}, RepAs K U H as ws → RepA K U H a w → RepAs K U H (as ++ [a]) (ws ++ [w])
  | [], _, a, w, h, k => by
    rw [show _ = [] from h]
    exact ⟨w, [], rfl, k, rfl⟩
  | b :: as, _, a, w, ⟨v, r, e, h1, h2⟩, k => by
    subst e
    exact ⟨v, r ++ [w], rfl, h1, repAs_snoc h2 k⟩
theorem ownAs_snoc {K : PySem.W.Frag} : ∀ {as : List AV} {ws : List V} {a : AV} {w : V}, RepAs K U H as ws → ownAs (as ++ [a]) (ws ++ [w]) = ownAs as ws ++ own a w
  | [], _, a, w, h => by
    rw [show _ = [] from h]
    show own a w ++ [] = [] ++ own a w
    rw [List.append_nil]
    rfl
  | b :: as, _, a, w, ⟨v, r, e, h1, h2⟩ => by
    subst e
    show own b v ++ ownAs (as ++ [a]) (r ++ [w]) = (own b v ++ ownAs as r) ++ own a w
    rw [ownAs_snoc h2, List.append_assoc]
/-- a thing of one's own is put behind a list of such things -/
def mAppN (j : Nat) (e : AMO) : AS := fun N ρ => onQ ρ j fun _ _ => e ρ (fun av ρ1 => onQ ρ1 j fun ws as => ws.length < 1000000 ∧ av.kind = 5 ∧ ∀ p : Addr, (∀ (k : Nat) (xs : List V) (bs : List AV), as[k]? = some (.on xs bs) → ws[k]? ≠ some (.ref p)) → N.nx (ρ1.set j (some (.on (ws ++ [.ref p]) (as ++ [av]))))) N.ex
theorem simM_appN {j : Nat} {t : TE} {mo : AMO} (he : SimMO c t mo) : SimS c (tDrop (tBM c.K "list" rAppend (tVar j) (tCons t tNil))) (mAppN j mo) := fun U H σ ρ N n hx I z P => by
  obtain ⟨ws0, as0, e0, z⟩ := onQ_of z
  rw [hx] at z
  obtain ⟨v0, f1, f2, _⟩ := rep_at I.rep j _ e0
  obtain ⟨p, rfl, f3, f4⟩ := f2
  refine ⟨.ref p, f1, .inl ⟨rfl, ws0, SqL.of f3⟩, he U H σ ρ _ _ I z fun U1 H1 ρ1 av v g1 I1 o1 r1 n1 d1 z1 => ?_⟩
  obtain ⟨ws, as, e1, z2, z3, z4⟩ := onQ_of z1
  obtain ⟨v1, h1, h2, h3⟩ := rep_at I1.rep j _ e1
  rw [f1] at h1
  cases h1
  obtain ⟨p', x1, x2, x3⟩ := h2
  cases x1
  obtain ⟨xs0, bs0, rfl⟩ : ∃ xs0 bs0, av = .on xs0 bs0 := by
    cases av <;> first | exact ⟨_, _, rfl⟩ | cases z3
  obtain ⟨a, rfl, ha1, ha2⟩ := r1
  have r1 : RepA c.K U1 H1 (.on xs0 bs0) (.ref a) := ⟨a, rfl, ha1, ha2⟩
  have frA : ∀ (k : Nat) (xs : List V) (bs : List AV), as[k]? = some (.on xs bs) → ws[k]? ≠ some (.ref a) := fun k xs bs g1 g2 => d1 a List.mem_cons_self (h3 a (List.mem_cons_of_mem _ (ownAs_at g1 g2 a List.mem_cons_self)))
  have nd1 : (p :: ownAs as ws).Nodup := own_nd I1.nd e1 f1
  obtain ⟨np, nd2⟩ := List.nodup_cons.mp nd1
  have hu : ∀ q ∈ p :: ownAs as ws, U1 q = none := fun q hq => (I1.out q (h3 q hq)).1
  have pa : p ∉ own (.on xs0 bs0) (.ref a) := fun z => d1 p z (h3 p List.mem_cons_self)
  have ej : (ρ1.set j (some (.on (ws ++ [.ref a]) (as ++ [.on xs0 bs0]))))[j]? = some (some (.on (ws ++ [.ref a]) (as ++ [.on xs0 bs0]))) := List.getElem?_set_self (List.getElem?_eq_some_iff.mp e1).1
  have up : U1 p = none := hu p List.mem_cons_self
  have g : Gr [p] U1 H1 U1 (upd H1 p (.lst (ws ++ [.ref a]))) := (Gr.refl I1.vh).mut up (.inl (List.mem_singleton.mpr rfl)) (I1.pl p (h3 p List.mem_cons_self))
  have eo := ownAs_snoc (a := .on xs0 bs0) (w := .ref a) x3
  have ok1 : ownK ρ1 σ j = p :: ownAs as ws := by unfold ownK; rw [e1, f1]; rfl
  have ok2 : ownK (ρ1.set j (some (.on (ws ++ [.ref a]) (as ++ [.on xs0 bs0])))) σ j = p :: (ownAs as ws ++ own (.on xs0 bs0) (.ref a)) := by
    unfold ownK
    rw [ej, f1, ← eo]
    rfl
  have ndn : (p :: (ownAs as ws ++ own (.on xs0 bs0) (.ref a))).Nodup := by
    refine List.nodup_cons.mpr ⟨fun z => ?_, List.nodup_append.mpr ⟨nd2, n1.nd, fun x hx' y hy e => d1 y hy (h3 y (by rw [← e]; exact List.mem_cons_of_mem _ hx'))⟩⟩
    rcases List.mem_append.mp z with z | z
    · exact np z
    · exact pa z
  have nw : ∀ q ∈ own (.on xs0 bs0) (.ref a), U1 q = none ∧ q ∉ owns ρ1 σ := fun q hq => ⟨(n1.out q hq).1, d1 q hq⟩
  refine ⟨p, ws, .ref a, rfl, rfl, x2, lt_size z2, P.nx U1 _ σ _ g1.vv (I1.multiG (M := [p]) (fun k => k == j) g (List.length_set ..) (fun k hk => ?_) (fun k hk => ?_) (fun q hq => ⟨j, by simp, by rw [ok1, List.mem_singleton.mp hq]; exact List.mem_cons_self⟩) (fun k q hk hq => ?_) (fun k l q hkl h1 h2 => ?_)) (z4 a frA)⟩
  · rw [List.getElem?_set_ne fun z => by rw [z] at hk; simp at hk]
  · have : k = j := by simpa using hk
    subst this
    refine ⟨.on ws as, _, .ref p, e1, ej, f1, rfl, ⟨p, rfl, upd_same, repAs_snoc (RepAs.keep (Same.refl U1) as ws (fun q hq => ⟨upd_ne (fun z => np (z ▸ hq)), hu q (List.mem_cons_of_mem _ hq)⟩) x3) (RepA.keep (Same.refl U1) (.on xs0 bs0) _ (fun q hq => ⟨upd_ne (fun z => pa (z ▸ hq)), (nw q hq).1⟩) r1)⟩, ?_⟩
    show (p :: ownAs (as ++ [.on xs0 bs0]) (ws ++ [.ref a])).Nodup
    rw [eo]
    exact ndn
  · have : k = j := by simpa using hk
    subst this
    rw [ok2] at hq
    rw [ok1]
    rcases List.mem_cons.mp hq with rfl | hq
    · exact ⟨up, .inl List.mem_cons_self⟩
    · rcases List.mem_append.mp hq with hq | hq
      · exact ⟨hu q (List.mem_cons_of_mem _ hq), .inl (List.mem_cons_of_mem _ hq)⟩
      · exact ⟨(nw q hq).1, .inr ⟨(nw q hq).2, I.gr.fresh (n1.out q hq).2⟩⟩
  · have a1 : k = j := by simpa using h1
    have a2 : l = j := by simpa using h2
    exact absurd (a1.trans a2.symm) hkl
def fltD : D → Bool
  | .int _ => true
  | .bl _ => true
  | .str _ => true
  | .non => true
  | _ => false
theorem flt_r {K : PySem.W.Frag} {d : D} {v : V} (h : fltD d = true) (r : R K U d v) : R K U' d v := by
  cases d <;> first | exact r | cases h
def fltQ (Q : D → Prop) : AV → Prop
  | .fz d => fltD d = true ∧ Q d
  | _ => False
theorem fltQ_of {Q : D → Prop} {av : AV} (h : fltQ Q av) : ∃ d, av = .fz d ∧ fltD d = true ∧ Q d := by
  cases av <;> first | exact ⟨_, rfl, h⟩ | exact h.elim
def argF (ρ : Env) : Arg → Option AV
  | .val d => some (.fz d)
  | .slot i => match ρ[i]? with
    | some (some av) => av.frz.map .fz
    | _ => none
def argsF (ρ : Env) : List Arg → Option (List AV)
  | [] => some []
  | a :: as => match argF ρ a, argsF ρ as with
    | some x, some xs => some (x :: xs)
    | _, _ => none
def callF (A : AF) (ρ : Env) (Q : D → Prop) (as : List Arg) : Prop := match argsF ρ as with
  | some avs => A avs (fltQ Q) fun _ => False
  | none => False
theorem argsF_rep (I : DI c U H σ ρ) : ∀ {as : List Arg} {vs : List V} {avs : List AV}, Paired (ArgR c.K U σ) as vs → argsF ρ as = some avs → Paired (RepA c.K (sealU U H (owns ρ σ)) H) avs vs ∧ (∀ a ∈ avs, ∃ d, a = .fz d)
  | _, _, avs, .nil, e => by
    cases e
    exact ⟨.nil, fun p hp => (by cases hp)⟩
  | a :: as, v :: vs, avs, .cons h t, e => by
    unfold argsF at e
    cases ea : argF ρ a with
    | none => rw [ea] at e; cases e
    | some x =>
      rw [ea] at e
      cases es : argsF ρ as with
      | none => rw [es] at e; cases e
      | some xs =>
        rw [es] at e
        cases e
        obtain ⟨i1, i2⟩ := argsF_rep I t es
        have hs : ∀ p ∈ owns ρ σ, U p = none := fun p hp => (I.out p hp).1
        cases a with
        | val d =>
          cases ea
          exact ⟨.cons (R.mono (seal_same hs) d v h) i1, fun y hy => by
            rcases List.mem_cons.mp hy with rfl | hy
            · exact ⟨d, rfl⟩
            · exact i2 y hy⟩
        | slot i =>
          unfold argF at ea
          dsimp only at ea
          split at ea
          · rename_i av e1
            cases ef : av.frz with
            | none => rw [ef] at ea; cases ea
            | some d =>
              rw [ef] at ea
              cases ea
              obtain ⟨w, f1, f2, f3⟩ := rep_at I.rep i av e1
              have h' : σ[i]? = some (some v) := h
              rw [h'] at f1
              cases f1
              exact ⟨.cons (RepA.frozen hs av v d f2 ef f3) i1, fun y hy => by
                rcases List.mem_cons.mp hy with rfl | hy
                · exact ⟨d, rfl⟩
                · exact i2 y hy⟩
          · cases ea
theorem ownAs_fz : ∀ {avs : List AV} {vs : List V}, (∀ a ∈ avs, ∃ d, a = .fz d) → ownAs avs vs = []
  | [], _, _ => by unfold ownAs; rfl
  | a :: as, [], _ => by unfold ownAs; rfl
  | a :: as, v :: vs, h => by
    obtain ⟨d, rfl⟩ := h a List.mem_cons_self
    show own (.fz d) v ++ ownAs as vs = []
    rw [ownAs_fz (avs := as) fun x hx => h x (List.mem_cons_of_mem _ hx)]
    cases v <;> rfl
def aCallF (A : AF) (r : AA) : AE := fun ρ Q X => r ρ (callF A ρ Q) X
theorem sim_callF {A : AF} {tr : TA} {r : AA} {E : XK} (hr : SimA c tr r) : SimE c (tCall (spD c.K c.tb A) [] E tr) (aCallF A r) := fun U H σ ρ Q q I z k =>
  hr U H σ ρ _ _ I z fun U1 H1 as vs g1 I1 r1 z1 => by
    rw [List.append_nil]
    unfold callF at z1
    split at z1
    · rename_i avs ea
      obtain ⟨k1, k2⟩ := argsF_rep I1 r1 ea
      have e0 : ownAs avs vs = [] := ownAs_fz k2
      refine ⟨sealU U1 H1 (owns ρ σ), avs, _, _, seal_vh I1.vh, ⟨I1.tbs.1, seal_nt I1.tbs.2 I1.pl⟩, k1, fun a ha => .inr (k2 a ha), by rw [e0]; exact Nat.zero_le _, z1, fun U2 H2 av v g2 r2 n2 _ z2 => ?_, fun U2 H2 ex cls o _ _ _ z2 => z2.elim⟩
      rw [e0] at g2
      obtain ⟨d, rfl, fd, z2⟩ := fltQ_of z2
      have g3 : Gr [] U1 H1 U1 H2 := ⟨Same.refl U1, fun x o e => g2.hh x o (by simp) (fun ps z => I1.tbs.2 x ps (by rw [e, z])) (I1.vh x o e), g2.hh, g2.dom, fun _ e _ => e, g2.tb, id⟩
      exact k U1 H2 d v (g1.trans g3.any) (I1.grow g3) (flt_r fd r2) z2
    · exact z1.elim
end
end SW
namespace SW
open PySem PySem.Spec PyProof.Rows L2 SWS
variable [QN]
section
variable {c : DC} {K : PySem.W.Frag}
/-- len(set(xs)) as it is read -/
def aLenSet (a : AE) : AE := fun ρ Q X => a ρ (seqQ fun ds => someQ (fun xs => xs.length ≤ 1000 ∧ ∀ c : Nat, c ≤ xs.length → (c = xs.length ↔ xs.Nodup) → Q (.int c)) (strsOf ds)) X
theorem sim_lenSet {K : PySem.W.Frag} {ta : TE} {a : AE} (hK : K = c.K) (ha : SimW c ta a) : SimE c (tLenSetS K ta) (aLenSet a) := fun U H σ ρ Q q I z k => by
  subst hK
  refine ha U H σ ρ _ _ I z fun U1 H1 d v g1 I1 w1 z1 => ?_
  obtain ⟨ds, e, z1⟩ := seqQ_of z1
  obtain ⟨xs, e2, z2, z3⟩ := someQ_of z1
  obtain ⟨a, us, rfl, h1, h2⟩ := (w1.cr I1).seq I1.vh e
  rw [strsOf_eq e2] at h2
  rw [h2.strs] at h1
  exact ⟨a, xs, rfl, h1, z2, fun n hn => k U1 H1 (.int n) _ g1 I1 rfl (z3 n hn.le.1 hn.le.2)⟩
end
section
variable {K : PySem.W.Frag}
def int2Q (Q : Int → Int → Prop) : List D → Prop
  | [.int a, .int b] => Q a b
  | _ => False
theorem int2Q_of {Q : Int → Int → Prop} {ds : List D} (h : int2Q Q ds) : ∃ a b, ds = [.int a, .int b] ∧ Q a b := by
  unfold int2Q at h
  split at h
  · exact ⟨_, _, rfl, h⟩
  · exact h.elim
def oMax2 : List D → (D → Prop) → Prop := fun ds Q => int2Q (fun a b => Q (.int (if b > a then b else a))) ds
def oMin2 : List D → (D → Prop) → Prop := fun ds Q => int2Q (fun a b => Q (.int (if b < a then b else a))) ds
theorem pairedI2 {U H : Hp} {a b : Int} {vs : List V} (r : Paired (CR K U H) [.int a, .int b] vs) : vs = [.int a, .int b] := by
  cases r with
  | cons h t =>
    cases t with
    | cons h2 t2 =>
      cases t2
      rw [h.int, h2.int]
theorem bu_max2 : BuD K (fun xs H Q => ∃ i j, xs = [.int i, .int j] ∧ Q (.int (if j > i then j else i)) H) oMax2 := fun U H vs ds Q q s r z k => by
  obtain ⟨a, b, rfl, z⟩ := int2Q_of z
  exact ⟨a, b, pairedI2 r, k U H (.int _) _ (Gr.refl s) rfl z⟩
theorem bu_min2 : BuD K (fun xs H Q => ∃ i j, xs = [.int i, .int j] ∧ Q (.int (if j < i then j else i)) H) oMin2 := fun U H vs ds Q q s r z k => by
  obtain ⟨a, b, rfl, z⟩ := int2Q_of z
  exact ⟨a, b, pairedI2 r, k U H (.int _) _ (Gr.refl s) rfl z⟩
end
end SW
namespace SW
open PySem PySem.Spec PyProof.Rows L2 SWS
variable [QN]
section
variable {ρ : Env} {nx : Env → Prop} {rt : AV → Env → Prop} {bk ct : Env → Prop} {ex : Exn → Env → Prop} {i j : Nat} {m : AM} {mo : AMO} {r : AML} {ro : AMLO} {e a : AE} {o : AO} {Q : D → Env → Prop} {O : AV → Env → Prop} {X : Exn → Env → Prop} {L : List D → Env → Prop} {LO : List AV → Env → Prop}
theorem m_set (q : m ρ (fun d ρ1 => nx (ρ1.set i (some (.fz d)))) ex) : mSet i m ⟨nx, rt, bk, ct, ex⟩ ρ := q
theorem m_setO (q : mo ρ (fun av ρ1 => nx (ρ1.set i (some av))) ex) : mSetO i mo ⟨nx, rt, bk, ct, ex⟩ ρ := q
theorem m_drop (q : m ρ (fun _ ρ1 => nx ρ1) ex) : mDrop m ⟨nx, rt, bk, ct, ex⟩ ρ := q
theorem m_ret (q : m ρ (fun d ρ1 => rt (.fz d) ρ1) ex) : mRet m ⟨nx, rt, bk, ct, ex⟩ ρ := q
theorem m_retO (q : mo ρ (fun av ρ1 => rt av ρ1) ex) : mRetO mo ⟨nx, rt, bk, ct, ex⟩ ρ := q
theorem m_app {ds : List D} (h : ρ[i]? = some (some (.ol ds))) (q : m ρ (fun d ρ1 => olQ ρ1 i fun ds => ds.length < 1000000 ∧ nx (ρ1.set i (some (.ol (ds ++ [d]))))) ex) : mApp i m ⟨nx, rt, bk, ct, ex⟩ ρ := w_olQ h q
theorem w_onQ {ws : List V} {as : List AV} {P : List V → List AV → Prop} (h : ρ[i]? = some (some (.on ws as))) (q : P ws as) : onQ ρ i P := by unfold onQ; rw [h]; exact q
theorem m_appN {ws : List V} {as : List AV} (h : ρ[i]? = some (some (.on ws as))) (q : mo ρ (fun av ρ1 => onQ ρ1 i fun ws as => ws.length < 1000000 ∧ av.kind = 5 ∧ ∀ p : Addr, (∀ (k : Nat) (xs : List V) (bs : List AV), as[k]? = some (.on xs bs) → ws[k]? ≠ some (.ref p)) → nx (ρ1.set i (some (.on (ws ++ [.ref p]) (as ++ [av]))))) ex) : mAppN i mo ⟨nx, rt, bk, ct, ex⟩ ρ := w_onQ h q
theorem m_E (q : e ρ (fun d => Q d ρ) (fun x => X x ρ)) : mE e ρ Q X := q
theorem m_O (q : o ρ (fun d => O d ρ) (fun x => X x ρ)) : mO o ρ O X := q
theorem m_fz (q : mo ρ (fun av ρ' => frzQ (fun d => Q d ρ') av) X) : mFz mo ρ Q X := q
theorem m_up (q : m ρ (fun d ρ' => O (.fz d) ρ') X) : mUp m ρ O X := q
theorem m_nil (q : L [] ρ) : mNil ρ L X := q
theorem m_cons (q : m ρ (fun d ρ1 => r ρ1 (fun ds ρ2 => L (d :: ds) ρ2) X) X) : mCons m r ρ L X := q
theorem m_nilO (q : LO [] ρ) : mNilO ρ LO X := q
theorem m_consO (q : mo ρ (fun d ρ1 => ro ρ1 (fun ds ρ2 => LO (d :: ds) ρ2) X) X) : mConsO mo ro ρ LO X := q
theorem m_tup (q : r ρ (fun ds ρ1 => ds.length ≤ 1000000 ∧ Q (.tup ds) ρ1) X) : mTup r ρ Q X := q
theorem m_lst (q : r ρ (fun ds ρ1 => ds.length ≤ 1000000 ∧ O (.ol ds) ρ1) X) : mLst r ρ O X := q
theorem m_lstO (q : ro ρ (fun as ρ1 => as.length ≤ 1000000 ∧ ∀ ws : List V, ws.length = as.length → O (.on ws as) ρ1) X) : mLstO ro ρ O X := q
theorem m_call0 {A : AFM} {aa : AA} (q : aa ρ (callM A ρ O fun _ _ => False) (fun x => X x ρ)) : mCall0 A aa ρ O X := q
theorem m_call {A : AFM} {aa : AA} (q : aa ρ (callM A ρ O X) (fun x => X x ρ)) : mCall A aa ρ O X := q
def ndB : List Nat → Bool
  | [] => true
  | x :: l => !l.contains x && ndB l
theorem ndB_of : ∀ {l : List Nat}, ndB l = true → l.Nodup
  | [], _ => List.nodup_nil
  | x :: l, h => by
    unfold ndB at h
    rw [Bool.and_eq_true] at h
    exact List.nodup_cons.mpr ⟨fun z => (by rw [List.contains_iff_mem.mpr z] at h; cases h.1), ndB_of h.2⟩
theorem m_callM {A : AFM} {as : List Arg} {avs : List AV} (h1 : ndB (slotIx as) = true) (h : argsM ρ as = some avs) (q : A avs (fun av avs' => O av (putA ρ as avs')) (fun x avs' => X x (putA ρ as avs'))) : callM A ρ O X as := ⟨ndB_of h1, by rw [h]; exact q⟩
theorem m_lc {it : AL} {g : AG} {vs : List Nat} (q : it ρ (fun ds => aCompM g m vs ds [] (wipeA ρ vs) (fun acc ρ' => O (.ol acc) ρ') X) (fun x => X x ρ)) : mLc it g m vs ρ O X := q
end
section
variable {ρ : Env} {nx : Env → Prop} {rt : AV → Env → Prop} {bk ct : Env → Prop} {ex : Exn → Env → Prop} {i j : Nat} {a e : AE} {Q : D → Prop} {X : Exn → Prop} {d : D} {av : AV}
theorem w_slotO {r : AA} {P : List Arg → Prop} (h : ρ[i]? = some (some av)) (q : r ρ (fun ds => P (.slot i :: ds)) X) : aSlotO i r ρ P X := by unfold aSlotO; rw [h]; exact q
theorem w_callF {A : AF} {r : AA} (q : r ρ (callF A ρ Q) X) : aCallF A r ρ Q X := q
theorem w_callFQ {A : AF} {as : List Arg} {avs : List AV} (h : argsF ρ as = some avs) (q : A avs (fltQ Q) fun _ => False) : callF A ρ Q as := by unfold callF; rw [h]; exact q
theorem w_fltI {x : Int} (q : Q (.int x)) : fltQ Q (.fz (.int x)) := ⟨rfl, q⟩
theorem w_max2 {x y : Int} (q : Q (.int (if y > x then y else x))) : oMax2 [.int x, .int y] Q := q
theorem w_min2 {x y : Int} (q : Q (.int (if y < x then y else x))) : oMin2 [.int x, .int y] Q := q
theorem w_bmS {f : D → List D → (D → Prop) → Prop} {r : AL} (q : a ρ (strQ fun x => r ρ (fun ds => f (.str x) ds Q) X) X) : aBmS f a r ρ Q X := q
theorem w_strQ {P : Str → Prop} {x : Str} (q : P x) : strQ P (.str x) := q
theorem w_join {x : Str} {xs : List Str} (h : (xs.map (·.length)).sum + xs.length * x.length ≤ 1000000) (q : Q (.str (Txt.join x xs))) : oJoin (.str x) [.lst (xs.map .str)] Q := by
  show someQ _ (strsOf (xs.map D.str))
  rw [strsOf_map]
  exact ⟨h, q⟩
theorem w_mulS {x : Str} {k : Int} (h : 0 ≤ k ∧ k ≤ 1000000 ∧ x.length * k.toNat ≤ 1000000) (q : Q (.str (Txt.mul x k))) : oMulS (.str x) (.int k) Q := ⟨h.1, h.2.1, h.2.2, q⟩
theorem w_lenSet (q : a ρ (seqQ fun ds => someQ (fun xs => xs.length ≤ 1000 ∧ ∀ c : Nat, c ≤ xs.length → (c = xs.length ↔ xs.Nodup) → Q (.int c)) (strsOf ds)) X) : aLenSet a ρ Q X := q
theorem w_lnQ {ln m : Nat} {ws xs : List V} {as bs : List AV} {p : Addr} {P : List V → List AV → Nat → List V → List AV → Prop} (h1 : ρ[j]? = some (some (.on ws as))) (h2 : ρ[ln]? = some (some (.fz (.adr p)))) (h3 : lnIx ws p = some m) (h4 : as[m]? = some (.on xs bs)) (q : P ws as m xs bs) : lnQ ρ j ln P := by
  unfold lnQ
  rw [h1, h2]
  dsimp only
  rw [h3]
  dsimp only
  rw [h4]
  exact q
theorem w_sealN {sa : AS} {ws : List V} {as : List AV} {ds : List D} (h : ρ[i]? = some (some (.on ws as))) (f : frzs as = some ds) (q : sa ⟨nx, rt, bk, ct, ex⟩ (ρ.set i (some (.fz (.lst ds))))) : aSeal i sa ⟨nx, rt, bk, ct, ex⟩ ρ := by unfold aSeal; rw [h]; exact ⟨ds, f, q⟩
end
theorem compM_inv {g : AG} {e : AM} {vs : List Nat} {Q : List D → Env → Prop} {X : Exn → Env → Prop} {ds : List D} {ρ : Env} (Inv : Nat → List D → Env → Prop) (h0 : Inv 0 [] ρ) (hl : ds.length ≤ 1000000)
    (hs : ∀ (i : Nat) (d : D) (acc : List D) (ρ : Env) (K : D → Env → Prop), ds[i]? = some d → acc.length = i → Inv i acc ρ → (∀ y ρ', Inv (i + 1) (acc ++ [y]) (wipeA ρ' vs) → K y ρ') → g d ρ (fun ρ2 => e ρ2 K X)) (hd : ∀ acc ρ, acc.length = ds.length → Inv ds.length acc ρ → Q acc ρ) : aCompM g e vs ds [] ρ Q X := by
  have go : ∀ (k : Nat) (acc : List D) (ρ : Env), k ≤ ds.length → acc.length = ds.length - k → Inv (ds.length - k) acc ρ → aCompM g e vs (ds.drop (ds.length - k)) acc ρ Q X := by
    intro k
    induction k with
    | zero =>
      intro acc ρ _ ha h
      rw [Nat.sub_zero] at h ha ⊢
      rw [List.drop_length]
      exact hd acc ρ ha h
    | succ k ih =>
      intro acc ρ hk ha h
      have hl' : ds.length - (k + 1) < ds.length := by omega
      have e' : ds[ds.length - (k + 1)]? = some ds[ds.length - (k + 1)] := List.getElem?_eq_getElem hl'
      rw [drop_at e']
      refine hs _ _ acc ρ _ e' ha h fun y ρ' h' => ⟨by omega, ?_⟩
      have e2 : ds.length - (k + 1) + 1 = ds.length - k := by omega
      rw [e2] at h' ⊢
      exact ih _ _ (by omega) (by rw [List.length_append, List.length_singleton]; omega) h'
  have := go ds.length [] ρ (Nat.le_refl _) (by rw [Nat.sub_self]; rfl) (by rw [Nat.sub_self]; exact h0)
  rwa [Nat.sub_self, List.drop_zero] at this
end SW
namespace SW
open PySem PySem.Spec PyProof.Rows L2 SWS
variable [QN]
section
variable {c : DC} {U H U' H' : Hp} {σ : L2.St} {ρ ρ' : Env}
def obQ (ρ : Env) (i : Nat) (C : Addr) (Q : Addr → List Str → List V → List AV → Prop) : Prop := match ρ[i]? with
  | some (some (.ob C' dx ns ws as)) => C' = C ∧ Q dx ns ws as
  | _ => False
theorem obQ_of {i : Nat} {C : Addr} {Q : Addr → List Str → List V → List AV → Prop} (h : obQ ρ i C Q) : ∃ dx ns ws as, ρ[i]? = some (some (.ob C dx ns ws as)) ∧ Q dx ns ws as := by
  unfold obQ at h
  split at h
  · obtain ⟨rfl, h⟩ := h
    exact ⟨_, _, _, _, by assumption, h⟩
  · exact h.elim
theorem putF_new {f : Str} {v : V} : ∀ {ns : List Str} {ws : List V}, ns.length = ws.length → ns.contains f = false → putF f v (ns.zip ws) = (ns ++ [f]).zip (ws ++ [v])
  | [], [], _, _ => rfl
  | [], _ :: _, h, _ => by cases h
  | _ :: _, [], h, _ => by cases h
  | n :: ns, w :: ws, h, k => by
    rw [List.contains_cons, Bool.or_eq_false_iff] at k
    show (if n = f then (n, v) :: ns.zip ws else (n, w) :: putF f v (ns.zip ws)) = _
    rw [if_neg (fun z => by rw [z] at k; simp at k), putF_new (Nat.succ.inj h) k.2]
    rfl
inductive KA where
  | kw (i : Nat) | df (d : D)
def kaD (es : List D) : KA → D
  | .kw i => es.getD i .non
  | .df d => d
def kaV (zs : List V) : KA → V
  | .kw i => zs.getD i .non
  | .df (.int i) => .int i
  | .df _ => .non
def kaOk (m : Nat) : KA → Bool
  | .kw i => decide (i < m)
  | .df (.int _) => true
  | .df .non => true
  | .df _ => false
theorem ka_rep {K : PySem.W.Frag} {es : List D} {zs : List V} (r : Rs K U es zs) {a : KA} (h : kaOk zs.length a = true) : R K U (kaD es a) (kaV zs a) := by
  cases a with
  | kw i =>
    have hi : i < zs.length := of_decide_eq_true h
    have hi2 : i < es.length := by rw [r.len]; exact hi
    obtain ⟨v, h1, h2⟩ := r.at i _ (List.getElem?_eq_getElem hi2)
    show R K U (es.getD i .non) (zs.getD i .non)
    rw [List.getD_eq_getElem?_getD, List.getElem?_eq_getElem hi2, List.getD_eq_getElem?_getD, h1]
    exact h2
  | df d => cases d <;> first | exact rfl | cases h
theorem Paired.app {α β : Type} {F : α → β → Prop} : ∀ {xs xs' : List α} {ys ys' : List β}, Paired F xs ys → Paired F xs' ys' → Paired F (xs ++ xs') (ys ++ ys')
  | _, _, _, _, .nil, k => k
  | _, _, _, _, .cons h t, k => .cons h (Paired.app t k)
def headQ (Q : AV → Prop) : List AV → Prop
  | a :: _ => Q a
  | [] => False
def mkQ (C : Addr) (A : AFM) (Q : AV → Prop) (X : Exn → Prop) (as : List AV) : Prop := ∀ dx : Addr, A (.ob C dx [] [] [] :: as) (fun av avs' => av = .fz .non ∧ headQ Q avs') (fun x _ => X x)
theorem run_mk {C : Addr} {A : AFM} {as : List AV} {vs : List V} {Q : AV → Prop} {X : Exn → Prop} {q : VK} {E : XK} (I : DI c U H σ ρ) (rep : Paired (RepA c.K U H) as vs) (fz : ∀ a ∈ as, ∃ d, a = .fz d) (h : mkQ C A Q X as)
    (k : ∀ U' H' av v, Gr (drs ρ σ) U H U' H' → DI c U' H' σ ρ → RepA c.K U' H' av v → Fresh U' H av v → Q av → q v H')
    (kx : ∀ U' H' x cls o, DI c U' H' σ ρ → XRep c.K U' H' x cls o → X x → E cls o H') {x dx : Addr} (nx : H x = none) (nd : H dx = none) (ne : dx ≠ x) :
    spM c.K c.tb A (.ref x :: vs) (upd (upd H dx (.own x)) x (.ins C dx [])) (fun v H3 => v = .non ∧ q (.ref x) H3) E := by
  have nx2 : upd H dx (.own x) x = none := by rw [upd_ne (fun z => ne z.symm)]; exact nx
  have g1 : Gr [] U H U (upd H dx (.own x)) := (Gr.refl I.vh).newM nd
  have g2 : Gr [] U H U (upd (upd H dx (.own x)) x (.ins C dx [])) := g1.trans ((Gr.refl g1.vh).newM nx2)
  have e0 : ownAs as vs = [] := ownAs_fz fz
  have eo : ownAs (.ob C dx [] [] [] :: as) (.ref x :: vs) = [x] := by
    show own (.ob C dx [] [] []) (.ref x) ++ ownAs as vs = [x]
    rw [e0]
    rfl
  have ux : U x = none := I.vh.free nx
  refine ⟨U, .ob C dx [] [] [] :: as, _, _, g2.vh, I.tbs.gr g2, .cons ⟨x, rfl, upd_same, rfl, rfl⟩ (paired_at rep.length fun n a v ha hv => ?_), by rw [eo]; simp, fun p hp => by rw [eo] at hp; rw [List.mem_singleton.mp hp]; exact ux, h dx, fun U' H' av v avs' g r nd' hf r2 n2 u2 kd per z => ?_, fun U' H' ex cls o avs' g xr r2 n2 u2 kd per z => ?_⟩
  · obtain ⟨w, e1, e2⟩ := Paired.at' rep n a ha
    rw [hv] at e1
    cases e1
    obtain ⟨d, rfl⟩ := fz a (List.mem_of_getElem? ha)
    exact e2
  · rw [eo] at g
    obtain ⟨rfl, z⟩ := z
    refine ⟨r, ?_⟩
    cases avs' with
    | nil => exact z.elim
    | cons a' avs' =>
      cases r2 with
      | cons ra rt =>
        have g3 : Gr [] U H U' H' := g2.comp g fun p hp => by rw [List.mem_singleton.mp hp]; exact .inr nx
        have hin : ∀ p ∈ own a' (.ref x), p ∈ ownAs (a' :: avs') (.ref x :: vs) := fun p hp => List.mem_append_left _ hp
        refine k U' H' a' (.ref x) g3.any (I.grow g3) ra ⟨(List.nodup_append.mp (show (own a' (.ref x) ++ ownAs avs' vs).Nodup from n2)).1, fun p hp => ⟨u2 p (hin p hp), ?_⟩⟩ z
        rcases per.1 p hp with y | y
        · have : p = x := by
            have y' : p ∈ [x] := y
            exact List.mem_singleton.mp y'
          rw [this]
          exact nx
        · exact g2.fresh y
  · rw [eo] at g
    have g3 : Gr [] U H U' H' := g2.comp g fun p hp => by rw [List.mem_singleton.mp hp]; exact .inr nx
    exact kx U' H' ex cls o (I.grow g3) xr z
theorem lookup_none {m : Str} : ∀ {ns : List Str} {xs : List V}, ns.contains m = false → (ns.zip xs).lookup m = none
  | [], _, _ => rfl
  | _ :: _, [], _ => rfl
  | n :: ns, x :: xs, h => by
    rw [List.contains_cons, Bool.or_eq_false_iff] at h
    show (match m == n with | true => some x | false => (ns.zip xs).lookup m) = none
    rw [h.1]
    exact lookup_none h.2
structure IsiC (K : PySem.W.Frag) (C : Addr) : Prop where
  st : PySem.W.kitCls K (.type "str") (.ref C) = some false
  ha : PySem.W.findIn K (.ref C) "__class__" = some (some (.builtin "object.__class__"))
  hn : PySem.W.specialIn K (.builtin "object.__class__") "__get__" = some (some (.builtin "getset_descriptor.__get__"))
  ht : PySem.W.takesIn K (.builtin "object.__class__") = some true
  hm : PySem.W.mroIn K C (.type "object") = some true
  ss : PySem.W.subIn K (.type "str") (.ref C) = some false
end
section
variable {c : DC} {U H U' H' : Hp} {σ : L2.St} {ρ ρ' : Env}
def SimLU (c : DC) (i : Nat) (t : TA) (e : AL) : Prop := ∀ (U H : Hp) (σ : L2.St) (ρ : Env) (Q : List D → Prop) (q : List V → Hp → Prop) (v : V), DI c U H σ ρ → σ[i]? = some (some v) → e ρ Q (c.x ρ) →
  (∀ U' H' ds vs, Gr (drs ρ σ) U H U' H' → DI c U' H' σ ρ → Rs c.K U' ds vs → Q ds → q (vs ++ [v]) H') → t σ H q
theorem sim_uNil {i : Nat} : SimLU c i (tCons (tVar i) tNil) aNil := fun U H σ ρ Q q v I e z k => ⟨v, e, k U H [] [] (Gr.refl I.vh) I rfl z⟩
theorem sim_uCons {i : Nat} {ta : TE} {a : AE} {tr : TA} {r : AL} (ha : SimE c ta a) (hr : SimLU c i tr r) : SimLU c i (tCons ta tr) (aCons a r) := fun U H σ ρ Q q v I e z k =>
  ha U H σ ρ _ _ I z fun U1 H1 d w g1 I1 r1 z1 => hr U1 H1 σ ρ _ _ v I1 e z1 fun U2 H2 ds vs g2 I2 r2 z2 => k U2 H2 (d :: ds) (w :: vs) (g1.trans g2) I2 ⟨w, vs, rfl, R.mono g2.vv d w r1, r2⟩ z2
def aRetU (r : AL) (i : Nat) : AS := fun N ρ => match ρ[i]? with
  | some (some (.ol es)) => r ρ (fun ds => ds.length < 1000 ∧ ∀ ws : List V, ws.length = ds.length + 1 → N.rt (.ut ws (ds.map .fz ++ [.ol es])) (ρ.set i none)) (fun x => N.ex x ρ)
  | _ => False
theorem own_fzs {K : PySem.W.Frag} : ∀ {ds : List D} {vs : List V} {a : AV} {v : V}, Rs K U ds vs → ownAs (ds.map .fz ++ [a]) (vs ++ [v]) = own a v
  | [], _, a, v, h => by
    rw [show _ = [] from h]
    exact List.append_nil _
  | d :: ds, _, a, v, ⟨w, r, e, h1, h2⟩ => by
    subst e
    show own (.fz d) w ++ ownAs (ds.map .fz ++ [a]) (r ++ [v]) = _
    rw [own_fzs h2]
    cases w <;> rfl
theorem reps_fz {K : PySem.W.Frag} : ∀ {ds : List D} {vs : List V} {a : AV} {v : V}, Rs K U ds vs → RepA K U H a v → RepAs K U H (ds.map .fz ++ [a]) (vs ++ [v])
  | [], _, a, v, h, k => by
    rw [show _ = [] from h]
    exact ⟨v, [], rfl, k, rfl⟩
  | d :: ds, _, a, v, ⟨w, r, e, h1, h2⟩, k => by
    subst e
    exact ⟨w, r ++ [v], rfl, h1, reps_fz h2 k⟩
theorem sim_retU {i : Nat} {tr : TA} {r : AL} (hi : noPar c i = true) (hr : SimLU c i tr r) : SimS c (tRet (tTup tr)) (aRetU r i) := fun U H σ ρ N n hx I z P => by
  unfold aRetU at z
  split at z
  · rename_i es e
    rw [hx] at z
    obtain ⟨v, e1, _, _⟩ := rep_at I.rep i _ e
    refine hr U H σ ρ _ _ v I e1 z fun U1 H1 ds vs g1 I1 r1 z1 => ?_
    obtain ⟨w, e2, r2, m2⟩ := rep_at I1.rep i _ e
    rw [e1] at e2
    cases e2
    have lv : (vs ++ [v]).length = ds.length + 1 := by rw [List.length_append, ← r1.len]; rfl
    refine ⟨le_size (by rw [lv]; have := z1.1; omega), fun p np => ?_⟩
    have g2 : Gr [] U1 H1 (upd U1 p (.tup (vs ++ [v]))) (upd H1 p (.tup (vs ++ [v]))) := (Gr.refl I1.vh).new np
    have I2 := I1.grow g2
    have out := I1.out
    have hu : ∀ q ∈ own (.ol es) v, U1 q = none := fun q hq => (out q (m2 q hq)).1
    have r2' : RepA c.K (upd U1 p (.tup (vs ++ [v]))) (upd H1 p (.tup (vs ++ [v]))) (.ol es) v := RepA.gr g2 hu r2
    have eo : own (.ut (vs ++ [v]) (ds.map .fz ++ [.ol es])) (.ref p) = own (.ol es) v := own_fzs r1
    refine P.rt _ _ σ (ρ.set i none) (.ut (vs ++ [v]) (ds.map .fz ++ [.ol es])) (.ref p) (I2.unset i hi) ⟨p, rfl, SqT.of upd_same, reps_fz (Rs.mono g2.vv _ _ r1) r2'⟩ (by rw [eo]; exact own_nd I1.nd e e1) (fun q hq => ?_) (z1.2 _ lv)
    rw [eo] at hq
    obtain ⟨w2, e3, r3, m3⟩ := rep_at I2.rep i _ e
    rw [e1] at e3
    cases e3
    exact ⟨(I2.out q (m3 q hq)).1, I2.nw i _ v hi e e1 q hq, own_unset I2.nd e e1 q hq⟩
  · exact z.elim
theorem repAs_setG {K : PySem.W.Frag} (s : Same U U') : ∀ {as : List AV} {ws : List V} {k : Nat} {a a' : AV} {x : V}, RepAs K U H as ws → as[k]? = some a → ws[k]? = some x → RepA K U' H' a' x → (ownAs as ws).Nodup → (∀ p ∈ ownAs as ws, p ∉ own a x → H' p = H p ∧ U' p = none) → RepAs K U' H' (as.set k a') ws
  | [], _, k, a, a', x, _, e, _, _, _, _ => by simp at e
  | _ :: _, [], k, a, a', x, _, _, e, _, _, _ => by simp at e
  | b :: as, y :: ws, 0, a, a', x, ⟨v, r, e1, h1, h2⟩, e, f, h, nd, hH => by
    cases e
    cases f
    obtain ⟨rfl, rfl⟩ := List.cons.inj e1
    obtain ⟨n1, n2, n3⟩ := List.nodup_append.mp (show (own b y ++ ownAs as ws).Nodup from nd)
    exact ⟨y, ws, rfl, h, RepAs.keep s as ws (fun p hp => hH p (List.mem_append_right _ hp) (fun z => n3 p z p hp rfl)) h2⟩
  | b :: as, y :: ws, k + 1, a, a', x, ⟨v, r, e1, h1, h2⟩, e, f, h, nd, hH => by
    obtain ⟨rfl, rfl⟩ := List.cons.inj e1
    obtain ⟨n1, n2, n3⟩ := List.nodup_append.mp (show (own b y ++ ownAs as ws).Nodup from nd)
    exact ⟨y, ws, rfl, RepA.keep s b y (fun p hp => hH p (List.mem_append_left _ hp) (fun z => n3 p hp p (ownAs_at (as := as) e f p z) rfl)) h1, repAs_setG s (as := as) h2 e f h n2 fun p hp => hH p (List.mem_append_right _ hp)⟩
def utQ (ρ : Env) (i k : Nat) (Q : List V → List AV → List D → Prop) : Prop := match ρ[i]? with
  | some (some (.ut ws as)) => match as[k]? with
    | some (.ol ds) => Q ws as ds
    | _ => False
  | _ => False
theorem utQ_of {i k : Nat} {Q : List V → List AV → List D → Prop} (h : utQ ρ i k Q) : ∃ ws as ds, ρ[i]? = some (some (.ut ws as)) ∧ as[k]? = some (.ol ds) ∧ Q ws as ds := by
  unfold utQ at h
  split at h
  · split at h
    · exact ⟨_, _, _, by assumption, by assumption, h⟩
    · exact h.elim
  · exact h.elim
/-- f(s, w[k]) -/
def mCallU (A : AFM) (j i k : Nat) : AMO := fun ρ Q X => ρ[j]? = some (some .dr) ∧ utQ ρ i k fun ws as ds => A [.dr, .ol ds] (fun av avs' => ∃ ds', avs' = [.dr, .ol ds'] ∧ Q av (ρ.set i (some (.ut ws (as.set k (.ol ds')))))) (fun _ _ => False)
theorem simM_callU {A : AFM} {j i k : Nat} {E : XK} : SimMO c (tCall (spM c.K c.tb A) [] E (tCons (tVar j) (tCons (tOp (rIxT c.K) (tVar i) (tC (.int (k : Nat)))) tNil))) (mCallU A j i k) := fun U H σ ρ Q q I z kk => by
  obtain ⟨ej, z⟩ := z
  obtain ⟨ws, as, ds, ei, ek, z⟩ := utQ_of z
  obtain ⟨vj, sj, rj, mj⟩ := rep_at I.rep j _ ej
  obtain ⟨s, rfl, Ds⟩ := rj
  obtain ⟨vi, si, ri, mi⟩ := rep_at I.rep i _ ei
  have ri0 := ri
  obtain ⟨pi, rfl, sq, ras⟩ := ri
  obtain ⟨w, ew, rw'⟩ := Paired.at' ras.paired k _ ek
  have rw0 := rw'
  obtain ⟨p, xs, rfl, hp, rx⟩ := rw'
  have oi : ownK ρ σ i = ownAs as ws := by unfold ownK; rw [ei, si]; rfl
  have oj : ownK ρ σ j = [s] := by unfold ownK; rw [ej, sj]; rfl
  obtain ⟨nd1, nd2⟩ := ownK_nodup.mp I.nd
  have ij : i ≠ j := fun z => by
    rw [z, ej] at ei
    cases ei
  have pin : p ∈ ownAs as ws := ownAs_at ek ew p (List.mem_singleton.mpr rfl)
  have sp : s ≠ p := fun z => nd2 i j p ij (by rw [oi]; exact pin) (by rw [oj, z]; exact List.mem_singleton.mpr rfl)
  have ndi : (ownAs as ws).Nodup := by rw [← oi]; exact nd1 i
  have us : U s = none := (I.out s (mj s (List.mem_singleton.mpr rfl))).1
  have up : U p = none := (I.out p (mi p pin)).1
  refine ⟨.ref s, sj, .ref pi, si, pi, ws, _, .ref p, rfl, rfl, Same.tup I.vh sq, L2.atI_nat ew, ?_⟩
  show spM c.K c.tb A ([.ref s, .ref p] ++ []) H q E
  have eo : ownAs [.dr, .ol ds] [.ref s, .ref p] = [s, p] := rfl
  refine ⟨U, [.dr, .ol ds], _, _, I.vh, I.tbs, .cons ⟨s, rfl, Ds⟩ (.cons rw0 .nil), by rw [show ownAs [.dr, .ol ds] ([.ref s, .ref p] ++ []) = [s, p] from rfl]; simp [sp], fun q hq => ?_, z, fun U' H' av v avs' g r nd' hf r2 n2 u2 kd per z2 => ?_, fun U' H' ex cls o avs' g xr r2 n2 u2 kd per z2 => z2.elim⟩
  · rcases List.mem_cons.mp (show q ∈ [s, p] from hq) with rfl | hq
    · exact us
    · rw [List.mem_singleton.mp hq]; exact up
  · obtain ⟨ds', rfl, z3⟩ := z2
    have g' : Gr [s, p] U H U' H' := g
    cases r2 with
    | cons ra rt =>
      cases rt with
      | cons rb _ =>
        obtain ⟨s', e1, Ds'⟩ := ra
        cases e1
        have e2 : own (.ol ds') (.ref p) = own (.ol ds) (.ref p) := rfl
        have eo' := ownAs_set ek ew e2
        have li : i < ρ.length := (List.getElem?_eq_some_iff.mp ei).1
        have en : (ρ.set i (some (.ut ws (as.set k (.ol ds')))))[i]? = some (some (.ut ws (as.set k (.ol ds')))) := List.getElem?_set_self li
        have enj : (ρ.set i (some (.ut ws (as.set k (.ol ds')))))[j]? = some (some .dr) := by rw [List.getElem?_set_ne ij]; exact ej
        have ok2 : ownK (ρ.set i (some (.ut ws (as.set k (.ol ds'))))) σ i = ownAs as ws := by unfold ownK; rw [en, si]; exact eo'
        have ok3 : ownK (ρ.set i (some (.ut ws (as.set k (.ol ds'))))) σ j = [s] := by unfold ownK; rw [enj, sj]; rfl
        have exi : ∀ q ∈ ownAs as ws, H q ≠ none := fun q hq => I.ex q (mi q hq)
        have u' : ∀ q, q ∈ ownAs as ws → U' q = none := fun q hq => g'.fr q (I.out q (mi q hq)).1 (exi q hq)
        have hk : ∀ q ∈ ownAs as ws, q ∉ own (.ol ds) (.ref p) → H' q = H q ∧ U' q = none := fun q hq hn => ⟨keep_at g' (I.pl q (mi q hq)) (fun zz => by
          rcases List.mem_cons.mp zz with rfl | zz
          · exact nd2 i j q ij (by rw [oi]; exact hq) (by rw [oj]; exact List.mem_singleton.mpr rfl)
          · exact hn zz), u' q hq⟩
        have I' : DI c U' H' σ (ρ.set i (some (.ut ws (as.set k (.ol ds'))))) := by
          refine I.multiG (M := [s, p]) (fun l => l == i || l == j) g' (List.length_set ..) (fun l hl => ?_) (fun l hl => ?_) (fun q hq => ?_) (fun l q hl hq => ?_) (fun l l' q hne h1 h2 hq hq' => ?_)
          · rw [List.getElem?_set_ne fun zz => by rw [zz] at hl; simp at hl]
          · by_cases e : l = i
            · subst e
              exact ⟨_, _, .ref pi, ei, en, si, rfl, ⟨pi, rfl, Same.tup g'.vv sq, repAs_setG g'.vv ras ek ew rb ndi hk⟩, by show (ownAs (as.set k (.ol ds')) ws).Nodup; rw [eo']; exact ndi⟩
            · have e' : l = j := by simpa [e] using hl
              subst e'
              exact ⟨.dr, .dr, .ref s, ej, enj, sj, rfl, ⟨s, rfl, Ds'⟩, by show [s].Nodup; simp⟩
          · rcases List.mem_cons.mp hq with rfl | hq
            · exact ⟨j, by simp, by rw [oj]; exact List.mem_singleton.mpr rfl⟩
            · rw [List.mem_singleton.mp hq]
              exact ⟨i, by simp, by rw [oi]; exact pin⟩
          · by_cases e : l = i
            · subst e
              rw [ok2] at hq
              exact ⟨u' q hq, .inl (by rw [oi]; exact hq)⟩
            · have e' : l = j := by simpa [e] using hl
              subst e'
              rw [ok3] at hq
              rw [List.mem_singleton.mp hq]
              exact ⟨g'.fr s us (I.ex s (mj s (List.mem_singleton.mpr rfl))), .inl (by rw [oj]; exact List.mem_singleton.mpr rfl)⟩
          · have a1 : l = i ∨ l = j := by simpa using h1
            have a2 : l' = i ∨ l' = j := by simpa using h2
            rcases a1 with rfl | rfl
            · rcases a2 with rfl | rfl
              · exact hne rfl
              · rw [ok2] at hq
                rw [ok3] at hq'
                exact nd2 _ _ q hne (by rw [oi]; exact hq) (by rw [oj]; exact hq')
            · rcases a2 with rfl | rfl
              · rw [ok3] at hq
                rw [ok2] at hq'
                exact nd2 _ _ q hne (by rw [oj]; exact hq) (by rw [oi]; exact hq')
              · exact hne rfl
        have sub : ∀ q ∈ [s, p], q ∈ owns ρ σ := fun q hq => by
          rcases List.mem_cons.mp hq with rfl | hq
          · exact mj _ (List.mem_singleton.mpr rfl)
          · rw [List.mem_singleton.mp hq]; exact mi _ pin
        have on' : OldNew H ρ (ρ.set i (some (.ut ws (as.set k (.ol ds'))))) σ := fun q hq => by
          obtain ⟨l, hl⟩ := ownK_mem.mp hq
          by_cases e : l = i
          · subst e
            rw [ok2] at hl
            exact .inl (mi q hl)
          · refine .inl (ownK_mem.mpr ⟨l, ?_⟩)
            unfold ownK at hl ⊢
            rw [List.getElem?_set_ne fun zz => e zz.symm] at hl
            exact hl
        refine kk U' H' _ av v (g'.weak sub) I' on' r ⟨nd', fun q hq => ⟨(hf q hq).1, (hf q hq).2.1⟩⟩ (fun q hq hz => ?_) z3
        rcases on' q hz with y | y
        · exact I.ex q y (hf q hq).2.1
        · exact (hf q hq).2.2 (by
            exfalso
            exact I'.ex q hz (by
              exact absurd (hf q hq).2.1 (fun _ => by
                rcases on' q hz with t | t
                · exact I.ex q t (hf q hq).2.1
                · obtain ⟨l, hl⟩ := ownK_mem.mp hz
                  by_cases e : l = i
                  · subst e
                    rw [ok2] at hl
                    exact exi q hl t
                  · unfold ownK at hl
                    rw [List.getElem?_set_ne fun zz => e zz.symm] at hl
                    exact I.ex q (ownK_mem.mpr ⟨l, by unfold ownK; exact hl⟩) t)))
def chD (x : Str) : List D := x.cps.toList.map fun c => .str ⟨#[c]⟩
def aItS (e : AE) : AL := fun ρ Q X => e ρ (strQ fun x => Q (chD x)) X
theorem sim_itS {te : TE} {e : AE} (h : SimE c te e) : SimI c (iStr te) (aItS e) := fun U H σ ρ Q q I z k => h U H σ ρ _ _ I z fun U1 H1 d v g1 I1 r1 z1 => by
  obtain ⟨x, rfl, z2⟩ := strQ_of z1
  refine ⟨x, r1, k U1 H1 _ (chD x) g1 I1 ⟨fun i H v H' => H' = H ∧ ∃ c, x.cps[i]? = some c ∧ v = .str ⟨#[c]⟩, ?_, fun i H v H' d U2 s s2 y e => ?_⟩ z2⟩
  · rw [show (chD x).length = x.cps.size by unfold chD; rw [List.length_map, Array.length_toList]]
    exact walk_str.mono (fun _ _ => trivial) (fun _ _ _ _ _ _ y => y)
  · obtain ⟨rfl, n, e1, rfl⟩ := y
    unfold chD at e
    rw [List.getElem?_map, Array.getElem?_toList, e1] at e
    cases e
    exact ⟨U2, Gr.refl s2, rfl⟩
def oLenS : List D → (D → Prop) → Prop := fun ds Q => oneQ (strQ fun x => x.length ≤ 1000000 ∧ Q (.int x.length)) ds
theorem bu_lenS {K : PySem.W.Frag} : BuD K (fun xs H Q => ∃ z, xs = [.str z] ∧ z.length ≤ sizeLine ∧ Q (.int z.length) H) oLenS := fun U H vs ds Q q s r z k => by
  obtain ⟨d, rfl, z0⟩ := oneQ_of z
  obtain ⟨x, rfl, z1, z2⟩ := strQ_of z0
  obtain ⟨v, rfl, cd⟩ := paired1 r
  exact ⟨x, by rw [cd.str], le_size z1, k U H (.int _) _ (Gr.refl s) rfl z2⟩
end
end SW
namespace SWS
open PySem PySem.Spec PyProof.Rows
section
variable {prog : Program} {w : World} {A : Around} {E : Value → Shared → Prop} {s : Shared}
/-- what a tuple is laid out as -/
theorem collect_tup {l : Addr} {vs : List Value} {Q : List Value → Shared → Prop} (hl : s.heap.IsTuple l vs.toArray)
    (h : Q vs { s with heap := (s.heap.push (seqObj "list" #[] 0)).update s.heap.objs.size (Obj.mapSeq (· ++ vs.toArray)) }) (hsz : vs.length ≤ sizeLine) :
    wpAny (model prog w) A (collect (.ref l)) Q E s := by
  obtain ⟨o, ho, hc, n, hd⟩ := id hl
  unfold collect
  refine wpAny_bind (wpAny_runValue (codeAny_builtin entry_proto_collect' ?_))
  show wpAny _ _ (do again (.builtin "list.__iadd__" ⟨[← newList [], .ref l], []⟩)) _ _ s
  refine wpAny_bind (wpAny_newList (wpAny_pure ⟨Code.quiet_builtin _ (by decide +kernel), codeAny_builtin entry_list_iadd' ?_⟩))
  show wpAny _ _ (Builtin.List.listExtendWith (.ref s.heap.objs.size) (.ref l) (.ref s.heap.objs.size)) _ _ { s with heap := s.heap.push (seqObj "list" #[] 0) }
  unfold Builtin.List.listExtendWith
  have ho' : (s.heap.push (seqObj "list" #[] 0)).get? l = some o := Heap.get?_push_of_some _ ho
  refine wpAny_bind (wpAny_typeOf (T := "tuple") ⟨o, ho', hc⟩ ?_)
  have ht : (Value.type "tuple" == Value.type "tuple") = true := by rfl
  rw [if_pos (by rw [ht]; simp)]
  refine wpAny_bind (listItems_at ho' hd ?_)
  refine wpAny_bind (listItems_at (xs := #[]) (n := 0) (Heap.get?_push_size _ rfl) rfl ?_)
  rw [if_neg (by simp)]
  refine wpAny_bind (listUpdate_at (xs := #[]) (n := 0) (Heap.get?_push_size _ rfl) rfl ?_ (Nat.zero_le _) (by show (#[] ++ vs.toArray).size ≤ sizeLine + 1; simp only [Array.size_append, List.size_toArray, List.length_nil]; omega))
  refine wpAny_pure ?_
  show wpAny (model prog w) A (do
      let o ← load s.heap.objs.size
      match o.data with
      | .seq xs _ => pure xs.toList
      | _ => unsupported "internal:collect") Q E { s with heap := (s.heap.push (seqObj "list" #[] 0)).update s.heap.objs.size (Obj.mapSeq (· ++ vs.toArray)) }
  refine wpAny_bind (wpAny_load (get?_update_seq (Heap.get?_push_size _ rfl) _) ?_)
  show wpAny _ _ (pure ((#[] : Array Value) ++ vs.toArray).toList) Q E _
  rw [show ((#[] : Array Value) ++ vs.toArray).toList = vs by simp]
  exact wpAny_pure h
theorem sorted_tupS {l : Addr} {vs : List Value} {ss : List Str} {Q : Value → Shared → Prop} (hl : s.heap.IsTuple l vs.toArray) (hS : StrsAre vs ss) (hL : vs.length ≤ sizeLine)
    (h : ∀ (out : Array Value) (ss' : List Str), StrsAre out.toList ss' → ss'.Perm ss → sortedS ss' = true → Q (.ref (s.heap.objs.size + 1)) { s with heap := sortedAll s.heap vs out }) :
    wpAny (model prog w) A (call (.builtin "sorted") [.ref l]) Q E s := by
  refine Calls.call_function_entry kind_sorted plain_sorted entry_sorted (args_sorted1 _) ?_
  unfold Builtin.«sorted»
  refine wpAny_bind (m := checkCount "sorted" 1 1 _) (wpAny_pure ?_)
  refine wpAny_bind (collect_tup hl ?_ hL)
  refine wpAny_bind (wpAny_newList ?_ hL)
  have hsz : ((s.heap.push (seqObj "list" #[] 0)).update s.heap.objs.size (Obj.mapSeq (· ++ vs.toArray))).objs.size = s.heap.objs.size + 1 := by
    rw [Heap.size_update, size_push']
  have hoL : (((s.heap.push (seqObj "list" #[] 0)).update s.heap.objs.size (Obj.mapSeq (· ++ vs.toArray))).push (seqObj "list" vs.toArray 0)).get? (s.heap.objs.size + 1) = some (seqObj "list" vs.toArray 0) := by
    rw [← hsz]; exact Heap.get?_push_size _ rfl
  show wpAny _ _ _ _ _ { s with heap := ((s.heap.push (seqObj "list" #[] 0)).update s.heap.objs.size (Obj.mapSeq (· ++ vs.toArray))).push (seqObj "list" vs.toArray 0) }
  rw [hsz]
  refine wpAny_bind (wpAny_holding (wpAny_call_entry slot_list_sort ⟨_, hoL, rfl⟩ entry_list_sort (list_sort_treeKAny strKind_oneLt hoL hS.keysOf (fun v₁ v₂ rest e => keyKind_strs (by rw [← e]; exact hS)) hL fun st' hp hs => ⟨_, rfl, ?_⟩) (args_list_sort _)))
  obtain ⟨ss', h1, h2, h3⟩ := sorted_out_str hS hp hs
  exact wpAny_pure ⟨_, rfl, h _ ss' h1 h2 h3⟩
end
end SWS
namespace SW
open PySem PySem.Spec PyProof.Rows L2 SWS
/-- sorted(xs) of texts, a list or a tuple -/
def rSortS (K : PySem.W.Frag) : List V → Hp → VK → Prop := fun vs H Q => ∃ (a : Addr) (xs : List Str), vs = [V.ref a] ∧ (SqL K H a (xs.map V.str) ∨ SqT K H a (xs.map V.str)) ∧
  ∀ (ys : List Str) (p : Addr), ys.Perm xs → sortedS ys = true → H p = none → Q (.ref p) (upd H p (.lst (ys.map V.str)))
theorem vals_strs : ∀ {us : List Value} {xs : List Str}, StrsAre us xs → Vals (xs.map V.str) us
  | _, _, .nil => .nil
  | _, _, .cons x t h => .cons ⟨t, rfl⟩ (vals_strs h)
theorem cr_sortS {X : Cx} {K : PySem.W.Frag} (hK : X.K = K) : CallR X (.builtin "sorted") (rSortS K) := by
  subst hK
  intro pins s σ H vs us Q I r h
  obtain ⟨a, xs, rfl, hs, q⟩ := h
  rw [Vals.ref1 r]
  have fin : ∀ (its : List Value), its.length = xs.length → its.length ≤ sizeLine → ∀ (out : Array Value) (ss' : List Str), StrsAre out.toList ss' → ss'.Perm xs → sortedS ss' = true → EP X pins σ Q (.ref (s.heap.objs.size + 1)) { s with heap := sortedAll s.heap its out } := fun its hl hz out ss' h1 h2 h3 => by
    obtain ⟨ep, he'⟩ := PyProof.Rows.sortedAll_at s.heap its out
    have hlen : (ss'.map V.str).length ≤ sizeLine := by
      rw [List.length_map, h2.length_eq, ← hl]
      exact hz
    refine ⟨.ref _, upd H (s.heap.objs.size + 1) (.lst (ss'.map V.str)), I.laid (t' := s.toks) (fun _ _ => PyProof.Rows.sortedAll_old) (Nat.le_succ _) ⟨hlen, out.toList, ep, vals_strs h1, by simpa using he'⟩, rfl, q _ _ h2 h3 (I.hok.fresh (Nat.le_succ _))⟩
  rcases hs with hs | hs
  · obtain ⟨its, rv, hl, hz⟩ := I.list hs
    have ln : its.length = xs.length := by rw [← rv.length, List.length_map]
    exact sorted_strsAny hl.isList (by simpa using strsAre_of rv) (by rw [← rv.length]; exact hz) fun out ss' h1 h2 h3 => fin its ln (by rw [← rv.length]; exact hz) out ss' h1 h2 h3
  · obtain ⟨its, rv, hl, hz⟩ := I.tuple hs
    have ln : its.length = xs.length := by rw [← rv.length, List.length_map]
    exact sorted_tupS hl (by simpa using strsAre_of rv) (by rw [← rv.length]; exact hz) fun out ss' h1 h2 h3 => fin its ln (by rw [← rv.length]; exact hz) out ss' h1 h2 h3
end SW
namespace SW
open PySem PySem.Spec PyProof.Rows L2 SWS
variable [QN]
def keyDecMem (y : Key) : (ks : List Key) → Decidable (y ∈ ks)
  | [] => Decidable.isFalse (by simp)
  | k :: ks => if h : y = k then Decidable.isTrue (h ▸ List.mem_cons_self) else match keyDecMem y ks with
    | Decidable.isTrue t => Decidable.isTrue (List.mem_cons_of_mem _ t)
    | Decidable.isFalse t => Decidable.isFalse fun z => (List.mem_cons.mp z).elim h t
instance (y : Key) (ks : List Key) : Decidable (y ∈ ks) := keyDecMem y ks
def dval : List Key → List D → Key → Option D
  | k :: ks, d :: ds, y => if k = y then some d else dval ks ds y
  | _, _, _ => none
/-- in its place, or at the end -/
def dputK (ks : List Key) (y : Key) : List Key := if y ∈ ks then ks else ks ++ [y]
def dputD : List Key → List D → Key → D → List D
  | k :: ks, d :: ds, y, e => if k = y then e :: ds else d :: dputD ks ds y e
  | _, _, _, e => [e]
section
variable {K : PySem.W.Frag} {U H : Hp}
theorem dval_r : ∀ {ks : List Key} {ds : List D} {xs : List V} {y : Key}, Rs K U ds xs → ks.length = xs.length → (dval ks ds y = none → valV (ks.zip xs) y = none) ∧ ∀ d, dval ks ds y = some d → ∃ v, valV (ks.zip xs) y = some v ∧ R K U d v
  | [], ds, xs, y, r, l => by
    cases xs with
    | nil => exact ⟨fun _ => rfl, fun d h => (by cases ds <;> cases h)⟩
    | cons _ _ => cases l
  | k :: ks, [], xs, y, r, l => by
    rw [show xs = [] from r] at l
    cases l
  | k :: ks, d :: ds, xs, y, ⟨v, xs', e, h1, h2⟩, l => by
    subst e
    obtain ⟨i1, i2⟩ := dval_r (ks := ks) (y := y) h2 (Nat.succ.inj l)
    rw [List.zip_cons_cons]
    by_cases hk : k = y
    · rw [valV_pos (p := (k, v)) hk]
      refine ⟨fun h => ?_, fun d' h => ?_⟩
      · unfold dval at h
        rw [if_pos hk] at h
        cases h
      · unfold dval at h
        rw [if_pos hk] at h
        cases h
        exact ⟨v, rfl, h1⟩
    · rw [valV_neg (p := (k, v)) hk]
      unfold dval
      rw [if_neg hk]
      exact ⟨i1, i2⟩
theorem dval_has : ∀ {ks : List Key} {ds : List D} {y : Key}, ks.length = ds.length → (dval ks ds y).isSome = decide (y ∈ ks)
  | [], ds, y, _ => by cases ds <;> rfl
  | k :: ks, [], y, l => by cases l
  | k :: ks, d :: ds, y, l => by
    have ih := dval_has (ks := ks) (ds := ds) (y := y) (Nat.succ.inj l)
    unfold dval
    by_cases hk : k = y
    · rw [if_pos hk, decide_eq_true (show y ∈ k :: ks by rw [hk]; exact List.mem_cons_self)]
      rfl
    · rw [if_neg hk, ih]
      refine decide_eq_decide.mpr ⟨fun h => List.mem_cons_of_mem _ h, fun h => ?_⟩
      rcases List.mem_cons.mp h with h | h
      · exact absurd h.symm hk
      · exact h
theorem dput_r : ∀ {ks : List Key} {ds : List D} {xs : List V} {y : Key} {e : D} {w : V}, Rs K U ds xs → ks.length = xs.length → ks.Nodup → R K U e w → ∃ xs', putK (ks.zip xs) y w = (dputK ks y).zip xs' ∧ (dputK ks y).length = xs'.length ∧ Rs K U (dputD ks ds y e) xs'
  | ks, ds, xs, y, e, w, r, l, nd, h => by
    have any : ∀ {ks : List Key} {xs : List V}, ks.length = xs.length → ((ks.zip xs).any fun kv => decide (kv.1 = y)) = decide (y ∈ ks) := by
      intro ks
      induction ks with
      | nil => intro xs _; cases xs <;> rfl
      | cons k ks ih =>
        intro xs l
        cases xs with
        | nil => cases l
        | cons x xs =>
          rw [List.zip_cons_cons, List.any_cons, ih (Nat.succ.inj l)]
          show (decide (k = y) || decide (y ∈ ks)) = decide (y ∈ k :: ks)
          by_cases hk : k = y
          · rw [decide_eq_true hk, decide_eq_true (show y ∈ k :: ks by rw [hk]; exact List.mem_cons_self)]
            rfl
          · rw [decide_eq_false hk, Bool.false_or]
            refine decide_eq_decide.mpr ⟨fun h => List.mem_cons_of_mem _ h, fun h => ?_⟩
            rcases List.mem_cons.mp h with h | h
            · exact absurd h.symm hk
            · exact h
    have app : ∀ {ks : List Key} {ds : List D} {xs : List V}, Rs K U ds xs → ks.length = xs.length → y ∉ ks → Rs K U (dputD ks ds y e) (xs ++ [w]) := by
      intro ks
      induction ks with
      | nil =>
        intro ds xs r l _
        have : xs = [] := by cases xs with | nil => rfl | cons _ _ => cases l
        subst this
        have : ds = [] := by cases ds with | nil => rfl | cons d ds => obtain ⟨_, _, e, _⟩ := r; cases e
        subst this
        exact ⟨w, [], rfl, h, rfl⟩
      | cons k ks ih =>
        intro ds xs r l hc
        cases ds with
        | nil => rw [show xs = [] from r] at l; cases l
        | cons d ds =>
          obtain ⟨v, xs', e1, h1, h2⟩ := r
          subst e1
          have hk : ¬ k = y := fun z => hc (by rw [z]; exact List.mem_cons_self)
          unfold dputD
          rw [if_neg hk]
          exact ⟨v, xs' ++ [w], rfl, h1, ih h2 (Nat.succ.inj l) fun z => hc (List.mem_cons_of_mem _ z)⟩
    have mp : ∀ {ks : List Key} {ds : List D} {xs : List V}, Rs K U ds xs → ks.length = xs.length → ks.Nodup → y ∈ ks → ∃ xs', (ks.zip xs).map (fun kv => if kv.1 = y then (kv.1, w) else kv) = ks.zip xs' ∧ ks.length = xs'.length ∧ Rs K U (dputD ks ds y e) xs' := by
      intro ks
      induction ks with
      | nil => intro ds xs r l _ hc; cases hc
      | cons k ks ih =>
        intro ds xs r l nd hc
        obtain ⟨n1, n2⟩ := List.nodup_cons.mp nd
        cases ds with
        | nil => rw [show xs = [] from r] at l; cases l
        | cons d ds =>
          obtain ⟨v, xs', e1, h1, h2⟩ := r
          subst e1
          by_cases hk : k = y
          · subst hk
            refine ⟨w :: xs', ?_, l, ?_⟩
            · rw [List.zip_cons_cons, List.map_cons, if_pos rfl, List.zip_cons_cons]
              congr 1
              refine (List.map_congr_left fun kv hkv => ?_).trans (List.map_id _)
              have : kv.1 ≠ k := fun z => n1 (z ▸ (List.of_mem_zip (show (kv.1, kv.2) ∈ ks.zip xs' from hkv)).1)
              rw [if_neg this]
              rfl
            · unfold dputD
              rw [if_pos rfl]
              exact ⟨w, xs', rfl, h, h2⟩
          · have hc' : y ∈ ks := by
              rcases List.mem_cons.mp hc with z | z
              · exact absurd z.symm hk
              · exact z
            obtain ⟨zs, i1, i2, i3⟩ := ih h2 (Nat.succ.inj l) n2 hc'
            refine ⟨v :: zs, ?_, by rw [List.length_cons, List.length_cons, i2], ?_⟩
            · rw [List.zip_cons_cons, List.map_cons, if_neg hk, i1]
              rfl
            · unfold dputD
              rw [if_neg hk]
              exact ⟨v, zs, rfl, h1, i3⟩
    unfold putK dputK
    rw [any l]
    by_cases hc : y ∈ ks
    · rw [decide_eq_true hc, if_pos rfl, if_pos hc]
      obtain ⟨zs, i1, i2, i3⟩ := mp r l nd hc
      exact ⟨zs, i1, i2, i3⟩
    · rw [decide_eq_false hc, if_neg Bool.false_ne_true, if_neg hc]
      refine ⟨xs ++ [w], ?_, by rw [List.length_append, List.length_append, l]; rfl, app r l hc⟩
      rw [List.zip_append l]
      rfl
end
def keyD : D → Option Key
  | .str x => some (.inr x)
  | .int i => some (.inl i)
  | _ => none
theorem keyD_r {K : PySem.W.Frag} {U H : Hp} {d : D} {v : V} {k : Key} (h : keyD d = some k) (r : CR K U H d v) : v = kV k := by
  cases d with
  | str x => cases h; exact r.str
  | int i => cases h; exact r.int
  | _ => cases h
def dKQ (Q : List Key → List D → Prop) : D → Prop
  | .dK ks ds => Q ks ds
  | _ => False
theorem dKQ_of {Q : List Key → List D → Prop} {d : D} (h : dKQ Q d) : ∃ ks ds, d = .dK ks ds ∧ Q ks ds := by
  cases d <;> first | exact ⟨_, _, rfl, h⟩ | exact h.elim
section
variable {c : DC} {U H U' H' : Hp} {σ : L2.St} {ρ ρ' : Env} {ta tb : TE} {a b : AE}
/-- k in d, k not in d, d[k] -/
def aDIn (neg : Bool) (a b : AE) : AE := fun ρ Q X => a ρ (fun y => someQ (fun k => b ρ (dKQ fun ks ds => Q (.bl (if neg then !decide (k ∈ ks) else decide (k ∈ ks)))) X) (keyD y)) X
def aDGet (b a : AE) : AE := fun ρ Q X => b ρ (dKQ fun ks ds => a ρ (fun y => someQ (fun k => someQ Q (dval ks ds k)) (keyD y)) X) X
theorem rs_len' {K : PySem.W.Frag} {ks : List Key} {ds : List D} {xs : List V} (r : Rs K U ds xs) (l : ks.length = xs.length) : ks.length = ds.length := by rw [r.len]; exact l
theorem sim_dIn (ha : SimW c ta a) (hb : SimW c tb b) : SimE c (tDIn ta tb) (aDIn false a b) := fun U H σ ρ Q q I z k =>
  ha U H σ ρ _ _ I z fun U1 H1 d v g1 I1 w1 z1 => by
    obtain ⟨y, ey, z2⟩ := someQ_of z1
    refine hb U1 H1 σ ρ _ _ I1 z2 fun U2 H2 e w g2 I2 w2 z3 => ?_
    obtain ⟨ks, ds, rfl, z4⟩ := dKQ_of z3
    obtain ⟨p, xs, rfl, h1, h2, h3⟩ := (w2.cr I2).dK I2.vh
    have ev := keyD_r ey ((w1.mono g2.vv).cr I2)
    subst ev
    refine ⟨p, _, rfl, .k h1, k U2 H2 (.bl _) _ (g1.trans g2) I2 ?_ z4⟩
    show V.bl _ = V.bl _
    obtain ⟨i1, i2⟩ := dval_r (y := y) h3 h2
    rw [← dval_has (rs_len' h3 h2)]
    cases e : dval ks ds y with
    | none => rw [i1 e]; rfl
    | some d => obtain ⟨w, e1, _⟩ := i2 d e; rw [e1]; rfl
theorem sim_dNotIn (ha : SimW c ta a) (hb : SimW c tb b) : SimE c (tDNotIn ta tb) (aDIn true a b) := fun U H σ ρ Q q I z k =>
  ha U H σ ρ _ _ I z fun U1 H1 d v g1 I1 w1 z1 => by
    obtain ⟨y, ey, z2⟩ := someQ_of z1
    refine hb U1 H1 σ ρ _ _ I1 z2 fun U2 H2 e w g2 I2 w2 z3 => ?_
    obtain ⟨ks, ds, rfl, z4⟩ := dKQ_of z3
    obtain ⟨p, xs, rfl, h1, h2, h3⟩ := (w2.cr I2).dK I2.vh
    have ev := keyD_r ey ((w1.mono g2.vv).cr I2)
    subst ev
    refine ⟨p, _, rfl, .k h1, k U2 H2 (.bl _) _ (g1.trans g2) I2 ?_ z4⟩
    show V.bl _ = V.bl _
    obtain ⟨i1, i2⟩ := dval_r (y := y) h3 h2
    rw [show (if true = true then !decide (y ∈ ks) else decide (y ∈ ks)) = !decide (y ∈ ks) from rfl, ← dval_has (rs_len' h3 h2)]
    cases e : dval ks ds y with
    | none => rw [i1 e]; rfl
    | some d => obtain ⟨w, e1, _⟩ := i2 d e; rw [e1]; rfl
theorem sim_dGet (hb : SimW c tb b) (ha : SimW c ta a) : SimE c (tDGet tb ta) (aDGet b a) := fun U H σ ρ Q q I z k =>
  hb U H σ ρ _ _ I z fun U1 H1 d v g1 I1 w1 z1 => by
    obtain ⟨ks, ds, rfl, z2⟩ := dKQ_of z1
    refine ha U1 H1 σ ρ _ _ I1 z2 fun U2 H2 e w g2 I2 w2 z3 => ?_
    obtain ⟨y, ey, z4⟩ := someQ_of z3
    obtain ⟨d, ed, z5⟩ := someQ_of z4
    obtain ⟨p, xs, rfl, h1, h2, h3⟩ := ((w1.mono g2.vv).cr I2).dK I2.vh
    have ev := keyD_r ey (w2.cr I2)
    subst ev
    obtain ⟨x, e1, r1⟩ := (dval_r (y := y) h3 h2).2 d ed
    exact ⟨p, x, rfl, by rw [← e1]; exact .k h1, k U2 H2 d x (g1.trans g2) I2 r1 z5⟩
def fldIx (f : Str) : List Str → Nat → Option Nat
  | n :: ns, k => if n = f then some k else fldIx f ns (k + 1)
  | [], _ => none
def obfQ (ρ : Env) (i : Nat) (C : Addr) (f : Str) (Q : Addr → List Str → List V → List AV → Nat → AV → Prop) : Prop := obQ ρ i C fun dx ns ws as => match fldIx f ns 0 with
  | some k => match as[k]? with
    | some av => Q dx ns ws as k av
    | none => False
  | none => False
theorem obfQ_of {i : Nat} {C : Addr} {f : Str} {Q : Addr → List Str → List V → List AV → Nat → AV → Prop} (h : obfQ ρ i C f Q) : ∃ dx ns ws as k av, ρ[i]? = some (some (.ob C dx ns ws as)) ∧ fldIx f ns 0 = some k ∧ as[k]? = some av ∧ Q dx ns ws as k av := by
  obtain ⟨dx, ns, ws, as, e, h⟩ := obQ_of h
  split at h
  · split at h
    · exact ⟨dx, ns, ws, as, _, _, e, by assumption, by assumption, h⟩
    · exact h.elim
  · exact h.elim
theorem fldIx_look {f : Str} : ∀ {ns : List Str} {ws : List V} {j k : Nat} {v : V}, fldIx f ns j = some k → ns.length = ws.length → j ≤ k ∧ (ws[k - j]? = some v → (ns.zip ws).lookup f = some v)
  | [], ws, j, k, v, h, _ => by cases h
  | n :: ns, [], j, k, v, _, l => by cases l
  | n :: ns, w :: ws, j, k, v, h, l => by
    unfold fldIx at h
    by_cases hn : n = f
    · rw [if_pos hn] at h
      cases h
      refine ⟨Nat.le_refl _, fun e => ?_⟩
      rw [Nat.sub_self] at e
      cases e
      show (match f == n with | true => some w | false => _) = _
      rw [hn, beq_self_eq_true]
    · rw [if_neg hn] at h
      obtain ⟨i1, i2⟩ := fldIx_look (ws := ws) (v := v) h (Nat.succ.inj l)
      refine ⟨by omega, fun e => ?_⟩
      rw [show k - j = (k - (j + 1)) + 1 by omega, List.getElem?_cons_succ] at e
      show (match f == n with | true => some w | false => (ns.zip ws).lookup f) = _
      rw [beq_eq_false_iff_ne.mpr fun z => hn z.symm]
      exact i2 e
def aFldS (i : Nat) (C : Addr) (f : Str) : AE := fun ρ Q _ => obfQ ρ i C f fun _ _ _ _ _ av => someQ Q av.sh
theorem sim_fldS {i : Nat} {C : Addr} {f : Str} (hc : Cls c.K C) (hn : NoAttr c.K C f) : SimW c (tFld c.K (tVar i) f) (aFldS i C f) := fun U H σ ρ Q q I z k => by
  obtain ⟨dx, ns, ws, as, n, av, e1, e2, e3, z1⟩ := obfQ_of z
  obtain ⟨d, e4, z2⟩ := someQ_of z1
  obtain ⟨v0, f1, f2, _⟩ := rep_at I.rep i _ e1
  have f2' := f2
  obtain ⟨p, rfl, g1, g2, g3⟩ := f2'
  obtain ⟨w, w1, w2⟩ := Paired.at' g3.paired n _ e3
  have hl := (fldIx_look (v := w) e2 g2).2 (by rw [Nat.sub_zero]; exact w1)
  exact ⟨.ref p, f1, p, C, dx, _, w, rfl, g1, hc, hn, hl, k U H d w (Gr.refl I.vh) I (.inr ⟨i, _, .ref p, av, e1, f1, .ob e3 w1 .here, e4⟩) z2⟩
/-- self.f = a thing of one's own -/
def aFldSetO (i : Nat) (C : Addr) (f : Str) (e : AO) : AS := fun N ρ => e ρ (fun av => obQ ρ i C fun dx ns ws as => ns.contains f = false ∧ ns.length < 1000 ∧ ∀ v : V, N.nx (ρ.set i (some (.ob C dx (ns ++ [f]) (ws ++ [v]) (as ++ [av]))))) (fun x => N.ex x ρ)
theorem sim_fldSetO {i : Nat} {C : Addr} {f : Str} {te : TE} {e : AO} (hc : Cls c.K C) (hn : NoAttr c.K C f) (he : SimO c te e) : SimS c (sFld c.K (tVar i) te f) (aFldSetO i C f e) := fun U H σ ρ N n hx I z P => by
  unfold aFldSetO at z
  rw [hx] at z
  refine he U H σ ρ _ _ I z fun U1 H1 av v g1 I1 r1 n1 z1 => ?_
  obtain ⟨dx, ns, ws, as, e1, nf, nl, z2⟩ := obQ_of z1
  obtain ⟨v0, f1, ⟨p, rfl, f3, f4, f5⟩, f6⟩ := rep_at I1.rep i _ e1
  have nd := own_nd I1.nd e1 f1
  obtain ⟨np, nd2⟩ := List.nodup_cons.mp (show (p :: ownAs as ws).Nodup from nd)
  have eo := ownAs_snoc (a := av) (w := v) f5
  have hu : ∀ q ∈ p :: ownAs as ws, U1 q = none := fun q hq => (I1.out q (f6 q hq)).1
  have d1 : ∀ q ∈ own av v, q ∉ owns ρ σ := fun q hq zz => I.ex q zz (n1.out q hq).2
  have pa : p ∉ own av v := fun zz => d1 p zz (f6 p List.mem_cons_self)
  have ej : (ρ.set i (some (.ob C dx (ns ++ [f]) (ws ++ [v]) (as ++ [av]))))[i]? = some (some (.ob C dx (ns ++ [f]) (ws ++ [v]) (as ++ [av]))) := List.getElem?_set_self (List.getElem?_eq_some_iff.mp e1).1
  have ok1 : ownK ρ σ i = p :: ownAs as ws := by unfold ownK; rw [e1, f1]; rfl
  have ok2 : ownK (ρ.set i (some (.ob C dx (ns ++ [f]) (ws ++ [v]) (as ++ [av])))) σ i = p :: (ownAs as ws ++ own av v) := by
    unfold ownK
    rw [ej, f1, ← eo]
    rfl
  have g : Gr [p] U1 H1 U1 (upd H1 p (.ins C dx (putF f v (ns.zip ws)))) := (Gr.refl I1.vh).mut (hu p List.mem_cons_self) (.inl (List.mem_singleton.mpr rfl)) (I1.pl p (f6 p List.mem_cons_self))
  refine ⟨.ref p, f1, p, C, dx, _, rfl, f3, hc, hn, by rw [List.length_zip, ← f4, Nat.min_self]; exact nl, P.nx U1 _ σ _ g1.vv (I1.multiG (M := [p]) (fun k => k == i) g (List.length_set ..) (fun k hk => ?_) (fun k hk => ?_) (fun q hq => ⟨i, by simp, by rw [ok1, List.mem_singleton.mp hq]; exact List.mem_cons_self⟩) (fun k q hk hq => ?_) (fun k l q hkl h1 h2 => ?_)) (z2 v)⟩
  · rw [List.getElem?_set_ne fun z => by rw [z] at hk; simp at hk]
  · have : k = i := by simpa using hk
    subst this
    refine ⟨_, _, .ref p, e1, ej, f1, rfl, ⟨p, rfl, by rw [upd_same, putF_new f4 nf], by rw [List.length_append, List.length_append, f4]; rfl, repAs_snoc (RepAs.keep (Same.refl U1) as ws (fun q hq => ⟨upd_ne (fun z => np (z ▸ hq)), hu q (List.mem_cons_of_mem _ hq)⟩) f5) (RepA.keep (Same.refl U1) av v (fun q hq => ⟨upd_ne (fun z => pa (z ▸ hq)), (n1.out q hq).1⟩) r1)⟩, ?_⟩
    show (p :: ownAs (as ++ [av]) (ws ++ [v])).Nodup
    rw [eo]
    refine List.nodup_cons.mpr ⟨fun z => ?_, List.nodup_append.mpr ⟨nd2, n1.nd, fun x hx' y hy e => d1 y hy (f6 y (by rw [← e]; exact List.mem_cons_of_mem _ hx'))⟩⟩
    rcases List.mem_append.mp z with z | z
    · exact np z
    · exact pa z
  · have : k = i := by simpa using hk
    subst this
    rw [ok2] at hq
    rw [ok1]
    rcases List.mem_cons.mp hq with rfl | hq
    · exact ⟨hu q List.mem_cons_self, .inl List.mem_cons_self⟩
    · rcases List.mem_append.mp hq with hq | hq
      · exact ⟨hu q (List.mem_cons_of_mem _ hq), .inl (List.mem_cons_of_mem _ hq)⟩
      · exact ⟨(n1.out q hq).1, .inr ⟨d1 q hq, I.gr.fresh (n1.out q hq).2⟩⟩
  · have a1 : k = i := by simpa using h1
    have a2 : l = i := by simpa using h2
    exact absurd (a1.trans a2.symm) hkl
def aDNew : AO := fun _ Q _ => Q (.ok [] [])
theorem sim_dNew : SimO c tDNewK aDNew := fun U H σ ρ Q q I z k p np => by
  have g2 : Gr [] U H U (upd H p (.dK [])) := (Gr.refl I.vh).newM np
  exact k _ _ (.ok [] []) (.ref p) g2.any (I.grow g2) ⟨p, [], rfl, upd_same, rfl, rfl⟩ (.one rfl (I.vh.free np) np) z
theorem own_un {v : V} : own .un v = [] := by cases v <;> rfl
theorem ownAs_un : ∀ {as : List AV} {ws : List V} {n : Nat} {a : AV} {x : V}, as[n]? = some a → ws[n]? = some x → (ownAs (as.set n .un) ws).Sublist (ownAs as ws) ∧ ∀ q ∈ ownAs as ws, q ∈ own a x ∨ q ∈ ownAs (as.set n .un) ws
  | [], _, n, a, x, e, _ => by simp at e
  | _ :: _, [], n, a, x, _, e => by simp at e
  | b :: as, y :: ws, 0, a, x, e, f => by
    cases e
    cases f
    have e0 : ownAs ((b :: as).set 0 .un) (y :: ws) = ownAs as ws := by
      show own .un y ++ ownAs as ws = _
      rw [own_un]
      rfl
    rw [e0]
    exact ⟨List.sublist_append_right _ _, fun q hq => (List.mem_append.mp hq)⟩
  | b :: as, y :: ws, n + 1, a, x, e, f => by
    obtain ⟨i1, i2⟩ := ownAs_un (as := as) (ws := ws) (n := n) e f
    refine ⟨List.Sublist.append_left i1 _, fun q hq => ?_⟩
    rcases List.mem_append.mp (show q ∈ own b y ++ ownAs as ws from hq) with h | h
    · exact .inr (List.mem_append_left _ h)
    · exact (i2 q h).imp id (List.mem_append_right _)
theorem ownAs_un_not : ∀ {as : List AV} {ws : List V} {n : Nat} {a : AV} {x : V}, as[n]? = some a → ws[n]? = some x → (ownAs as ws).Nodup → ∀ q ∈ own a x, q ∉ ownAs (as.set n .un) ws
  | [], _, n, a, x, e, _, _, _, _ => by simp at e
  | _ :: _, [], n, a, x, _, e, _, _, _ => by simp at e
  | b :: as, y :: ws, 0, a, x, e, f, nd, q, hq => by
    cases e
    cases f
    show q ∉ own .un y ++ ownAs as ws
    rw [own_un]
    exact fun z => (List.nodup_append.mp (show (own b y ++ ownAs as ws).Nodup from nd)).2.2 q hq q z rfl
  | b :: as, y :: ws, n + 1, a, x, e, f, nd, q, hq => by
    obtain ⟨n1, n2, n3⟩ := List.nodup_append.mp (show (own b y ++ ownAs as ws).Nodup from nd)
    intro z
    rcases List.mem_append.mp (show q ∈ own b y ++ ownAs (as.set n .un) ws from z) with h | h
    · exact n3 q h q (ownAs_at (as := as) e f q hq) rfl
    · exact ownAs_un_not (as := as) e f n2 q hq h
theorem repAs_un {K : PySem.W.Frag} : ∀ {as : List AV} {ws : List V} {n : Nat} {a : AV} {x : V}, as[n]? = some a → ws[n]? = some x → RepAs K U H (as.set n .un) ws → RepA K U H' a x → (∀ q ∈ ownAs (as.set n .un) ws, H' q = H q ∧ U q = none) → RepAs K U H' as ws
  | [], _, n, a, x, e, _, _, _, _ => by simp at e
  | _ :: _, [], n, a, x, _, e, _, _, _ => by simp at e
  | b :: as, y :: ws, 0, a, x, e, f, ⟨v, r, e1, h1, h2⟩, h, hH => by
    cases e
    cases f
    obtain ⟨rfl, rfl⟩ := List.cons.inj e1
    exact ⟨y, ws, rfl, h, RepAs.keep (Same.refl U) as ws (fun q hq => hH q (List.mem_append_right _ hq)) h2⟩
  | b :: as, y :: ws, n + 1, a, x, e, f, ⟨v, r, e1, h1, h2⟩, h, hH => by
    obtain ⟨rfl, rfl⟩ := List.cons.inj e1
    exact ⟨y, ws, rfl, RepA.keep (Same.refl U) b y (fun q hq => hH q (List.mem_append_left _ hq)) h1, repAs_un (as := as) e f h2 h fun q hq => hH q (List.mem_append_right _ hq)⟩
section
variable {i n : Nat} {C dx : Addr} {ns : List Str} {ws : List V} {as : List AV} {a : AV} {p : Addr}
theorem DI.hole (I : DI c U H σ ρ) (e1 : ρ[i]? = some (some (.ob C dx ns ws as))) (e2 : as[n]? = some a) (e3 : ws[n]? = some (.ref p)) (ho : own a (.ref p) = [p]) (hH : ∀ q, q ≠ p → H' q = H q) (hp : H' p ≠ none) : DI c U H' σ (ρ.set i (some (.ob C dx ns ws (as.set n .un)))) ∧ p ∉ owns (ρ.set i (some (.ob C dx ns ws (as.set n .un)))) σ := by
  obtain ⟨v0, f1, ⟨p0, rfl, f3, f4, f5⟩, f6⟩ := rep_at I.rep i _ e1
  have nd := own_nd I.nd e1 f1
  obtain ⟨np, nd2⟩ := List.nodup_cons.mp (show (p0 :: ownAs as ws).Nodup from nd)
  have pin : p ∈ ownAs as ws := ownAs_at e2 e3 p (by rw [ho]; exact List.mem_singleton.mpr rfl)
  have p0p : p0 ≠ p := fun z => np (z ▸ pin)
  obtain ⟨sub, _⟩ := ownAs_un e2 e3
  have pn := ownAs_un_not e2 e3 nd2 p (by rw [ho]; exact List.mem_singleton.mpr rfl)
  have hu : ∀ q ∈ p0 :: ownAs as ws, U q = none := fun q hq => (I.out q (f6 q hq)).1
  have up : U p = none := hu p (List.mem_cons_of_mem _ pin)
  have ej : (ρ.set i (some (.ob C dx ns ws (as.set n .un))))[i]? = some (some (.ob C dx ns ws (as.set n .un))) := List.getElem?_set_self (List.getElem?_eq_some_iff.mp e1).1
  have ok1 : ownK ρ σ i = p0 :: ownAs as ws := by unfold ownK; rw [e1, f1]; rfl
  have ok2 : ownK (ρ.set i (some (.ob C dx ns ws (as.set n .un)))) σ i = p0 :: ownAs (as.set n .un) ws := by unfold ownK; rw [ej, f1]; rfl
  have g : Gr [p] U H U H' := ⟨Same.refl U, fun x o e => by
    have : x ≠ p := fun z => by rw [z, up] at e; cases e
    rw [hH x this]
    exact I.vh x o e, fun x o m _ e => by rw [hH x fun z => m (by rw [z]; exact List.mem_singleton.mpr rfl)]; exact e, fun x e => by
    by_cases z : x = p
    · rw [z]; exact hp
    · rw [hH x z]; exact e, fun x e _ => e, fun P h => tab_keep h fun x o e n => by
    rw [hH x fun z => by
      obtain ⟨y, y1, y2⟩ := I.pl p (f6 p (List.mem_cons_of_mem _ pin))
      rw [z, y1] at e
      cases e
      rw [y2] at n
      cases n]
    exact e, id⟩
  obtain ⟨k1, k2⟩ := ownK_nodup.mp I.nd
  have I' : DI c U H' σ (ρ.set i (some (.ob C dx ns ws (as.set n .un)))) := by
    refine I.multiG (M := [p]) (fun k => k == i) g (List.length_set ..) (fun k hk => ?_) (fun k hk => ?_) (fun q hq => ⟨i, by simp, by rw [ok1, List.mem_singleton.mp hq]; exact List.mem_cons_of_mem _ pin⟩) (fun k q hk hq => ?_) (fun k l q hkl h1 h2 => ?_)
    · rw [List.getElem?_set_ne fun z => by rw [z] at hk; simp at hk]
    · have : k = i := by simpa using hk
      subst this
      refine ⟨_, _, .ref p0, e1, ej, f1, rfl, ⟨p0, rfl, (hH p0 p0p).trans f3, f4, repAs_set f5 e2 e3 ⟨p, rfl⟩ nd2 (fun q hq => hH q fun z => hq (by rw [ho, z]; exact List.mem_singleton.mpr rfl)) fun q hq => hu q (List.mem_cons_of_mem _ hq)⟩, ?_⟩
      exact List.nodup_cons.mpr ⟨fun z => np (sub.mem z), sub.nodup nd2⟩
    · have : k = i := by simpa using hk
      subst this
      rw [ok2] at hq
      rw [ok1]
      rcases List.mem_cons.mp hq with rfl | hq
      · exact ⟨hu q List.mem_cons_self, .inl List.mem_cons_self⟩
      · exact ⟨hu q (List.mem_cons_of_mem _ (sub.mem hq)), .inl (List.mem_cons_of_mem _ (sub.mem hq))⟩
    · have a1 : k = i := by simpa using h1
      have a2 : l = i := by simpa using h2
      exact absurd (a1.trans a2.symm) hkl
  refine ⟨I', fun z => ?_⟩
  obtain ⟨k, hk⟩ := ownK_mem.mp z
  by_cases e : k = i
  · subst e
    rw [ok2] at hk
    rcases List.mem_cons.mp hk with h | h
    · exact p0p h.symm
    · exact pn h
  · unfold ownK at hk
    rw [List.getElem?_set_ne fun zz => e zz.symm] at hk
    exact k2 i k p (fun zz => e zz.symm) (by rw [ok1]; exact List.mem_cons_of_mem _ pin) hk
theorem DI.unhole {U2 H2 : Hp} {o : HO} (I : DI c U H σ ρ) (e1 : ρ[i]? = some (some (.ob C dx ns ws as))) (e2 : as[n]? = some a) (e3 : ws[n]? = some (.ref p)) (ho : own a (.ref p) = [p]) (Ih : DI c U2 H2 σ (ρ.set i (some (.ob C dx ns ws (as.set n .un))))) (np : p ∉ owns (ρ.set i (some (.ob C dx ns ws (as.set n .un)))) σ) (u2 : U2 p = none) (pl2 : Pl H2 p) (r : RepA c.K U2 (upd H2 p o) a (.ref p)) : DI c U2 (upd H2 p o) σ ρ := by
  obtain ⟨v0, f1, _, f6⟩ := rep_at I.rep i _ e1
  have ej : (ρ.set i (some (.ob C dx ns ws (as.set n .un))))[i]? = some (some (.ob C dx ns ws (as.set n .un))) := List.getElem?_set_self (List.getElem?_eq_some_iff.mp e1).1
  obtain ⟨v1, g1, ⟨p0, rfl, g3, g4, g5⟩, g6⟩ := rep_at Ih.rep i _ ej
  rw [f1] at g1
  cases g1
  have pin : p ∈ owns ρ σ := f6 p (List.mem_cons_of_mem _ (ownAs_at e2 e3 p (by rw [ho]; exact List.mem_singleton.mpr rfl)))
  have p0p : p0 ≠ p := fun z => np (g6 p (by rw [← z]; exact List.mem_cons_self))
  obtain ⟨_, back⟩ := ownAs_un e2 e3
  have hu : ∀ q ∈ ownAs (as.set n .un) ws, U2 q = none := fun q hq => (Ih.out q (g6 q (List.mem_cons_of_mem _ hq))).1
  have qne : ∀ q ∈ ownAs (as.set n .un) ws, q ≠ p := fun q hq z => np (g6 p (by rw [← z]; exact List.mem_cons_of_mem _ hq))
  have inh : ∀ q ∈ owns ρ σ, q = p ∨ q ∈ owns (ρ.set i (some (.ob C dx ns ws (as.set n .un)))) σ := fun q hq => by
    obtain ⟨k, hk⟩ := ownK_mem.mp hq
    by_cases e : k = i
    · subst e
      have ok1 : ownK ρ σ k = p0 :: ownAs as ws := by unfold ownK; rw [e1, f1]; rfl
      rw [ok1] at hk
      rcases List.mem_cons.mp hk with h | h
      · exact .inr (g6 q (by rw [h]; exact List.mem_cons_self))
      · rcases back q h with h | h
        · rw [ho] at h
          exact .inl (List.mem_singleton.mp h)
        · exact .inr (g6 q (List.mem_cons_of_mem _ h))
    · refine .inr (ownK_mem.mpr ⟨k, ?_⟩)
      unfold ownK at hk ⊢
      rw [List.getElem?_set_ne fun zz => e zz.symm]
      exact hk
  refine ⟨Ih.gr.mut u2 (I.out p pin).2 pl2, paired_at I.rep.length fun k x y hx hy => ?_, I.nd, fun q hq => ⟨?_, (I.out q hq).2⟩, I.par, I.ko, I.ow, I.on⟩
  · by_cases e : k = i
    · subst e
      rw [e1] at hx
      rw [f1] at hy
      cases hx
      cases hy
      exact ⟨p0, rfl, (upd_ne p0p).trans g3, g4, repAs_un e2 e3 g5 r fun q hq => ⟨upd_ne (qne q hq), hu q hq⟩⟩
    · have hx' : (ρ.set i (some (.ob C dx ns ws (as.set n .un))))[k]? = some x := by rw [List.getElem?_set_ne fun zz => e zz.symm]; exact hx
      obtain ⟨y', ey, ry⟩ := Paired.at' Ih.rep k x hx'
      rw [hy] at ey
      cases ey
      cases x with
      | none => trivial
      | some av =>
        cases y with
        | none => exact ry
        | some v =>
          have hm := mem_owns hx' hy
          exact RepA.keep (Same.refl U2) av v (fun q hq => ⟨upd_ne fun z => np (z ▸ hm q hq), (Ih.out q (hm q hq)).1⟩) ry
  · rcases inh q hq with h | h
    · rw [h]; exact u2
    · exact (Ih.out q h).1
end
@[reducible] def DC.no (c : DC) : DC := ⟨c.K, c.ks, c.pk, c.pv, c.O, c.M, c.U0, c.H0, fun _ _ => False, c.E, c.tb⟩
theorem DI.no (I : DI c U H σ ρ) : DI c.no U H σ ρ := ⟨I.gr, I.rep, I.nd, I.out, I.par, ⟨fun _ _ _ _ _ _ _ _ _ _ _ _ z => z.elim, I.ko.tb⟩, I.ow, I.on⟩
theorem DI.yes (I : DI c U H σ ρ) (J : DI c.no U' H' σ ρ') : DI c U' H' σ ρ' := ⟨J.gr, J.rep, J.nd, J.out, J.par, I.ko, J.ow, J.on⟩
def kD : Key → D
  | .inl i => .int i
  | .inr x => .str x
theorem kD_r {K : PySem.W.Frag} (k : Key) : R K U (kD k) (kV k) := by cases k <;> exact rfl
def okQ (Q : List Key → List D → Prop) : AV → Prop
  | .ok ks ds => Q ks ds
  | _ => False
theorem okQ_of {Q : List Key → List D → Prop} {av : AV} (h : okQ Q av) : ∃ ks ds, av = .ok ks ds ∧ Q ks ds := by
  cases av <;> first | exact ⟨_, _, rfl, h⟩ | exact h.elim
/-- a comprehension over a dict of the instance in a slot -/
def aLcD (i : Nat) (C : Addr) (f : Str) (ag : AG) (at' : AT) (e : AE) (vs : List Nat) : AO := fun ρ Q _ => obfQ ρ i C f fun dx ns ws as n av => okQ (fun ks _ => aComp ag at' e (wipeA (ρ.set i (some (.ob C dx ns ws (as.set n .un)))) vs) (fun _ => False) (ks.map kD) [] (fun acc => Q (.ol acc))) av
theorem sim_lcD {i : Nat} {C : Addr} {f : Str} {js vs : List Nat} {g : TG} {ag : AG} {tt : TT} {at' : AT} {te : TE} {e : AE} (hc : Cls c.K C) (hn : NoAttr c.K C f) (hg : SimG c.no js g ag) (ht : SimT c.no tt at') (he : SimE c.no te e) (hj : (js.all fun j => vs.contains j) = true) (hv : (vs.all fun i => noPar c i) = true) :
    SimO c (tLockE (tLc (iKeys (tFld c.K (tVar i) f)) g tt te vs)) (aLcD i C f ag at' e vs) := fun U H σ ρ Q q I z k => by
  obtain ⟨dx, ns, ws, as, n, av, e1, e2, e3, z1⟩ := obfQ_of z
  obtain ⟨ks, ds, rfl, z2⟩ := okQ_of z1
  obtain ⟨v0, f1, f2, f6⟩ := rep_at I.rep i _ e1
  obtain ⟨p0, rfl, g1, g2, g3⟩ := f2
  obtain ⟨w, w1, w2⟩ := Paired.at' g3.paired n _ e3
  obtain ⟨p, xs, rfl, h1, h2, h3⟩ := w2
  have hl := (fldIx_look (v := .ref p) e2 g2).2 (by rw [Nat.sub_zero]; exact w1)
  refine ⟨p, .dK (ks.zip xs), h1, trivial, fun od => ?_⟩
  obtain ⟨Ih, np⟩ := I.hole e1 e3 w1 rfl (H' := upd H p (.frz od (.dK (ks.zip xs)))) (fun q hq => upd_ne hq) (by rw [upd_same]; intro z; cases z)
  have nd := own_nd I.nd e1 f1
  have pin : p ∈ ownAs as ws := ownAs_at e3 w1 p (List.mem_singleton.mpr rfl)
  have p0p : p0 ≠ p := fun z => (List.nodup_cons.mp (show (p0 :: ownAs as ws).Nodup from nd)).1 (z ▸ pin)
  have pown : p ∈ owns ρ σ := f6 p (List.mem_cons_of_mem _ pin)
  have up : U p = none := (I.out p pown).1
  have ndr : p ∉ drs (ρ.set i (some (.ob C dx ns ws (as.set n .un)))) σ := fun z => np (drs_sub p z)
  have ss : σ.set i (some (.ref p0)) = σ := set_same f1
  have dsub : ∀ q ∈ drs (ρ.set i (some (.ob C dx ns ws (as.set n .un)))) σ, q ∈ drs ρ σ := fun q hq => by
    rw [← ss] at hq
    exact drs_set ρ σ i _ _ rfl q hq
  refine ⟨.ref p0, f1, p0, C, dx, _, .ref p, rfl, (upd_ne p0p).trans g1, hc, hn, hl, p, od, rfl, .inl ⟨ks.zip xs, upd_same, ?_⟩⟩
  have lz : (ks.zip xs).length = (ks.map kD).length := by rw [List.length_zip, List.length_map, h2, Nat.min_self]
  show tLc (fun _ H0 R => R (Itk p od (ks.zip xs)) H0) g tt te vs σ (upd H p (.frz od (.dK (ks.zip xs)))) (fun v H' => H' p = some (.frz od (.dK (ks.zip xs))) ∧ q v (upd H' p (.dK (ks.zip xs))))
  refine lcw (c := c.no) (ds := ks.map kD) (Q := Q) (U := U) (H := upd H p (.frz od (.dK (ks.zip xs)))) hg ht he hj hv (Gr.refl Ih.vh) Ih.no ⟨fun i H x H' => H' = H ∧ ∃ k v, (ks.zip xs)[i]? = some (k, v) ∧ x = kV k, ?_, fun j H5 x H6 d U2 s s2 y ed => ?_⟩ z2 fun U' H' av v g5 I5 r5 n5 z5 => ?_
  · rw [← lz]
    exact walk_keys.mono (fun H'' ⟨U'', g''⟩ => g''.hh p _ ndr (ntb rfl) upd_same) (fun _ _ _ _ _ _ y => y)
  · obtain ⟨rfl, kk, vv, e5, rfl⟩ := y
    rw [List.getElem?_map] at ed
    have e6 : ks[j]? = some kk := by
      have := e5
      rw [List.getElem?_zip_eq_some] at this
      exact this.1
    rw [e6] at ed
    cases ed
    exact ⟨U2, Gr.refl s2, kD_r kk⟩
  · have h5 : H' p = some (.frz od (.dK (ks.zip xs))) := g5.hh p _ ndr (ntb rfl) upd_same
    have u5 : U' p = none := g5.fr p up (by rw [upd_same]; intro z; cases z)
    have nq : ∀ q ∈ own av v, q ≠ p := fun q hq z => by
      have := (n5.out q hq).2
      rw [z, upd_same] at this
      cases this
    refine ⟨h5, k U' (upd H' p (.dK (ks.zip xs))) av v ⟨g5.vv, same_mut g5.vh u5, fun x o m nn e => ?_, fun x e => ?_, fun x e e' => ?_, fun P h => tab_mut (g5.tb P (tab_mut h fun x e => by rw [h1] at e; cases e; rfl)) (fun x e => by rw [h5] at e; cases e; rfl), g5.nt⟩ (I.unhole e1 e3 w1 rfl (I.yes I5) np u5 (.of h5 rfl) ⟨p, xs, rfl, upd_same, h2, Rs.mono g5.vv _ _ h3⟩) (RepA.keep (Same.refl U') av v (fun q hq => ⟨upd_ne (nq q hq), (n5.out q hq).1⟩) r5) ⟨n5.nd, fun q hq => ⟨(n5.out q hq).1, ?_⟩⟩ z5⟩
    · by_cases z : x = p
      · rw [z] at e ⊢
        rw [upd_same, ← h1]
        exact e
      · rw [upd_ne z]
        exact g5.hh x o (fun zz => m (dsub x zz)) nn (by rw [upd_ne z]; exact e)
    · by_cases z : x = p
      · rw [z, upd_same]; intro z; cases z
      · rw [upd_ne z]
        exact g5.dom x (by rw [upd_ne z]; exact e)
    · by_cases z : x = p
      · rw [z]; exact u5
      · exact g5.fr x e (by rw [upd_ne z]; exact e')
    · have := (n5.out q hq).2
      rw [upd_ne (nq q hq)] at this
      exact this
def aDPutF (i : Nat) (C : Addr) (f : Str) (ky e : AE) : AS := fun N ρ => e ρ (fun d => obfQ ρ i C f fun dx ns ws as n av => okQ (fun ks ds => ky ρ (fun y => someQ (fun kk => ks.length < 1000000 ∧ ks.Nodup ∧ N.nx (ρ.set i (some (.ob C dx ns ws (as.set n (.ok (dputK ks kk) (dputD ks ds kk d)))))) ) (keyD y)) (fun x => N.ex x ρ)) av) (fun x => N.ex x ρ)
theorem sim_dPutF {i : Nat} {C : Addr} {f : Str} {tk te : TE} {ky e : AE} (hc : Cls c.K C) (hn : NoAttr c.K C f) (hk : SimE c tk ky) (he : SimE c te e) : SimS c (sDPut (tFld c.K (tVar i) f) tk te) (aDPutF i C f ky e) := fun U H σ ρ N n hx I z P => by
  unfold aDPutF at z
  rw [hx] at z
  refine he U H σ ρ _ _ I z fun U1 H1 d v g1 I1 r1 z1 => ?_
  obtain ⟨dx, ns, ws, as, m, av, e1, e2, e3, z2⟩ := obfQ_of z1
  obtain ⟨ks, ds, rfl, z3⟩ := okQ_of z2
  obtain ⟨v0, f1, ⟨p0, rfl, q1, q2, q3⟩, f6⟩ := rep_at I1.rep i _ e1
  obtain ⟨w, w1, w2⟩ := Paired.at' q3.paired m _ e3
  obtain ⟨p, xs, rfl, h1, h2, h3⟩ := w2
  have hl := (fldIx_look (v := .ref p) e2 q2).2 (by rw [Nat.sub_zero]; exact w1)
  refine ⟨.ref p0, f1, p0, C, dx, _, .ref p, rfl, q1, hc, hn, hl, hk U1 H1 σ ρ _ _ I1 z3 fun U2 H2 y vy g2 I2 r2 z4 => ?_⟩
  obtain ⟨kk, ek, z5, z6, z7⟩ := someQ_of z4
  have ev := keyD_r ek (.of r2 (H := H2))
  subst ev
  obtain ⟨v1, f1', ⟨p0', k0, q1', q2', q3'⟩, f6'⟩ := rep_at I2.rep i _ e1
  rw [f1] at f1'
  cases f1'
  cases k0
  obtain ⟨p', xs', k1, h1', h2', h3'⟩ := RepAs.at q3' _ _ _ e3 w1
  cases k1
  obtain ⟨zs, j1, j2, j3⟩ := dput_r (y := kk) h3' h2' z6 (R.mono g2.vv d v r1)
  have nd := own_nd I2.nd e1 f1
  obtain ⟨np0, nd2⟩ := List.nodup_cons.mp (show (p0 :: ownAs as ws).Nodup from nd)
  have pin : p ∈ ownAs as ws := ownAs_at e3 w1 p (List.mem_singleton.mpr rfl)
  have p0p : p0 ≠ p := fun z => np0 (z ▸ pin)
  have eo : ownAs (as.set m (.ok (dputK ks kk) (dputD ks ds kk d))) ws = ownAs as ws := ownAs_set e3 w1 rfl
  have hu : ∀ q ∈ ownAs as ws, U2 q = none := fun q hq => (I2.out q (f6' q (List.mem_cons_of_mem _ hq))).1
  refine ⟨p, _, rfl, .k h1' (lt_size (by rw [List.length_zip, ← h2', Nat.min_self]; exact z5)), P.nx U2 _ σ _ (g1.vv.trans g2.vv) (I2.swap (b := .ob C dx ns ws as) (b' := .ob C dx ns ws (as.set m (.ok (dputK ks kk) (dputD ks ds kk d)))) e1 f1 .here ⟨p0, rfl, (upd_ne p0p).trans q1', q2', repAs_set q3' e3 w1 ⟨p, zs, rfl, by rw [upd_same, j1], j2, j3⟩ nd2 (fun q hq => upd_ne fun z => hq (by rw [z]; exact List.mem_singleton.mpr rfl)) hu⟩ (by show p0 :: _ = p0 :: _; rw [eo]) rfl (fun x hx' => upd_ne fun z => hx' (by rw [z]; exact List.mem_cons_of_mem _ pin)) (fun x hx' => ?_)) z7⟩
  by_cases z : x = p
  · rw [z, upd_same]; intro z; cases z
  · rw [upd_ne z]
    exact I2.ex x (f6' x hx')
def mMe (C : Addr) (m : Str) (A : AFM) (i : Nat) (r : AA) : AMO := fun ρ Q X => obQ ρ i C fun _ ns _ _ => ns.contains m = false ∧ r ρ (fun as => callM A ρ Q X (.slot i :: as)) (fun x => X x ρ)
theorem simM_me {C : Addr} {m : Str} {A : AFM} {i : Nat} {tr : TA} {r : AA} {E : L2.St → XK} (hE : ∀ σ, E σ = c.E σ) (hr : SimA c tr r) : SimMO c (tMeS C m (spM c.K c.tb A) [] E (tVar i) tr) (mMe C m A i r) := fun U H σ ρ Q q I z k => by
  obtain ⟨dx, ns, ws, as, e1, nm, z1⟩ := obQ_of z
  obtain ⟨v0, f1, ⟨p0, rfl, q1, q2, q3⟩, _⟩ := rep_at I.rep i _ e1
  refine ⟨.ref p0, f1, p0, dx, _, rfl, q1, lookup_none nm, hr U H σ ρ _ _ I z1 fun U1 H1 bs vs g1 I1 r1 z2 => ?_⟩
  rw [List.append_nil]
  exact run_spM I1 (as := .slot i :: bs) (vs := .ref p0 :: vs) (.cons f1 r1) z2 (fun U2 H2 ρ2 av v g2 I2 o2 r2 n2 d2 z3 => k U2 H2 ρ2 av v ((g1.weak drs_sub).trans g2) I2 (OldNew.trans g1 .refl o2) r2 (n2.back fun _ h => g1.fresh h) d2 z3) (fun U2 H2 ρ2 x cls o I2 xr z => by rw [hE]; exact I2.raise xr z)
theorem rs_args {K : PySem.W.Frag} {σ : L2.St} : ∀ {ds : List D} {vs : List V}, Rs K U ds vs → Paired (ArgR K U σ) (ds.map .val) vs
  | [], _, h => by rw [show _ = [] from h]; exact .nil
  | d :: ds, _, ⟨v, r, e, h1, h2⟩ => by rw [e]; exact .cons h1 (rs_args h2)
theorem kas_args {K : PySem.W.Frag} {σ : L2.St} {es : List D} {zs : List V} (r : Rs K U es zs) : ∀ {arr : List KA}, arr.all (kaOk zs.length) = true → Paired (ArgR K U σ) (arr.map fun a => .val (kaD es a)) (arr.map (kaV zs))
  | [], _ => .nil
  | a :: arr, h => by
    rw [List.all_cons, Bool.and_eq_true] at h
    exact .cons (ka_rep r h.1) (kas_args r h.2)
end
/-- C.m(.., k = v) that may raise -/
def tMeNS (C : Addr) (m : Str) (n mm : Nat) (sp : Sp) (gV : List V → List V → List V) (E : L2.St → XK) (ta : TE) (t tk : TA) : TE := fun σ H Q => ta σ H fun x H1 => ∃ a dx fs, x = .ref a ∧ H1 a = some (.ins C dx fs) ∧ fs.lookup m = none ∧
  t σ H1 fun vs H2 => tk σ H2 fun zs H3 => vs.length = n ∧ zs.length = mm ∧ sp (gV (x :: vs) zs) H3 Q (E σ)
section
variable {X : Cx} {CX : CXT} {k n : Nat} {f C : Addr} {fd : FuncData} {ps ks : List Str} {sp : Sp} {E : L2.St → XK} {m : Str} {pos apos : Pos} {e o : Expr} {es : List Expr} {kws : List Keyword} {ta : TE} {t tk : TA} {g : List Value → List Value → List Value} {gV : List V → List V → List V}
theorem pe_meNS {pl : Sem Bool} (he : PE X o ta) (c : Cls X.K C) (hm : Meth X.K C m f) (F : FnOk X.prog X.w X.K X.mg X.base CX k f fd ps sp) (hr : Room k X.A) (hb : KBn X.K fd ps (n + 1) ks g gV) (hx : ∀ σ, PassesAt CX X σ (E σ)) (ha : PA X (e :: es) t) (hkw : PK X kws tk)
    (hall : (backToKw pos (keywordEach kws X.env)).all (·.1.isSome) = true := by rfl) (hks : (backToKw pos (keywordEach kws X.env)).filterMap (·.1) = ks := by rfl)
    (hst : starEach (e :: es) X.env = (false, eval e X.env) :: starEach es X.env := by rfl)
    (hpl : ((backTo pos (starEach (e :: es) X.env)).any (·.1) || (backToKw pos (keywordEach kws X.env)).any (·.1.isNone)) = false := by rfl)
    (ht : eval (.Call (.Attribute o m apos) (e :: es) kws pos) X.env = (do
      let ov ← eval o X.env
      standAt apos.atName
      let (f, first) ← holding [ov] (getMethod ov m pl)
      callWith pos f first (backTo pos (starEach (e :: es) X.env)) (backToKw pos (keywordEach kws X.env))) := by rfl) :
    PE X (.Call (.Attribute o m apos) (e :: es) kws pos) (tMeNS C m n ks.length sp gV E ta t tk) := by
  refine ⟨fun pins s σ H Q I h => ?_⟩
  refine PySem.W.methodCall_KW (pl := pl) (thn (he.run pins s σ H _ I h) fun u s1 ⟨x, H1, I1, rx, a, dx, fs, ex, ea, l, q⟩ => ?_) ht
  subst ex
  obtain rfl : u = Value.ref a := rx
  refine getmeth_ok I1 ea c hm l ?_
  refine PySem.W.callWith_KW (first := [.ref a]) (h₀ := X.base) I.ok.mod.kin hm.kp hall (thn (ha.run pos pins s1 σ H1 _ I1 q) fun us s2 ⟨vs, H2, I2, r, q2⟩ => ?_) hpl hst
  refine thn (hkw.run pos pins s2 σ H2 _ I2 q2) fun ws s3 ⟨zs, H3, I3, rz, l1, l2, q3⟩ => ⟨I3.kIn, ?_⟩
  rw [hks]
  have e1 : (Value.ref a :: us).length = n + 1 := by rw [List.length_cons, ← r.length, l1]
  have e2 : ws.length = ks.length := rz.length.symm.trans l2
  refine wpAny_call (codeAny_mono (F.run X.A X.stack s3 H3 ⟨.ref a :: us, ks.zip ws⟩ (g (.ref a :: us) ws) (gV (.ref a :: vs) zs) Q (E σ) hr I3.env0 (hb.to s3 (.ref a :: us) ws I3.kIn e1 e2) (hb.rel (.cons rfl r) rz) q3) fun r s' hq => ?_)
  cases r with
  | error e => exact hx σ pins H3 s3 e s' I3 hq
  | ok fl =>
    cases fl with
    | ret u => exact I3.after hq
    | next => exact False.elim hq
    | brk => exact False.elim hq
    | cont => exact False.elim hq
end
section
variable {c : DC} {U H U' H' : Hp} {σ : L2.St} {ρ ρ' : Env}
def mMe0 (C : Addr) (m : Str) (A : AFM) (i : Nat) (r : AA) : AMO := fun ρ Q X => obQ ρ i C fun _ ns _ _ => ns.contains m = false ∧ r ρ (fun as => callM A ρ Q (fun _ _ => False) (.slot i :: as)) (fun x => X x ρ)
theorem simM_me0 {C : Addr} {m : Str} {A : AFM} {i : Nat} {tr : TA} {r : AA} {E : L2.St → XK} (hr : SimA c tr r) : SimMO c (tMeS C m (spM c.K c.tb A) [] E (tVar i) tr) (mMe0 C m A i r) := fun U H σ ρ Q q I z k => by
  obtain ⟨dx, ns, ws, as, e1, nm, z1⟩ := obQ_of z
  obtain ⟨v0, f1, ⟨p0, rfl, q1, q2, q3⟩, _⟩ := rep_at I.rep i _ e1
  refine ⟨.ref p0, f1, p0, dx, _, rfl, q1, lookup_none nm, hr U H σ ρ _ _ I z1 fun U1 H1 bs vs g1 I1 r1 z2 => ?_⟩
  rw [List.append_nil]
  exact run_spM I1 (as := .slot i :: bs) (vs := .ref p0 :: vs) (.cons f1 r1) z2 (fun U2 H2 ρ2 av v g2 I2 o2 r2 n2 d2 z3 => k U2 H2 ρ2 av v ((g1.weak drs_sub).trans g2) I2 (OldNew.trans g1 .refl o2) r2 (n2.back fun _ h => g1.fresh h) d2 z3) (fun _ _ _ _ _ _ _ _ z => z.elim)
def mMeN0 (C : Addr) (m : Str) (n mm : Nat) (A : AFM) (arr : List KA) (i : Nat) (r rk : AL) : AMO := fun ρ Q X => obQ ρ i C fun _ ns _ _ => ns.contains m = false ∧ r ρ (fun ds => rk ρ (fun es => ds.length = n ∧ es.length = mm ∧ arr.all (kaOk mm) = true ∧ callM A ρ Q (fun _ _ => False) (.slot i :: (ds.map .val ++ arr.map fun a => .val (kaD es a)))) (fun x => X x ρ)) (fun x => X x ρ)
theorem simM_meN0 {C : Addr} {m : Str} {n mm mm' : Nat} {A : AFM} {arr : List KA} {i : Nat} {tr tk : TA} {r rk : AL} {E : L2.St → XK} {gV : List V → List V → List V} (hm : mm' = mm) (hg : ∀ vs zs : List V, zs.length = mm → gV vs zs = vs ++ arr.map (kaV zs)) (hr : SimL c tr r) (hk : SimL c tk rk) : SimMO c (tMeNS C m n mm' (spM c.K c.tb A) gV E (tVar i) tr tk) (mMeN0 C m n mm A arr i r rk) := fun U H σ ρ Q q I z k => by
  obtain ⟨dx, ns, ws, as, e1, nm, z1⟩ := obQ_of z
  obtain ⟨v0, f1, ⟨p0, rfl, q1, q2, q3⟩, _⟩ := rep_at I.rep i _ e1
  refine ⟨.ref p0, f1, p0, dx, _, rfl, q1, lookup_none nm, hr U H σ ρ _ _ I z1 fun U1 H1 ds vs g1 I1 r1 z2 => hk U1 H1 σ ρ _ _ I1 z2 fun U2 H2 es zs g2 I2 r2 z3 => ?_⟩
  obtain ⟨l1, l2, ha, z4⟩ := z3
  have lz : zs.length = mm := by rw [← r2.len]; exact l2
  refine ⟨by rw [← r1.len]; exact l1, lz.trans hm.symm, ?_⟩
  rw [hg _ _ lz]
  have g12 := g1.trans g2
  exact run_spM I2 (as := .slot i :: (ds.map .val ++ arr.map fun a => .val (kaD es a))) (vs := .ref p0 :: (vs ++ arr.map (kaV zs))) (.cons f1 (Paired.app (rs_args (Rs.mono g2.vv _ _ r1)) (kas_args r2 (by rw [lz]; exact ha)))) z4 (fun U3 H3 ρ3 av v g3 I3 o3 r3 n3 d3 z5 => k U3 H3 ρ3 av v ((g12.weak drs_sub).trans g3) I3 (OldNew.trans g12 .refl o3) r3 (n3.back fun _ h => g12.fresh h) d3 z5) (fun _ _ _ _ _ _ _ _ z => z.elim)
/-- C() -/
def aMk00 (C : Addr) (A : AFM) : AO := fun _ Q _ => mkQ C A Q (fun _ => False) []
theorem sim_mk00 {C : Addr} {A : AFM} {E : L2.St → XK} : SimO c (tMkS C (spM c.K c.tb A) [] E tNil) (aMk00 C A) := fun U H σ ρ Q q I z k x dx nx nd ne =>
  run_mk (vs := []) I .nil (fun a ha => (by cases ha)) z (fun U3 H3 av v g3 I3 r3 n3 z4 => k U3 H3 av v g3 I3 r3 n3 z4) (fun _ _ _ _ _ _ _ z => z.elim) nx nd ne
def oSortS : List D → (AV → Prop) → Prop := fun ds Q => oneQ (seqQ fun es => someQ (fun xs => ∀ ys : List Str, ys.Perm xs → sortedS ys = true → Q (.ol (ys.map .str))) (strsOf es)) ds
theorem rs_strs {K : PySem.W.Frag} : ∀ (xs : List Str), Rs K U (xs.map D.str) (xs.map V.str)
  | [] => rfl
  | x :: xs => ⟨_, _, rfl, rfl, rs_strs xs⟩
theorem bu_sortS {K : PySem.W.Frag} : BuO K (rSortS K) oSortS := fun U H vs ds Q q s r z k => by
  obtain ⟨d, rfl, z0⟩ := oneQ_of z
  obtain ⟨es, he, z1⟩ := seqQ_of z0
  obtain ⟨xs, hx, z2⟩ := someQ_of z1
  obtain ⟨v, rfl, cd⟩ := paired1 r
  obtain ⟨p, us, rfl, h1, h2⟩ := cd.seq s he
  rw [strsOf_eq hx] at h2
  rw [h2.strs] at h1
  exact ⟨p, xs, rfl, h1, fun ys p' hp hs np => own_new s np (rs_strs ys) (z2 ys hp hs) k⟩
def gL (n : Nat) (r : AGs) : AG := fun d ρ Q => match d with | .lst ds => ds.length = n ∧ r ds ρ Q | _ => False
theorem sim_gL {js : List Nat} {n : Nat} {gs : TGs} {ags : AGs} (hs : SimGs c js gs ags) : SimG c js (gLst c.K n gs) (gL n ags) := fun U H σ ρ d v Q q I r z k => by
  cases d with
  | lst ds =>
    obtain ⟨a, xs, rfl, h1, h2⟩ := r
    obtain ⟨z1, z2⟩ : ds.length = n ∧ ags ds ρ Q := z
    exact ⟨a, xs, rfl, SqL.of (I.vh _ _ h1), by rw [← h2.len]; exact z1, hs U H σ ρ ds xs Q q I h2 z2 k⟩
  | _ => exact (show False from z).elim
theorem pg_lstK {X : Cx} {K : PySem.W.Frag} {pos : Pos} {es : List Expr} {k : Nat} {t : TGs} {n : Nat} (h : X.K = K) (hc : X.calm = true) (hh : PGs X es t) (hn : (assignEach es X.env).length = n := by rfl) (hst : (assignEach es X.env).findIdx? (·.1) = none := by rfl) : PG X (.Tuple es k pos) (gLst K n t) := by subst h; exact pg_lst hc hh hn hst
theorem w_gL {ρ : Env} {n : Nat} {rs : AGs} {P : Env → Prop} {ds : List D} (h : ds.length = n) (q : rs ds ρ P) : gL n rs (.lst ds) ρ P := ⟨h, q⟩
/-- a tuple that is read is as good as one that never changes -/
def aTupE (e : AE) : AE := fun ρ Q X => e ρ (tupQ fun ds => Q (.tup ds)) X
theorem sim_tupE {te : TE} {e : AE} (h : SimW c te e) : SimE c te (aTupE e) := fun U H σ ρ Q q I z k => h U H σ ρ _ _ I z fun U1 H1 d v g1 I1 w1 z1 => by
  obtain ⟨ds, rfl, z2⟩ := tupQ_of z1
  exact k U1 H1 (.tup ds) v g1 I1 (w1.cr I1).tupR z2
/-- a method with defaults alone, on the instance in a slot; nothing is raised -/
def mMeD0 (C : Addr) (m : Str) (A : AFM) (ns0 : List Int) (i : Nat) (r : AL) : AMO := fun ρ Q X => obQ ρ i C fun _ ns _ _ => ns.contains m = false ∧ r ρ (fun ds => callM A ρ Q (fun _ _ => False) (.slot i :: (ds.map .val ++ ns0.map fun a => .val (.int a)))) (fun x => X x ρ)
theorem ints_args {K : PySem.W.Frag} {σ : L2.St} : ∀ (ns : List Int), Paired (ArgR K U σ) (ns.map fun a => .val (.int a)) (ns.map V.int)
  | [] => .nil
  | n :: ns => .cons rfl (ints_args ns)
end
end SW
namespace SW
open PySem PySem.Spec PyProof.Rows L2 SWS
variable [QN]
section
variable {ρ : Env} {nx : Env → Prop} {rt : AV → Env → Prop} {bk ct : Env → Prop} {ex : Exn → Env → Prop} {i j k : Nat} {a b e : AE} {Q : D → Prop} {O : AV → Prop} {X : Exn → Prop} {C dx : Addr} {f : Str} {ns : List Str} {ws : List V} {as : List AV} {av : AV} {d : D} {ks : List Key} {ds : List D}
theorem w_dInF (q : a ρ (fun y => someQ (fun k => b ρ (dKQ fun ks _ => Q (.bl (decide (k ∈ ks)))) X) (keyD y)) X) : aDIn false a b ρ Q X := q
theorem w_dInT (q : a ρ (fun y => someQ (fun k => b ρ (dKQ fun ks _ => Q (.bl (!decide (k ∈ ks)))) X) (keyD y)) X) : aDIn true a b ρ Q X := q
theorem w_dGet (q : b ρ (dKQ fun ks ds => a ρ (fun y => someQ (fun k => someQ Q (dval ks ds k)) (keyD y)) X) X) : aDGet b a ρ Q X := q
theorem w_keyS {P : Key → Prop} {x : Str} (q : P (.inr x)) : someQ P (keyD (.str x)) := q
theorem w_dKQ {P : List Key → List D → Prop} (q : P ks ds) : dKQ P (.dK ks ds) := q
theorem w_obfQ {P : Addr → List Str → List V → List AV → Nat → AV → Prop} (h1 : ρ[i]? = some (some (.ob C dx ns ws as))) (h2 : fldIx f ns 0 = some k) (h3 : as[k]? = some av) (q : P dx ns ws as k av) : obfQ ρ i C f P := by
  unfold obfQ obQ
  rw [h1]
  refine ⟨rfl, ?_⟩
  dsimp only
  rw [h2]
  dsimp only
  rw [h3]
  exact q
theorem w_fldS (h1 : ρ[i]? = some (some (.ob C dx ns ws as))) (h2 : fldIx f ns 0 = some k) (h3 : as[k]? = some av) (h4 : av.sh = some d) (q : Q d) : aFldS i C f ρ Q X := w_obfQ h1 h2 h3 (by show someQ Q av.sh; rw [h4]; exact q)
theorem w_lcD {ag : AG} {at' : AT} {vs : List Nat} (h1 : ρ[i]? = some (some (.ob C dx ns ws as))) (h2 : fldIx f ns 0 = some k) (h3 : as[k]? = some (.ok ks ds)) (q : aComp ag at' e (wipeA (ρ.set i (some (.ob C dx ns ws (as.set k .un)))) vs) (fun _ => False) (ks.map kD) [] (fun acc => O (.ol acc))) : aLcD i C f ag at' e vs ρ O X := w_obfQ h1 h2 h3 q
theorem w_fldSetN (h1 : ρ[i]? = some (some (.ob C dx ns ws as))) (h3 : ns.contains f = false ∧ ns.length < 1000) (q : ∀ v : V, nx (ρ.set i (some (.ob C dx (ns ++ [f]) (ws ++ [v]) (as ++ [.ok [] []]))))) : aFldSetO i C f aDNew ⟨nx, rt, bk, ct, ex⟩ ρ := by
  show obQ ρ i C _
  unfold obQ
  rw [h1]
  exact ⟨rfl, h3.1, h3.2, q⟩
theorem w_dPutF (q : e ρ (fun d => obfQ ρ i C f fun dx ns ws as n av => okQ (fun ks ds => a ρ (fun y => someQ (fun kk => ks.length < 1000000 ∧ ks.Nodup ∧ nx (ρ.set i (some (.ob C dx ns ws (as.set n (.ok (dputK ks kk) (dputD ks ds kk d))))))) (keyD y)) (fun x => ex x ρ)) av) (fun x => ex x ρ)) : aDPutF i C f a e ⟨nx, rt, bk, ct, ex⟩ ρ := q
theorem w_okQ {P : List Key → List D → Prop} (q : P ks ds) : okQ P (.ok ks ds) := q
theorem w_sortS {xs : List Str} (q : ∀ ys : List Str, ys.Perm xs → sortedS ys = true → O (.ol (ys.map .str))) : oSortS [.tup (xs.map .str)] O := by
  show someQ _ (strsOf (xs.map D.str))
  rw [strsOf_map]
  exact q
theorem w_mk00 {A : AFM} (q : mkQ C A O (fun _ => False) []) : aMk00 C A ρ O X := q
end
section
variable {ρ : Env} {O : AV → Env → Prop} {X : Exn → Env → Prop} {C dx : Addr} {m : Str} {A : AFM} {i n mm : Nat} {r : AA} {ra rk : AL} {arr : List KA} {ns : List Str} {ws : List V} {as : List AV}
theorem w_obQ {P : Addr → List Str → List V → List AV → Prop} (h1 : ρ[i]? = some (some (.ob C dx ns ws as))) (q : P dx ns ws as) : obQ ρ i C P := by
  unfold obQ
  rw [h1]
  exact ⟨rfl, q⟩
theorem m_me (h1 : ρ[i]? = some (some (.ob C dx ns ws as))) (h2 : ns.contains m = false) (q : r ρ (fun as => callM A ρ O X (.slot i :: as)) (fun x => X x ρ)) : mMe C m A i r ρ O X := w_obQ h1 ⟨h2, q⟩
theorem m_me0 (h1 : ρ[i]? = some (some (.ob C dx ns ws as))) (h2 : ns.contains m = false) (q : r ρ (fun as => callM A ρ O (fun _ _ => False) (.slot i :: as)) (fun x => X x ρ)) : mMe0 C m A i r ρ O X := w_obQ h1 ⟨h2, q⟩
theorem m_meN0 (h1 : ρ[i]? = some (some (.ob C dx ns ws as))) (h2 : ns.contains m = false) (q : ra ρ (fun ds => rk ρ (fun es => ds.length = n ∧ es.length = mm ∧ arr.all (kaOk mm) = true ∧ callM A ρ O (fun _ _ => False) (.slot i :: (ds.map .val ++ arr.map fun a => .val (kaD es a)))) (fun x => X x ρ)) (fun x => X x ρ)) : mMeN0 C m n mm A arr i ra rk ρ O X := w_obQ h1 ⟨h2, q⟩
end
end SW
namespace SW
open PySem PySem.Spec PyProof.Rows L2 SWS
/-- sorted(d) of a dict whose keys are texts -/
def rSortD : List V → Hp → VK → Prop := fun vs H Q => ∃ (a : Addr) (xs : List Str) (ws : List V), vs = [V.ref a] ∧ H a = some (.dK ((xs.map fun x => (Sum.inr x : Key)).zip ws)) ∧ xs.length = ws.length ∧
  ∀ (ys : List Str) (p : Addr), ys.Perm xs → sortedS ys = true → H p = none → Q (.ref p) (upd H p (.lst (ys.map V.str)))
theorem strs_of_keys : ∀ {us : List Value} {xs : List Str}, us.length = xs.length → (∀ (j : Nat) (v : Value), us[j]? = some v → ∃ x t, xs[j]? = some x ∧ v = Value.str x t) → StrsAre us xs
  | [], [], _, _ => .nil
  | [], _ :: _, l, _ => by cases l
  | _ :: _, [], l, _ => by cases l
  | u :: us, x :: xs, l, h => by
    obtain ⟨y, t, e1, e2⟩ := h 0 u rfl
    cases e1
    rw [e2]
    exact .cons x t (strs_of_keys (Nat.succ.inj l) fun j v hv => h (j + 1) v hv)
theorem pair_at {α β : Type} {F : α → β → Prop} : ∀ {xs : List α} {ys : List β}, Paired F xs ys → ∀ (i : Nat) (x : α), xs[i]? = some x → ∃ y, ys[i]? = some y ∧ F x y
  | _, _, .nil, i, x, h => by simp at h
  | _, _, .cons h t, 0, x, e => by cases e; exact ⟨_, rfl, h⟩
  | _, _, .cons h t, i + 1, x, e => pair_at t i x e
theorem cr_sortD {X : Cx} (hc : X.calm = true) : CallR X (.builtin "sorted") rSortD := by
  intro pins s σ H vs us Q I r h
  obtain ⟨a, xs, ws, rfl, ha, hlw, q⟩ := h
  rw [Vals.ref1 r]
  obtain ⟨z, hd, kvs, rel, dd⟩ := dk_of I.hok ha
  obtain ⟨ep, hat⟩ := dd.dictAt
  have lk : kvs.length = xs.length := by rw [← rel.length, List.length_zip, List.length_map, hlw, Nat.min_self]
  have hn : kvs.length ≤ sizeLine := by rw [← rel.length]; exact z
  refine Calls.call_function_entry kind_sorted plain_sorted entry_sorted (args_sorted1 _) ?_
  unfold Builtin.«sorted»
  refine wpAny_bind (m := checkCount "sorted" 1 1 _) (wpAny_pure ?_)
  refine wpAny_bind (PySem.W.kdu_collect (A := X.A.in1) (PySem.W.kdl_dict (knd := mixKind X.prog X.w) (kvs := kvs) (ep := ep) hd) (I.ok.hd hc) hat hn fun h' tk acc hk hacc => ?_)
  have hl : acc.toList.length = kvs.length := by rw [Array.length_toList]; exact hacc.1
  refine wpAny_bind (wpAny_newList ?_ (by rw [hl]; exact hn))
  have hS : StrsAre acc.toList xs := strs_of_keys (hl.trans lk) fun j v hv => by
    obtain ⟨k, y, e1, e2⟩ := hacc.2 j v (by rw [← Array.getElem?_toList]; exact hv)
    have hj : j < ((xs.map fun x => (Sum.inr x : Key)).zip ws).length := by
      rw [rel.length]
      exact (List.getElem?_eq_some_iff.mp e1).1
    have hjx : j < xs.length := by rw [← lk]; exact (List.getElem?_eq_some_iff.mp e1).1
    obtain ⟨p, ep', hk1, _⟩ := pair_at rel j _ (List.getElem?_eq_getElem hj)
    rw [e1] at ep'
    cases ep'
    have e3 : k = Sum.inr xs[j] := by
      have hk2 : (((xs.map fun x => (Sum.inr x : Key)).zip ws)[j]).1 = k := hk1
      rw [List.getElem_zip] at hk2
      rw [← hk2]
      exact List.getElem_map _
    subst e3
    have e2' : keyIs (Sum.inr xs[j]) v = true := e2
    rcases keyIs_shape e2' with ⟨i, t, e4, _⟩ | ⟨x, t, e4, e5⟩
    · cases e4
    · exact ⟨xs[j], t, List.getElem?_eq_getElem hjx, by rw [e5, Sum.inr.inj e4]⟩
  have hoL : (h'.push (seqObj "list" acc.toList.toArray 0)).get? h'.objs.size = some (seqObj "list" acc.toList.toArray 0) := Heap.get?_push_size _ rfl
  refine wpAny_bind (wpAny_holding (wpAny_call_entry slot_list_sort ⟨_, hoL, rfl⟩ entry_list_sort (list_sort_treeKAny strKind_oneLt hoL hS.keysOf (fun v₁ v₂ rest e => keyKind_strs (by rw [← e]; exact hS)) (by rw [hl]; exact hn) fun st' hp hs => ⟨_, rfl, ?_⟩) (args_list_sort _)))
  obtain ⟨ss', h1, h2, h3⟩ := sorted_out_str hS hp hs
  have hfr : s.heap.get? h'.objs.size = none := by
    cases e : s.heap.get? h'.objs.size with
    | none => rfl
    | some o => exact absurd (Heap.lt_size (hk _ _ e)) (Nat.lt_irrefl _)
  have hHn : H h'.objs.size = none := (I.hok.kept hk).fresh (Nat.le_refl _)
  obtain ⟨ep2, he'⟩ := sortedHeap_at (vs := acc.toList) (out := (arrOf st').map (·.2)) hoL
  have hlen : (ss'.map V.str).length ≤ sizeLine := by
    rw [List.length_map, h2.length_eq, ← lk]
    exact hn
  refine wpAny_pure ⟨_, rfl, ?_⟩
  refine ⟨.ref _, upd H h'.objs.size (.lst (ss'.map V.str)), I.laidN (t' := tk) (fun b u e => ?_) hfr hHn ⟨hlen, ((arrOf st').map (·.2)).toList, ep2, vals_strs h1, by rw [Array.toArray_toList]; exact he'⟩, rfl, q _ _ h2 h3 hHn⟩
  have e' := hk b u e
  have hb : b < h'.objs.size := Heap.lt_size e'
  rw [sortedHeap_old (Nat.ne_of_lt hb) (by rw [Heap.size_push]; exact Nat.lt_succ_of_lt hb)]
  exact Heap.get?_push_of_some _ e'
end SW
namespace SW
open PySem PySem.Spec PyProof.Rows L2 SWS
variable [QN]
def rLenOwn (C : Addr) (sp : Sp) (E : XK) : List V → Hp → VK → Prop := fun vs H Q => ∃ a dx fs, vs = [.ref a] ∧ H a = some (.ins C dx fs) ∧ sp [.ref a] H (fun v H' => ∃ n : Int, v = .int n ∧ (0 ≤ n ∧ n < 2 ^ 63) ∧ Q (.int n) H') E
section
variable {X : Cx} {CX : CXT} {k : Nat} {C f : Addr} {fd : FuncData} {ps : List Str} {sp : Sp} {E : XK}
theorem cr_lenOwn (F : FnOk X.prog X.w X.K X.mg X.base CX k f fd ps sp) (hr : Room (k + 1) X.A) (hm : Meth X.K C "__len__" f) (hb : Binds X.K fd ps []) (hx : Passes CX X E) : CallR X (.builtin "len") (rLenOwn C sp E) := by
  intro pins s σ H vs us Q I r h
  obtain ⟨a, dx, fs, rfl, ha, hsp⟩ := h
  rw [Vals.ref1 r]
  obtain ⟨mA, J, _⟩ := ins_get I.hok ha
  obtain ⟨od, J, _⟩ := J.look
  obtain ⟨m, hF⟩ := I.fr
  refine PySem.W.len_K hF I.ok.mod.kin J hm.at_ hm.fn ?_
  have hl := F.len _ _ _ _ hsp
  have e0 : Env0 X.prog X.w X.K X.mg X.base X.A.in1 X.stack s H := by
    have e := I.env0
    exact ⟨e.frames, e.mod, e.bs, e.bsz, e.funs, e.frf, e.hok, e.bare⟩
  refine wpAny_call (codeAny_mono (F.run X.A.in1 X.stack s H ⟨[.ref a], []⟩ [.ref a] [.ref a] _ E hr.in1 e0 (by
    have := hb s [.ref a] I.kIn (by simpa using hl)
    simpa using this) (.cons rfl .nil) hsp) fun r s' hq => ?_)
  cases r with
  | error e => exact hx pins σ H s e s' I hq
  | ok fl =>
    cases fl with
    | ret w =>
      obtain ⟨z, H', I', rz, n, rfl, hn, q⟩ := I.after hq
      obtain ⟨t, rfl⟩ := rz
      exact ⟨hn, .int n, H', I'.tok _, ⟨_, rfl⟩, q⟩
    | next => exact False.elim hq
    | brk => exact False.elim hq
    | cont => exact False.elim hq
end
section
variable {c : DC} {U H : Hp} {σ : L2.St} {ρ : Env}
def lenQ (Q : D → Env → Prop) : AV → Env → Prop
  | .fz (.int n), ρ => (0 ≤ n ∧ n < 2 ^ 63) ∧ Q (.int n) ρ
  | _, _ => False
def mLenOwn (C : Addr) (A : AFM) (i : Nat) : AM := fun ρ Q _ => obQ ρ i C fun _ _ _ _ => callM A ρ (lenQ Q) (fun _ _ => False) [.slot i]
/-- len(d) -/
def oLenD : List D → (D → Prop) → Prop := fun ds Q => oneQ (dKQ fun ks _ => Q (.int ks.length)) ds
def keyStrs : List Key → Option (List Str)
  | [] => some []
  | .inr x :: ks => (keyStrs ks).map (x :: ·)
  | .inl _ :: _ => none
theorem keyStrs_eq : ∀ {ks : List Key} {xs : List Str}, keyStrs ks = some xs → ks = xs.map fun x => (Sum.inr x : Key)
  | [], xs, h => by cases h; rfl
  | .inl _ :: _, xs, h => by cases h
  | .inr x :: ks, xs, h => by
    unfold keyStrs at h
    cases e : keyStrs ks with
    | none => rw [e] at h; cases h
    | some ys =>
      rw [e] at h
      cases h
      rw [keyStrs_eq e]
      rfl
theorem keyStrs_map (xs : List Str) : keyStrs (xs.map fun x => (Sum.inr x : Key)) = some xs := by
  induction xs with
  | nil => rfl
  | cons x xs ih =>
    show (keyStrs (xs.map fun x => (Sum.inr x : Key))).map (x :: ·) = _
    rw [ih]
    rfl
def oSortD : List D → (AV → Prop) → Prop := fun ds Q => oneQ (dKQ fun ks _ => someQ (fun xs => ∀ ys : List Str, ys.Perm xs → sortedS ys = true → Q (.ol (ys.map .str))) (keyStrs ks)) ds
theorem bu_sortD {K : PySem.W.Frag} : BuO K rSortD oSortD := fun U H vs ds Q q s r z k => by
  obtain ⟨d, rfl, z0⟩ := oneQ_of z
  obtain ⟨ks, es, rfl, z1⟩ := dKQ_of z0
  obtain ⟨xs, hx, z2⟩ := someQ_of z1
  obtain ⟨v, rfl, cd⟩ := paired1 r
  obtain ⟨p, us, rfl, h1, h2, h3⟩ := cd.dK s
  rw [keyStrs_eq hx] at h1 h2
  rw [List.length_map] at h2
  exact ⟨p, xs, us, rfl, h1, h2, fun ys p' hp hs np => own_new s np (rs_strs ys) (z2 ys hp hs) k⟩
theorem w_sortD {xs : List Str} {es : List D} {O : AV → Prop} (q : ∀ ys : List Str, ys.Perm xs → sortedS ys = true → O (.ol (ys.map .str))) : oSortD [.dK (xs.map fun x => (Sum.inr x : Key)) es] O := by
  show someQ _ (keyStrs _)
  rw [keyStrs_map]
  exact q
theorem bu_lenD {K : PySem.W.Frag} : BuD K (fun xs H Q => ∃ a kvs, xs = [V.ref a] ∧ H a = some (.dK kvs) ∧ Q (.int kvs.length) H) oLenD := fun U H vs ds Q q s r z k => by
  obtain ⟨d, rfl, z0⟩ := oneQ_of z
  obtain ⟨ks, es, rfl, z1⟩ := dKQ_of z0
  obtain ⟨v, rfl, cd⟩ := paired1 r
  obtain ⟨p, us, rfl, h1, h2, h3⟩ := cd.dK s
  refine ⟨p, _, rfl, h1, ?_⟩
  rw [List.length_zip, ← h2, Nat.min_self]
  exact k U H (.int _) _ (Gr.refl s) rfl z1
end
end SW
namespace SW
open PySem PySem.Spec PyProof.Rows L2 SWS
variable [QN]
abbrev AMT := Env → (Bool → Env → Prop) → (Exn → Env → Prop) → Prop
def SimMT (c : DC) (t : TT) (e : AMT) : Prop := ∀ (U H : Hp) (σ : L2.St) (ρ : Env) (Q : Bool → Env → Prop) (q : Bool → Hp → Prop), DI c U H σ ρ → e ρ Q (fun x ρ => c.x ρ x) →
  (∀ U' H' ρ' b, Gr (owns ρ σ) U H U' H' → DI c U' H' σ ρ' → OldNew H ρ ρ' σ → Q b ρ' → q b H') → t σ H q
section
variable {c : DC} {t u : TT} {ta tb te : TE} {m m1 : AM} {a b : AE} {e e1 e2 : AMT} {st su : TS} {sa sb : AS}
def mT (e : AT) : AMT := fun ρ Q X => e ρ (fun b => Q b ρ) (fun x => X x ρ)
theorem simM_T {e : AT} (h : SimT c t e) : SimMT c t (mT e) := fun U H σ ρ Q q I z k => h U H σ ρ _ _ I z fun U1 H1 b g1 I1 z1 => k U1 H1 ρ b (g1.weak drs_sub) I1 .refl z1
def mTest (m : AM) : AMT := fun ρ Q X => m ρ (fun d ρ1 => blQ (fun b => Q b ρ1) d) X
theorem simM_test (h : SimM c te m) : SimMT c (tTest te) (mTest m) := fun U H σ ρ Q q I z k => h U H σ ρ _ _ I z fun U1 H1 ρ1 d v g1 I1 o1 r1 z1 => by
  cases d with
  | bl b => exact ⟨b, r1, k U1 H1 ρ1 b g1 I1 o1 z1⟩
  | _ => exact z1.elim
def mNot (e : AMT) : AMT := fun ρ Q X => e ρ (fun b ρ1 => Q (!b) ρ1) X
def mOr (e1 e2 : AMT) : AMT := fun ρ Q X => e1 ρ (fun b ρ1 => cond b (Q true ρ1) (e2 ρ1 Q X)) X
theorem simM_or (h1 : SimMT c t e1) (h2 : SimMT c u e2) : SimMT c (tOr t u) (mOr e1 e2) := fun U H σ ρ Q q I z k => h1 U H σ ρ _ _ I z fun U1 H1 ρ1 b g1 I1 o1 z1 => by
  cases b with
  | true => exact k U1 H1 ρ1 true g1 I1 o1 z1
  | false => exact h2 U1 H1 σ ρ1 Q q I1 z1 fun U2 H2 ρ2 b2 g2 I2 o2 z2 => k U2 H2 ρ2 b2 (g1.comp g2 o1) I2 (o1.trans g1 o2) z2
def mAnd (e1 e2 : AMT) : AMT := fun ρ Q X => e1 ρ (fun b ρ1 => cond b (e2 ρ1 Q X) (Q false ρ1)) X
def mIf (e : AMT) (sa sb : AS) : AS := fun N ρ => e ρ (fun b ρ1 => cond b (sa N ρ1) (sb N ρ1)) N.ex
theorem simM_if (h : SimMT c t e) (ha : SimS c st sa) (hb : SimS c su sb) : SimS c (tIfS t st su) (mIf e sa sb) := fun U H σ ρ N n hx I z P => by
  unfold mIf at z
  rw [hx] at z
  refine h U H σ ρ _ _ I z fun U1 H1 ρ1 b g1 I1 o1 z1 => ?_
  cases b with
  | true => exact ha U1 H1 σ ρ1 N n hx I1 z1 (P.mono g1.vv)
  | false => exact hb U1 H1 σ ρ1 N n hx I1 z1 (P.mono g1.vv)
/-- an operator whose left side changes slots -/
def mOpL (f : D → D → (D → Prop) → Prop) (m : AM) (b : AE) : AM := fun ρ Q X => m ρ (fun d ρ1 => b ρ1 (fun e => f d e (fun y => Q y ρ1)) (fun x => X x ρ1)) X
theorem simM_opL {r : R2} {f : D → D → (D → Prop) → Prop} (h : OpD c.K r f) (ha : SimM c ta m) (hb : SimW c tb b) : SimM c (tOp r ta tb) (mOpL f m b) := fun U H σ ρ Q q I z k =>
  ha U H σ ρ _ _ I z fun U1 H1 ρ1 d v g1 I1 o1 r1 z1 => hb U1 H1 σ ρ1 _ _ I1 z1 fun U2 H2 e w g2 I2 w2 z2 =>
    h U2 H2 v w d e _ q I2.vh (.of (R.mono g2.vv d v r1)) (w2.cr I2) z2 fun U3 H3 y u g3 r3 z3 => k U3 H3 ρ1 y u ((g1.comp (g2.weak drs_sub) o1).trans g3.any) (I2.grow g3) o1 r3 z3
end
section
variable {ρ : Env} {Q : D → Env → Prop} {QT : Bool → Env → Prop} {O : AV → Env → Prop} {X : Exn → Env → Prop} {nx bk ct : Env → Prop} {rt : AV → Env → Prop} {ex : Exn → Env → Prop} {m : AM} {a b : AE} {e e1 e2 : AMT} {sa sb : AS} {C dx : Addr} {ns : List Str} {ws : List V} {as : List AV} {i : Nat} {A : AFM}
theorem m_ifM (q : e ρ (fun x ρ1 => cond x (sa ⟨nx, rt, bk, ct, ex⟩ ρ1) (sb ⟨nx, rt, bk, ct, ex⟩ ρ1)) ex) : mIf e sa sb ⟨nx, rt, bk, ct, ex⟩ ρ := q
theorem m_T {t : AT} (q : t ρ (fun x => QT x ρ) (fun x => X x ρ)) : mT t ρ QT X := q
theorem m_test (q : m ρ (fun d ρ1 => blQ (fun x => QT x ρ1) d) X) : mTest m ρ QT X := q
theorem m_not (q : e ρ (fun x ρ1 => QT (!x) ρ1) X) : mNot e ρ QT X := q
theorem m_or (q : e1 ρ (fun x ρ1 => cond x (QT true ρ1) (e2 ρ1 QT X)) X) : mOr e1 e2 ρ QT X := q
theorem m_and (q : e1 ρ (fun x ρ1 => cond x (e2 ρ1 QT X) (QT false ρ1)) X) : mAnd e1 e2 ρ QT X := q
theorem m_opL {f : D → D → (D → Prop) → Prop} (q : m ρ (fun d ρ1 => b ρ1 (fun y => f d y (fun z => Q z ρ1)) (fun x => X x ρ1)) X) : mOpL f m b ρ Q X := q
theorem m_lenOwn (h1 : ρ[i]? = some (some (.ob C dx ns ws as))) (q : callM A ρ (lenQ Q) (fun _ _ => False) [.slot i]) : mLenOwn C A i ρ Q X := w_obQ h1 q
theorem m_meD0 {mn : Str} {ns0 : List Int} {r : AL} (h1 : ρ[i]? = some (some (.ob C dx ns ws as))) (h2 : ns.contains mn = false) (q : r ρ (fun ds => callM A ρ O (fun _ _ => False) (.slot i :: (ds.map .val ++ ns0.map fun a => .val (.int a)))) (fun x => X x ρ)) : mMeD0 C mn A ns0 i r ρ O X := w_obQ h1 ⟨h2, q⟩
theorem w_tupE {XE : Exn → Prop} {QE : D → Prop} (q : a ρ (tupQ fun ds => QE (.tup ds)) XE) : aTupE a ρ QE XE := q
theorem w_lenD {ks : List Key} {ds : List D} {QE : D → Prop} (q : QE (.int ks.length)) : oLenD [.dK ks ds] QE := q
end
end SW
namespace SW
open PySem PySem.Spec PyProof.Rows L2 SWS
variable [QN]
open Sem (wp)
open AutoSeq1 (wpAny_loadPart')
section
variable {c : DC} {U H : Hp} {σ : L2.St} {ρ : Env}
def aEnumT (r : AL) : AL := fun ρ Q X => r ρ (oneQ (tupQ fun xs => Q (enumD xs))) X
def rngC (lo st : Int) (n : Nat) : List D := (List.range n).map fun i => .int (lo + (i : Nat) * st)
def threeQ (Q : D → D → D → Prop) : List D → Prop
  | [a, b, e] => Q a b e
  | _ => False
/-- range(i, j, k), n items -/
def aRng3 (r : AL) : AL := fun ρ Q X => r ρ (threeQ fun a b e => intQ (fun i => intQ (fun j => intQ (fun k => ∃ n : Nat, RgC i j k n ∧ Q (rngC i k n)) e) b) a) X
/-- an operator whose right side changes slots -/
def mOpRO (f : D → D → (AV → Prop) → Prop) (a : AE) (m : AM) : AMO := fun ρ Q X => a ρ (fun d => m ρ (fun e ρ1 => f d e (fun y => Q y ρ1)) X) (fun x => X x ρ)
end
section
variable {ρ : Env} {Q : D → Env → Prop} {L : List D → Prop} {O : AV → Env → Prop} {X : Exn → Env → Prop} {XE : Exn → Prop} {m : AM} {a : AE} {r : AL}
theorem w_enumT (q : r ρ (oneQ (tupQ fun xs => L (enumD xs))) XE) : aEnumT r ρ L XE := q
theorem w_rng3 (q : r ρ (threeQ fun a b e => intQ (fun i => intQ (fun j => intQ (fun k => ∃ n : Nat, RgC i j k n ∧ L (rngC i k n)) e) b) a) XE) : aRng3 r ρ L XE := q
theorem w_threeQ {P : D → D → D → Prop} {d1 d2 d3 : D} (q : P d1 d2 d3) : threeQ P [d1, d2, d3] := q
theorem w_fltB {QE : D → Prop} {x : Bool} (q : QE (.bl x)) : fltQ QE (.fz (.bl x)) := ⟨rfl, q⟩
theorem m_opRO {f : D → D → (AV → Prop) → Prop} (q : a ρ (fun d => m ρ (fun e ρ1 => f d e (fun y => O y ρ1)) X) (fun x => X x ρ)) : mOpRO f a m ρ O X := q
end
end SW
namespace SW
open PySem PySem.Spec PyProof.Rows L2
variable [QN]
def leD (d e : D) : Bool := PySem.W.dataLe false toPy d e
def leP {α : Type} (a b : α × D) : Bool := PySem.W.dataLe false (fun x : α × D => toPy x.2) a b
def alikeD (ds : List D) : Bool := ds.all fun d => ds.all fun e => PySem.W.alike (toPy d) (toPy e)
def tupNE : D → Bool
  | .tup (_ :: _) => true
  | _ => false
def noTup : D → Bool
  | .int _ => true
  | .bl _ => true
  | .str _ => true
  | .lst _ => true
  | _ => false
def sortableD (ds : List D) : Bool := ds.all tupNE || ds.all noTup
theorem alikeD_all {ds : List D} (h : alikeD ds = true) {α : Type} {l : List (α × D)} (hl : ∀ x ∈ l, x.2 ∈ ds) : PySem.W.AllAlike (l.map fun x => toPy x.2) := fun d hd e he => by
  obtain ⟨x, hx, rfl⟩ := List.mem_map.mp hd
  obtain ⟨y, hy, rfl⟩ := List.mem_map.mp he
  exact List.all_eq_true.mp (List.all_eq_true.mp h _ (hl x hx)) _ (hl y hy)
theorem sortable_all {ds : List D} (h : sortableD ds = true) {α : Type} {l : List (α × D)} (hl : ∀ x ∈ l, x.2 ∈ ds) : PySem.W.Sortable (l.map fun x => toPy x.2) := by
  rcases Bool.or_eq_true _ _ |>.mp h with h | h
  · refine .inl fun d hd => ?_
    obtain ⟨x, hx, rfl⟩ := List.mem_map.mp hd
    have := List.all_eq_true.mp h _ (hl x hx)
    unfold tupNE at this
    split at this
    · rename_i d r e
      rw [e]
      exact ⟨toPy d, toPys r, rfl⟩
    · cases this
  · refine .inr fun d hd => ?_
    obtain ⟨x, hx, rfl⟩ := List.mem_map.mp hd
    have := List.all_eq_true.mp h _ (hl x hx)
    unfold noTup at this
    split at this
    · rename_i e; rw [e]; exact ⟨(fun z => by cases z), (fun xs z => by cases z)⟩
    · rename_i e; rw [e]; exact ⟨(fun z => by cases z), (fun xs z => by cases z)⟩
    · rename_i e; rw [e]; exact ⟨(fun z => by cases z), (fun xs z => by cases z)⟩
    · rename_i e; rw [e]; exact ⟨(fun z => by cases z), (fun xs z => by cases z)⟩
    · cases this
theorem okDs_depth {n : Nat} : ∀ {ds : List D}, okDs n ds = true → ∀ d ∈ ds, (toPy d).depth ≤ n
  | d :: ds, h, e, he => by
    unfold okDs at h
    rw [Bool.and_eq_true] at h
    rcases List.mem_cons.mp he with rfl | he
    · exact (okD_lay n _ h.1).2
    · exact okDs_depth h.2 e he
theorem dps_each {X : Cx} {pins : List (Addr × Obj)} {σ : L2.St} {H : Hp} {s : Shared} (I : Inv X pins σ H s) : ∀ {xs : List V} {ds : List D} {us : List Value}, DpAll X.K H xs (toPys ds) → Vals xs us → PySem.W.EachIs (fun (v : Value) (b : V × D) => ∃ as, Reads s.heap v (toPy b.2) as) us (xs.zip ds)
  | [], [], _, _, .nil => .nil
  | [], d :: ds, _, h, _ => by cases h
  | x :: xs, [], _, h, _ => by cases h
  | x :: xs, d :: ds, _, .cons h t, .cons r q => .cons (Dp.reads I _ _ _ h r) (dps_each I t q)
theorem rel_each : ∀ {xs : List V} {ds : List D} {us : List Value}, xs.length = ds.length → Vals xs us → PySem.W.EachIs (fun (v : Value) (b : V × D) => RelV b.1 v) us (xs.zip ds)
  | [], [], _, _, .nil => .nil
  | [], d :: ds, _, h, _ => by cases h
  | x :: xs, [], _, h, _ => by cases h
  | x :: xs, d :: ds, _, h, .cons r q => .cons r (rel_each (Nat.succ.inj h) q)
theorem each_vals : ∀ {l : List (V × D)} {us : List Value}, PySem.W.EachIs (fun (v : Value) (b : V × D) => RelV b.1 v) us l → Vals (l.map (·.1)) us
  | _, _, .nil => .nil
  | _, _, .cons h t => .cons h (each_vals t)
def rSortA (K : PySem.W.Frag) : List V → Hp → VK → Prop := fun vs H Q => ∃ (a : Addr) (xs : List V) (ds : List D), vs = [V.ref a] ∧ SqL K H a xs ∧ DpAll K H xs (toPys ds) ∧ xs.length = ds.length ∧ okDs 8 ds = true ∧ alikeD ds = true ∧ sortableD ds = true ∧
  ∀ p, H p = none → Q (.ref p) (upd H p (.lst (((xs.zip ds).mergeSort leP).map (·.1))))
theorem cr_sortA {X : Cx} {K : PySem.W.Frag} (hK : X.K = K) (hu : X.A.units + 65 < cLine) : CallR X (.builtin "sorted") (rSortA K) := by
  subst hK
  intro pins s σ H vs us Q I r h
  obtain ⟨a, xs, ds, rfl, hs, hd, hl, ok, al, so, q⟩ := h
  rw [Vals.ref1 r]
  obtain ⟨its, rv, hL, hz⟩ := I.list hs
  have mem2 : ∀ x ∈ xs.zip ds, x.2 ∈ ds := fun x hx => (List.of_mem_zip hx).2
  have lz : (xs.zip ds).length = xs.length := by rw [List.length_zip, hl, Nat.min_self]
  refine PySem.W.sorted_data (enc := fun x : V × D => toPy x.2) (R := fun v b => RelV b.1 v) (bs := xs.zip ds) hL.isList (rel_each hl rv) (dps_each I hd rv) (alikeD_all al mem2) (sortable_all so mem2) (by rw [lz]; exact hz) (fun b hb => ?_) fun out lo eo => ?_
  · have := okDs_depth ok b.2 (mem2 b hb)
    omega
  · obtain ⟨ep, he'⟩ := PyProof.Rows.sortedAll_at s.heap its (List.toArray out)
    have ev := each_vals eo
    have hlen : (((xs.zip ds).mergeSort leP).map (·.1)).length ≤ sizeLine := by
      rw [List.length_map, List.length_mergeSort, lz]
      exact hz
    exact ⟨.ref _, upd H (s.heap.objs.size + 1) (.lst (((xs.zip ds).mergeSort leP).map (·.1))), I.laid (t' := s.toks) (fun _ _ => PyProof.Rows.sortedAll_old) (Nat.le_succ _) ⟨hlen, out, ep, ev, he'⟩, rfl, q _ (I.hok.fresh (Nat.le_succ _))⟩
theorem zip_snd {α : Type} : ∀ {xs : List α} {ds : List D}, xs.length = ds.length → (xs.zip ds).map (·.2) = ds
  | [], [], _ => rfl
  | [], d :: ds, h => by cases h
  | x :: xs, [], h => by cases h
  | x :: xs, d :: ds, h => by rw [List.zip_cons_cons, List.map_cons, zip_snd (Nat.succ.inj h)]
theorem sort_snd {xs : List V} {ds : List D} (h : xs.length = ds.length) : ((xs.zip ds).mergeSort leP).map (·.2) = ds.mergeSort leD := by
  rw [PySem.W.sort_maps (r := leP) (s := leD) (fun x : V × D => x.2) (fun a _ b _ => rfl), zip_snd h]
theorem rs_zip {K : PySem.W.Frag} {U : Hp} : ∀ {l : List (V × D)}, (∀ x ∈ l, R K U x.2 x.1) → Rs K U (l.map (·.2)) (l.map (·.1))
  | [], _ => rfl
  | x :: l, h => ⟨x.1, l.map (·.1), rfl, h x List.mem_cons_self, rs_zip fun y hy => h y (List.mem_cons_of_mem _ hy)⟩
theorem rs_mem {K : PySem.W.Frag} {U : Hp} : ∀ {ds : List D} {xs : List V}, Rs K U ds xs → ∀ x ∈ xs.zip ds, R K U x.2 x.1
  | [], _, h, x, hx => by rw [show _ = [] from h] at hx; cases hx
  | d :: ds, _, ⟨v, r, e, h1, h2⟩, x, hx => by
    subst e
    rcases List.mem_cons.mp hx with rfl | hx
    · exact h1
    · exact rs_mem h2 x hx
theorem rs_sort {K : PySem.W.Frag} {U : Hp} {ds : List D} {xs : List V} (h : Rs K U ds xs) : Rs K U (ds.mergeSort leD) (((xs.zip ds).mergeSort leP).map (·.1)) := by
  rw [← sort_snd h.len.symm]
  exact rs_zip fun x hx => rs_mem h x (List.mem_mergeSort.mp hx)
def oSortA : List D → (AV → Prop) → Prop := fun ds Q => oneQ (lstQ fun xs => okDs 8 xs = true ∧ alikeD xs = true ∧ sortableD xs = true ∧ Q (.ol (xs.mergeSort leD))) ds
theorem bu_sortA {K : PySem.W.Frag} : BuO K (rSortA K) oSortA := fun U H vs ds Q q s r z k => by
  obtain ⟨e, rfl, z⟩ := oneQ_of z
  obtain ⟨xs, rfl, h1, h2, h3, z⟩ := lstQ_of z
  obtain ⟨w, rfl, ce⟩ := paired1 r
  obtain ⟨a, ys, rfl, hs, hr⟩ := ce.lst s
  refine ⟨a, ys, xs, rfl, SqL.of hs, okDs_dp s 8 xs ys h1 hr, hr.len.symm, h1, h2, h3, fun p np => ?_⟩
  exact own_new s np (rs_sort hr) z k
theorem w_sortA {xs : List D} {O : AV → Prop} (h1 : okDs 8 xs = true) (h2 : alikeD xs = true) (h3 : sortableD xs = true) (q : O (.ol (xs.mergeSort leD))) : oSortA [.lst xs] O := ⟨h1, h2, h3, q⟩
end SW
namespace SW
open PySem PySem.Spec PyProof.Rows L2
variable [QN]
section
variable {X : Cx} {pins : List (Addr × Obj)} {σ : L2.St} {H : Hp} {s : Shared}
/-- tables grow, all else stands -/
structure Grown (H H' : Hp) : Prop where
  keep : ∀ b o, H b = some o → (∀ ps, o ≠ .tbl ps) → H' b = some o
  tab : ∀ P, LamX.TabS H P (QN.qn P) → LamX.TabS H' P (QN.qn P)
  dom : ∀ b, H b ≠ none → H' b ≠ none
theorem Grown.refl (H : Hp) : Grown H H := ⟨fun _ _ h _ => h, fun _ h => h, fun _ h => h⟩
end
/-- the keys of the items -/
def KeyAt (H : Hp) (C : Addr) (f : Str) (x : V) (k : Str) : Prop := ∃ p dx fs, x = .ref p ∧ H p = some (.ins C dx fs) ∧ fs.lookup f = some (.str k)
theorem KeyAt.grown {H H' : Hp} {C : Addr} {f : Str} {x : V} {k : Str} (g : Grown H H') (h : KeyAt H C f x k) : KeyAt H' C f x k := by
  obtain ⟨p, dx, fs, e1, e2, e3⟩ := h
  exact ⟨p, dx, fs, e1, g.keep _ _ e2 (ntb rfl), e3⟩
theorem SqL.grown {K : PySem.W.Frag} {H H' : Hp} {a : Addr} {xs : List V} (g : Grown H H') (h : SqL K H a xs) : SqL K H' a xs := by
  rcases h with (h | ⟨o, h⟩) | h
  · exact .inl (.inl (g.keep _ _ h (ntb rfl)))
  · exact .inl (.inr ⟨o, g.keep _ _ h (ntb rfl)⟩)
  · exact .inr h
def leK {α : Type} (a b : α × Str) : Bool := PySem.W.dataLe false (fun x : α × Str => PyData.str x.2) a b
end SW
namespace SWS
open PySem PySem.Spec PyProof.Rows L2
/-- every st-th item -/
def pickS {α : Type} (xs : List α) (lo hi : Option Int) (st : Int) : List α :=
  (List.range (Builtin.Slice.slicePlaces (Builtin.Slice.sliceAdjust lo hi st (xs.length : Nat)).1 (Builtin.Slice.sliceAdjust lo hi st (xs.length : Nat)).2 st)).filterMap fun k : Nat => xs[((Builtin.Slice.sliceAdjust lo hi st (xs.length : Nat)).1 + (k : Int) * st).toNat]?
end SWS
namespace SW
open PySem PySem.Spec PyProof.Rows L2 SWS
variable [QN]
section
variable {c : DC} {te : TE} {e : AE} {tl th : TO} {l h : AP}
def aSlT (st : Int) (a : AE) (lo hi : AP) : AE := fun ρ Q X => a ρ (tupQ fun ds => lo ρ (fun l => hi ρ (fun h => (pickS ds l h st).length ≤ 1000000 ∧ Q (.tup (pickS ds l h st))) X) X) X
def keyOf1 (C : Addr) (f : Str) : D → Option Str
  | .obj C' ns ds => if C' = C then (match lookD f ns ds with | some (.str k) => some k | _ => none) else none
  | _ => none
def keysOf (C : Addr) (f : Str) : List D → Option (List Str)
  | [] => some []
  | d :: ds => match keyOf1 C f d, keysOf C f ds with
    | some k, some ks => some (k :: ks)
    | _, _ => none
def sortK {α : Type} (ds : List α) (ks : List Str) : List α := ((ds.zip ks).mergeSort leK).map (·.1)
def aSortK (C : Addr) (f : Str) (a : AE) : AO := fun ρ Q X => a ρ (lstQ fun ds => someQ (fun ks => Q (.ol (sortK ds ks))) (keysOf C f ds)) X
theorem w_stT {ρ : Env} {Q : D → Prop} {X : Exn → Prop} {st : Int} (q : e ρ (tupQ fun ds => l ρ (fun lo => h ρ (fun hi => (pickS ds lo hi st).length ≤ 1000000 ∧ Q (.tup (pickS ds lo hi st))) X) X) X) : aSlT st e l h ρ Q X := q
theorem w_sortK {ρ : Env} {Q : AV → Prop} {X : Exn → Prop} {C : Addr} {f : Str} (q : e ρ (lstQ fun ds => someQ (fun ks => Q (.ol (sortK ds ks))) (keysOf C f ds)) X) : aSortK C f e ρ Q X := q
end
end SW
namespace SWS
open PySem PySem.Spec PyProof.Rows L2
end SWS
namespace SW
open PySem PySem.Spec PyProof.Rows L2 SWS
variable [QN]
/-- a clause: its texts, its readings, the slots of its names and of those behind it -/
structure Cl where
  tg : Expr
  iter : Expr
  fs : List Expr
  wi : TI
  g : TG
  tt : TT
  vs : List Nat
def Cl.gen (c : Cl) : Comprehension := ⟨c.tg, c.iter, c.fs, 0⟩
def hvs : List Cl → List Nat
  | [] => []
  | c :: _ => c.vs
end SW
namespace SW
open PySem PySem.Spec PyProof.Rows L2 SWS
variable [QN]
structure CA where
  it : AL
  g : AG
  tt : AT
  vs : List Nat
def aWk (f : D → List D → (List D → Prop) → Prop) : List D → List D → (List D → Prop) → Prop
  | [], acc, K => K acc
  | d :: ds, acc, K => f d acc fun acc' => aWk f ds acc' K
def aCl (e : AE) : List CA → Env → (Exn → Prop) → List D → (List D → Prop) → Prop
  | [], ρ, X, acc, K => e ρ (fun d => acc.length < 1000000 ∧ K (acc ++ [d])) X
  | a :: r, ρ, X, acc, K => a.it ρ (fun ds => aWk (fun d acc K => a.g d (wipeA ρ a.vs) fun ρ2 => a.tt ρ2 (fun b => cond b (aCl e r ρ2 X acc K) (K acc)) X) ds acc K) X
def aLcN (cs : List CA) (e : AE) : AO := fun ρ Q X => aCl e cs ρ X [] fun acc => Q (.ol acc)
section
variable {c : DC} {U H U' H' : Hp} {σ : L2.St} {ρ : Env} {te : TE} {e : AE}
theorem w_lcN {O : AV → Prop} {X : Exn → Prop} {cs : List CA} (q : aCl e cs ρ X [] fun acc => O (.ol acc)) : aLcN cs e ρ O X := q
end
end SW
namespace SW
open PySem PySem.Spec PyProof.Rows L2 SWS
variable [QN]
section
variable {c : DC} {U H U' H' : Hp} {σ : L2.St} {ρ : Env} {tr tk : TA} {r rk : AL}
def aCallN (n m : Nat) (A : AF) (arr : List KA) (r rk : AL) : AO := fun ρ Q X => r ρ (fun ds => rk ρ (fun es => ds.length = n ∧ es.length = m ∧ arr.all (kaOk m) = true ∧ A ((ds ++ arr.map (kaD es)).map .fz) Q X) X) X
def aCallN0 (n m : Nat) (A : AF) (arr : List KA) (r rk : AL) : AO := fun ρ Q X => r ρ (fun ds => rk ρ (fun es => ds.length = n ∧ es.length = m ∧ arr.all (kaOk m) = true ∧ A ((ds ++ arr.map (kaD es)).map .fz) Q fun _ => False) X) X
/-- the keywords left out: the defaults' values behind -/
def aCallD (A : AF) (dd : List D) (r : AL) : AO := fun ρ Q X => r ρ (fun ds => A ((ds ++ dd).map .fz) Q X) X
def aCallD0 (A : AF) (dd : List D) (r : AL) : AO := fun ρ Q X => r ρ (fun ds => A ((ds ++ dd).map .fz) Q fun _ => False) X
variable {O : AV → Prop} {XE : Exn → Prop} {A : AF} {n m : Nat} {arr : List KA} {dd : List D}
theorem w_callN0 (q : r ρ (fun ds => rk ρ (fun es => ds.length = n ∧ es.length = m ∧ arr.all (kaOk m) = true ∧ A ((ds ++ arr.map (kaD es)).map .fz) O fun _ => False) XE) XE) : aCallN0 n m A arr r rk ρ O XE := q
theorem w_callN (q : r ρ (fun ds => rk ρ (fun es => ds.length = n ∧ es.length = m ∧ arr.all (kaOk m) = true ∧ A ((ds ++ arr.map (kaD es)).map .fz) O XE) XE) XE) : aCallN n m A arr r rk ρ O XE := q
theorem w_callD0 (q : r ρ (fun ds => A ((ds ++ dd).map .fz) O fun _ => False) XE) : aCallD0 A dd r ρ O XE := q
theorem w_callD (q : r ρ (fun ds => A ((ds ++ dd).map .fz) O XE) XE) : aCallD A dd r ρ O XE := q
end
end SW
namespace SW
open PySem PySem.Spec PyProof.Rows L2 LamX
def qnc (s : Str) : QN := ⟨fun _ => s⟩
end SW
namespace SW
open PySem PySem.Spec PyProof.Rows L2 SWS
variable [QN]
inductive KB where
  | kw (i : Nat) | df (d : D) (v : V)
def kbD (es : List D) : KB → D
  | .kw i => es.getD i .non
  | .df d _ => d
def kbOk (m : Nat) : KB → Bool
  | .kw i => decide (i < m)
  | .df _ _ => true
section
variable {c : DC} {U H U' H' : Hp} {σ : L2.St} {ρ : Env} {tr tk : TA} {r rk : AL}
def aCallV (n m : Nat) (A : AF) (arr : List KB) (r rk : AL) : AO := fun ρ Q X => r ρ (fun ds => rk ρ (fun es => ds.length = n ∧ es.length = m ∧ arr.all (kbOk m) = true ∧ A ((ds ++ arr.map (kbD es)).map .fz) Q X) X) X
def aCallV0 (n m : Nat) (A : AF) (arr : List KB) (r rk : AL) : AO := fun ρ Q X => r ρ (fun ds => rk ρ (fun es => ds.length = n ∧ es.length = m ∧ arr.all (kbOk m) = true ∧ A ((ds ++ arr.map (kbD es)).map .fz) Q fun _ => False) X) X
variable {O : AV → Prop} {XE : Exn → Prop} {A : AF} {n m : Nat} {arr : List KB}
theorem w_callV0 (q : r ρ (fun ds => rk ρ (fun es => ds.length = n ∧ es.length = m ∧ arr.all (kbOk m) = true ∧ A ((ds ++ arr.map (kbD es)).map .fz) O fun _ => False) XE) XE) : aCallV0 n m A arr r rk ρ O XE := q
theorem w_callV (q : r ρ (fun ds => rk ρ (fun es => ds.length = n ∧ es.length = m ∧ arr.all (kbOk m) = true ∧ A ((ds ++ arr.map (kbD es)).map .fz) O XE) XE) XE) : aCallV n m A arr r rk ρ O XE := q
end
end SW
namespace SW
open PySem PySem.Spec PyProof.Rows L2 SWS
variable [QN]
abbrev Hnd := Value × Option Nat × (Addr → Value → Option Addr → TS)
def endsI : Option Nat → L2.Ends → L2.Ends
  | none, D => D
  | some i, D => { nx := fun s1 h1 => D.nx (s1.set i none) h1, rt := D.rt, bk := fun s1 h1 => D.bk (s1.set i none) h1, ct := fun s1 h1 => D.ct (s1.set i none) h1 }
def setI : Option Nat → Addr → L2.St → L2.St
  | none, _, s1 => s1
  | some i, a, s1 => s1.set i (some (.ref a))
def wHs (K : PySem.W.Frag) (Wo : WX) (D : L2.Ends) : List Hnd → WX
  | [] => Wo
  | h :: r => fun cls d s1 h1 => ∃ b, PySem.W.exmOne K cls h.1 = some b ∧ (b = true → ∀ a, h1 a = none → h.2.2 a cls d (endsI h.2.1 D) (setI h.2.1 a s1) h1) ∧ (b = false → wHs K Wo D r cls d s1 h1)
inductive HndsOk (X : Cx) : List ExceptHandler → List Hnd → Prop
  | nil : HndsOk X [] []
  | only {x : Str} {c : Value} {ts : Addr → Value → Option Addr → TS} {b0 : Stmt} {su : List Stmt} {np p1 : Pos} {hs : List ExceptHandler} {l : List Hnd} (hc : Names X x c)
      (run : ∀ (a : Addr) (oe : Obj) (cls : Value) (d : Option Addr) (pn : List (Addr × Obj)), Zc cls d oe → (∃ vs, oe.data = .fields vs) → PSs (X.suite a ((a, oe) :: pn)) (b0 :: su) (ts a cls d)) (rest : HndsOk X hs l) :
      HndsOk X (.ExceptHandler (some (.Name x np)) none (b0 :: su) p1 :: hs) ((c, none, ts) :: l)
  | named {x n : Str} {c : Value} {i : Nat} {ts : Addr → Value → Option Addr → TS} {b0 : Stmt} {su : List Stmt} {np p1 : Pos} {hs : List ExceptHandler} {l : List Hnd} (hc : Names X x c) (hi : X.N[i]? = some n) (hln : X.env.kindOf n = some .local)
      (run : ∀ (a : Addr) (oe : Obj) (cls : Value) (d : Option Addr) (pn : List (Addr × Obj)), Zc cls d oe → (∃ vs, oe.data = .fields vs) → PSs (X.suite a ((a, oe) :: pn)) (b0 :: su) (ts a cls d)) (rest : HndsOk X hs l) :
      HndsOk X (.ExceptHandler (some (.Name x np)) (some n) (b0 :: su) p1 :: hs) ((c, some i, ts) :: l)
section
variable {X : Cx} {body : List Stmt} {hd0 : ExceptHandler} {hds : List ExceptHandler} {l : List Hnd} {pos : Pos} {tb : WX → TS} {Wo : WX}
/-- a try as it is read: told by name, so that what stands in it is found again -/
def tTryHs (K : PySem.W.Frag) (tb : WX → TS) (Wo : WX) (l : List Hnd) : TS := fun D s1 h1 => tb (wHs K Wo D l) D s1 h1
theorem ps_try_hs (stk : X.stack = X.env :: X.outer) (fr : X.env.frame = some X.env.locals) (nd : X.N.Nodup) (out : Takes X Wo)
    (hb : ∀ (W : WX) (pn : List (Addr × Obj)) (xe : Value → Shared → Prop), Takes (X.tr pn xe) W → PassesOwn (model X.prog X.w) X.A X.env xe → PSs (X.tr pn xe) body (tb W))
    (hh : HndsOk X (hd0 :: hds) l) : PS X (.Try body (hd0 :: hds) [] [] pos) (tTryHs X.K tb Wo l) := by
  constructor
  intro pp s σ0 G0 D I given
  have okx := I.ok
  have frames : X.A.frames = some (X.env :: X.outer) := by rw [okx.frames, stk]
  apply wpAny_Try_except
  have run := hb (wHs X.K Wo D l) (X.pn ++ pp) (fun e t1 => wpAny (model X.prog X.w) X.A (noteFrame e X.env) (fun _ t2 => wpAny (model X.prog X.w) X.A (setFlight e none) (fun _ t3 =>
    wpAny (model X.prog X.w) X.A (handleBy e X.env (hd0 :: hds)) (SP X pp D) X.xe t3) X.xe t2) X.xe t1) (fun u t0 air => ?_) PassesOwn.looking
  · refine wpAny_mono (run.run [] s σ0 G0 D (I.toTry _) given) (fun fl t1 done => ?_) (fun _ _ z => z)
    cases fl with
    | next =>
      obtain ⟨sl, G, J, z⟩ := done
      exact wpAny_execs_nil ⟨sl, G, J.ofTry okx, z⟩
    | brk =>
      obtain ⟨sl, G, J, z⟩ := done
      exact ⟨sl, G, J.ofTry okx, z⟩
    | cont =>
      obtain ⟨sl, G, J, z⟩ := done
      exact ⟨sl, G, J.ofTry okx, z⟩
    | ret u =>
      obtain ⟨v, sl, G, J, rv, z⟩ := done
      exact ⟨v, sl, G, J.ofTry okx, rv, z⟩
  · obtain ⟨a, gr, si, pq, sl, G, cls, d, rfl, Jt, nb, up, sky, na, os, ag, wish⟩ := air
    have J : Inv X pp sl G si := Jt.ofTry okx
    have skyX : Sky gr (X.env :: X.outer) a (Zc cls d) X.env.locals t0.heap := by rw [← stk]; exact sky
    show wpAny (model X.prog X.w) X.A (noteFrame (.ref a) X.env) _ _ _
    refine Sky.land Zc.steady frames fr skyX fun g3 land3 u3 => ?_
    have J3 : Inv X pp sl G { t0 with heap := g3 } := J.landed nb land3.1 (up.trans u3) os ag
    obtain ⟨oe3, vs3, at3, zc3, dat3⟩ := land3.there
    have far : a ∉ frs (X.env :: X.outer) := fun hm => by
      obtain ⟨_, o1, e1, hnf⟩ := (land3.2.2.1).mem hm
      rw [at3] at e1
      cases e1
      exact hnf _ dat3
    have nL : a ≠ X.env.locals := fun z => far (List.mem_filterMap.mpr ⟨X.env, List.mem_cons_self, by rw [fr, z]⟩)
    have nF : a ∉ X.fs := fun hm => by
      obtain ⟨e, he, q⟩ := List.mem_filterMap.mp hm
      exact far (List.mem_filterMap.mpr ⟨e, List.mem_cons_of_mem _ he, q⟩)
    have S3 := J3.suite at3 dat3 na nL nF
    have go : ∀ {hs1 : List ExceptHandler} {l1 : List Hnd}, HndsOk X hs1 l1 → wHs X.K Wo D l1 cls d sl G → wpAny (model X.prog X.w) X.A (handleBy (.ref a) X.env hs1) (SP X pp D) X.xe { t0 with heap := g3 } := by
      intro hs1 l1 ok1
      -- the class that is named
      have named : ∀ {x : Str} {np : Pos} {c : Value} {Q E : Value → Shared → Prop}, Names X x c → Q c { t0 with heap := g3 } → wpAny (model X.prog X.w) (X.A.mark (some (.ref a))) (eval (.Name x np) X.env) Q E { t0 with heap := g3 } := fun {x np c Q E} nm q => by
        obtain ⟨hg, hdb, h | ⟨h, hv, hne⟩⟩ := nm
        · exact ld_glob (X := X.suite a ((a, oe3) :: (X.pn ++ pp))) S3 hg h q hdb
        · exact ld_blt (X := X.suite a ((a, oe3) :: (X.pn ++ pp))) S3 hg h hv q hne hdb
      have looks : PySem.W.Looks (model X.prog X.w) g3 (typeOf (.ref a)) cls := fun A Q E s0 k q => wpAny_typeOf_ref (k _ _ at3) (by rw [zc3.1]; exact q)
      induction ok1 with
      | nil =>
        intro w
        apply wpAny_handleBy_nil
        obtain ⟨_, _, _, oe, vs, T, _, _, he, _, hd, hT, _⟩ := id land3
        unfold PySem.passOn
        apply wpAny_bind
        apply wpAny_field he hd hT
        rw [if_neg (show ¬ (Value.ref T == Value.none) = true by simp)]
        have away : wpAny (model X.prog X.w) X.A (setFlight (.ref a) X.env.frame) (fun _ t4 => wpAny (model X.prog X.w) X.A (throw (.ref a) : Sem Flow) (SP X pp D) X.xe t4) X.xe { t0 with heap := g3 } := by
          rw [fr]
          refine HandSPX.setFlight_upZ land3 fun g4 held u4 => wpAny_throw (out _ _ ?_)
          exact ⟨a, gr, si, pp, sl, G, cls, d, rfl, J, nb, (up.trans u3).trans u4, .inr (.inr (by rw [stk]; exact held)), na, os, ag, w⟩
        first
          | exact wpAny_bind (wpAny_pure (wpAny_bind away))
          | exact wpAny_bind away
      | @only x c ts b0 su np p1 hs2 l2 nm run2 rest ih =>
        rintro ⟨b, isB, yes, no⟩
        refine wpAny_handleBy_cons (codeAny_handlers_test ?_) (by intro q; cases q)
        refine named nm ((PySem.W.exm_one (M := model X.prog X.w) J3.kIn looks isB).here ?_)
        cases b with
        | false => exact ih (no rfl)
        | true =>
          apply codeAny_handlers_suite
          refine HandSPX.lands_againZ land3 fun g4 land4 u4 => ?_
          have J4 : Inv X pp sl G { t0 with heap := g4 } := J.landed nb land4.1 ((up.trans u3).trans u4) os ag
          obtain ⟨oe4, vs4, at4, zc4, dat4⟩ := land4.there
          have S4 := J4.suite at4 dat4 na nL nF
          refine wpAny_mono ((run2 a oe4 cls d (X.pn ++ pp) zc4 ⟨_, dat4⟩).run [] _ _ G _ S4 (yes rfl a na)) (fun fl s6 done => ?_) (fun _ _ z => z.elim)
          cases fl with
          | next => obtain ⟨s7, G7, S7, z⟩ := done; exact ⟨_, _, S7.unsuite okx, z⟩
          | brk => obtain ⟨s7, G7, S7, z⟩ := done; exact ⟨_, _, S7.unsuite okx, z⟩
          | cont => obtain ⟨s7, G7, S7, z⟩ := done; exact ⟨_, _, S7.unsuite okx, z⟩
          | ret u => obtain ⟨v7, s7, G7, S7, rv, z⟩ := done; exact ⟨_, _, _, S7.unsuite okx, rv, z⟩
      | @named x n c i ts b0 su np p1 hs2 l2 nm hi hln run2 rest ih =>
        rintro ⟨b, isB, yes, no⟩
        refine wpAny_handleBy_cons (codeAny_handlers_test ?_) (by intro q; cases q)
        refine named nm ((PySem.W.exm_one (M := model X.prog X.w) J3.kIn looks isB).here ?_)
        cases b with
        | false => exact ih (no rfl)
        | true =>
          apply codeAny_handlers_suite_as
          refine HandSPX.lands_againZ land3 fun g4 land4 u4 => ?_
          have J4 : Inv X pp sl G { t0 with heap := g4 } := J.landed nb land4.1 ((up.trans u3).trans u4) os ag
          obtain ⟨oe4, vs4, at4, zc4, dat4⟩ := land4.there
          have S4 := J4.suite at4 dat4 na nL nF
          refine store_ok (X := X.suite a ((a, oe4) :: (X.pn ++ pp))) (v := .ref a) S4 nd hi (.inl hln) rfl (fun s5 S5 => ?_) (.inr hln)
          have gone : ∀ {s7 : L2.St} {G7 : Hp} {s6 : Shared} {Q : Shared → Prop}, Inv (X.suite a ((a, oe4) :: (X.pn ++ pp))) [] s7 G7 s6 → (∀ s8, Inv X pp (s7.set i none) G7 s8 → Q s8) →
              wpAny (model X.prog X.w) X.A (do bindName X.env n .none; unbindBehindTheSuite X.env n p1) (fun _ s8 => Q s8) X.xe s6 := fun S7 q => gone_ok (S7.unsuite okx) nd hi hln q
          refine wpAny_mono ((run2 a oe4 cls d (X.pn ++ pp) zc4 ⟨_, dat4⟩).run [] s5 _ G _ S5 (yes rfl a na)) (fun fl s6 done => ?_) (fun _ _ z => z.elim)
          cases fl with
          | next => obtain ⟨s7, G7, S7, z⟩ := done; exact gone S7 fun s8 J8 => ⟨_, _, J8, z⟩
          | brk => obtain ⟨s7, G7, S7, z⟩ := done; exact gone S7 fun s8 J8 => ⟨_, _, J8, z⟩
          | cont => obtain ⟨s7, G7, S7, z⟩ := done; exact gone S7 fun s8 J8 => ⟨_, _, J8, z⟩
          | ret u => obtain ⟨v7, s7, G7, S7, rv, z⟩ := done; exact gone S7 fun s8 J8 => ⟨_, _, _, J8, rv, z⟩
    exact go hh wish
end
structure AHnd where
  C : Addr
  i : Option Nat
  suite : Addr → Addr → Option Addr → AS
/-- the marked slots stand as they are, of the others nothing is known -/
def fillM : List Bool → List (Option AV) → Nat → Env
  | _, _, 0 => []
  | [], _, n + 1 => none :: fillM [] [] n
  | true :: ks, a :: as, n + 1 => a :: fillM ks as n
  | true :: ks, [], n + 1 => none :: fillM ks [] n
  | false :: ks, as, n + 1 => none :: fillM ks as n
def setE (i : Option Nat) (a : AV) (ρ : Env) : Env := match i with
  | none => ρ
  | some i => ρ.set i (some a)
def goneE (i : Option Nat) (ρ : Env) : Env := match i with
  | none => ρ
  | some i => ρ.set i none
def endsE (i : Option Nat) (N : AEnds) : AEnds := ⟨fun ρ => N.nx (goneE i ρ), N.rt, fun ρ => N.bk (goneE i ρ), fun ρ => N.ct (goneE i ρ), fun _ _ => False⟩
def handleA (K : PySem.W.Frag) (z : Bool) (N : AEnds) (x : Exn) (ρ : Env) : List AHnd → Prop
  | [] => if z = true then N.ex x ρ else False
  | h :: r => ∃ b, PySem.W.exmOne K (.ref x.C) (.ref h.C) = some b ∧ (b = true → ∀ a o, h.suite a x.C o (endsE h.i N) (setE h.i (.fz (.exn a x.C o x.ns x.ds)) ρ)) ∧ (b = false → handleA K z N x ρ r)
def allSome : List (Option AV) → Bool
  | [] => true
  | some _ :: r => allSome r
  | none :: _ => false
def flat1 : Option AV → Bool
  | none => true
  | some (.fz _) => true
  | some _ => false
/-- what is one's own is marked -/
def flatM : List Bool → Env → Bool
  | _, [] => true
  | [], a :: ρ => flat1 a && flatM [] ρ
  | true :: ks, _ :: ρ => flatM ks ρ
  | false :: ks, a :: ρ => flat1 a && flatM ks ρ
def aTry (K : PySem.W.Frag) (z : Bool) (mask : List Bool) (hs : List AHnd) (body : AS) : AS := fun N ρ => allSome (selM mask ρ) = true ∧ flatM mask ρ = true ∧
  body ⟨N.nx, N.rt, N.bk, N.ct, fun x ρ' => handleA K z N x (fillM mask (selM mask ρ') ρ.length) hs⟩ ρ
theorem sel_inv {α : Type} : ∀ (ks : List Bool) (r r' : List α), r'.length = r.length → selM ks r' = selM ks r → ∀ k, ks.getD k false = true → r'[k]? = r[k]?
  | [], _, _, _, _, k, h => by cases h
  | _ :: _, [], [], _, _, _, _ => rfl
  | _ :: _, [], _ :: _, l, _, _, _ => by cases l
  | _ :: _, _ :: _, [], l, _, _, _ => by cases l
  | true :: ks, a :: r, b :: r', l, e, k, h => by
    obtain ⟨e1, e2⟩ := List.cons.inj (show b :: selM ks r' = a :: selM ks r from e)
    cases k with
    | zero => exact congrArg some e1
    | succ k => exact sel_inv ks r r' (Nat.succ.inj l) e2 k h
  | false :: ks, a :: r, b :: r', l, e, k, h => by
    cases k with
    | zero => cases h
    | succ k => exact sel_inv ks r r' (Nat.succ.inj l) e k h
theorem sel_mapA {α β : Type} (f : α → β) : ∀ (ks : List Bool) (r : List α), selM ks (r.map f) = (selM ks r).map f
  | [], r => by cases r <;> rfl
  | k :: ks, [] => by cases k <;> rfl
  | true :: ks, a :: r => congrArg (f a :: ·) (sel_mapA f ks r)
  | false :: ks, a :: r => sel_mapA f ks r
theorem allSome_map : ∀ {l : List (Option AV)}, allSome l = true → ∃ xs : List AV, l = xs.map some
  | [], _ => ⟨[], rfl⟩
  | some a :: l, h => by
    obtain ⟨xs, e⟩ := allSome_map (l := l) h
    exact ⟨a :: xs, by rw [e]; rfl⟩
  | none :: l, h => by cases h
theorem map_somes {α β : Type} {g : α → β} : ∀ {l : List (Option α)} {ns : List β}, l.map (Option.map g) = ns.map some → ∃ xs : List α, l = xs.map some ∧ xs.map g = ns
  | [], [], _ => ⟨[], rfl, rfl⟩
  | [], n :: ns, h => by cases h
  | a :: l, [], h => by cases h
  | none :: l, n :: ns, h => by cases h
  | some a :: l, n :: ns, h => by
    obtain ⟨h1, h2⟩ := List.cons.inj (show some (g a) :: l.map (Option.map g) = some n :: ns.map some from h)
    obtain ⟨xs, e1, e2⟩ := map_somes h2
    exact ⟨a :: xs, by rw [e1]; rfl, by rw [List.map_cons, e2, Option.some.inj h1]⟩
def ownB : List Bool → Env → L2.St → List (List Addr)
  | [], _ :: ρ, _ :: σ => [] :: ownB [] ρ σ
  | true :: ks, a :: ρ, v :: σ => ownS a v :: ownB ks ρ σ
  | false :: ks, _ :: ρ, _ :: σ => [] :: ownB ks ρ σ
  | _, _, _ => []
theorem ownB_len : ∀ (ks : List Bool) {ρ : Env} {σ : L2.St}, ρ.length = σ.length → (ownB ks ρ σ).length = σ.length
  | ks, [], [], _ => by cases ks with
    | nil => rfl
    | cons k ks => cases k <;> rfl
  | ks, [], _ :: _, l => by cases l
  | ks, _ :: _, [], l => by cases l
  | [], _ :: ρ, _ :: σ, l => congrArg Nat.succ (ownB_len [] (Nat.succ.inj l))
  | true :: ks, _ :: ρ, _ :: σ, l => congrArg Nat.succ (ownB_len ks (Nat.succ.inj l))
  | false :: ks, _ :: ρ, _ :: σ, l => congrArg Nat.succ (ownB_len ks (Nat.succ.inj l))
theorem ownB_get : ∀ (ks : List Bool) (ρ : Env) (σ : L2.St) (i : Nat), ρ.length = σ.length → (ownB ks ρ σ).getD i [] = if ks.getD i false = true then ownK ρ σ i else []
  | ks, [], [], i, _ => by
    have e : ownB ks [] [] = [] := by cases ks with
      | nil => rfl
      | cons k ks => cases k <;> rfl
    rw [e]
    have e2 : ownK [] [] i = [] := rfl
    rw [e2]
    split <;> rfl
  | ks, [], _ :: _, i, l => by cases l
  | ks, _ :: _, [], i, l => by cases l
  | [], _ :: ρ, _ :: σ, 0, l => rfl
  | [], _ :: ρ, _ :: σ, i + 1, l => by
    have := ownB_get [] ρ σ i (Nat.succ.inj l)
    show (ownB [] ρ σ).getD i [] = _
    rw [this]
    rfl
  | true :: ks, a :: ρ, v :: σ, 0, l => by
    show ownS a v = ownK (a :: ρ) (v :: σ) 0
    unfold ownK
    cases a <;> cases v <;> rfl
  | true :: ks, _ :: ρ, _ :: σ, i + 1, l => ownB_get ks ρ σ i (Nat.succ.inj l)
  | false :: ks, _ :: ρ, _ :: σ, 0, l => rfl
  | false :: ks, _ :: ρ, _ :: σ, i + 1, l => ownB_get ks ρ σ i (Nat.succ.inj l)
theorem ownK_is {ρ : Env} {σ : L2.St} {i : Nat} {p : Addr} (h : p ∈ ownK ρ σ i) : ∃ av v, ρ[i]? = some (some av) ∧ σ[i]? = some (some v) ∧ p ∈ own av v := by
  unfold ownK at h
  cases e1 : ρ[i]? with
  | none => rw [e1] at h; simp at h
  | some a =>
    cases e2 : σ[i]? with
    | none => rw [e1, e2] at h; simp at h
    | some v =>
      rw [e1, e2] at h
      cases a with
      | none => cases v <;> cases h
      | some a =>
        cases v with
        | none => cases h
        | some v => exact ⟨a, v, rfl, rfl, h⟩
theorem flat_at : ∀ {ks : List Bool} {ρ : Env} {i : Nat} {av : AV}, flatM ks ρ = true → ks.getD i false = false → ρ[i]? = some (some av) → ∃ d, av = .fz d
  | _, [], i, av, _, _, e => by simp at e
  | [], a :: ρ, i, av, h, hk, e => by
    have h := (Bool.and_eq_true _ _).mp (show (flat1 a && flatM [] ρ) = true from h)
    cases i with
    | zero =>
      cases e
      cases av <;> first | exact ⟨_, rfl⟩ | cases h.1
    | succ i => exact flat_at (ks := []) (ρ := ρ) (i := i) h.2 rfl e
  | true :: ks, a :: ρ, i, av, h, hk, e => by
    cases i with
    | zero => cases hk
    | succ i => exact flat_at (ks := ks) (ρ := ρ) (i := i) h hk e
  | false :: ks, a :: ρ, i, av, h, hk, e => by
    have h := (Bool.and_eq_true _ _).mp (show (flat1 a && flatM ks ρ) = true from h)
    cases i with
    | zero =>
      cases e
      cases av <;> first | exact ⟨_, rfl⟩ | cases h.1
    | succ i => exact flat_at (ks := ks) (ρ := ρ) (i := i) h.2 hk e
def subM : List Bool → List Bool → Bool
  | [], _ => true
  | true :: ks, true :: ms => subM ks ms
  | true :: _, _ => false
  | false :: ks, _ :: ms => subM ks ms
  | false :: ks, [] => subM ks []
theorem subM_at : ∀ {ks ms : List Bool}, subM ks ms = true → ∀ k, ks.getD k false = true → ms.getD k false = true
  | [], _, _, k, h => by cases h
  | true :: ks, true :: ms, e, k, h => by
    cases k with
    | zero => rfl
    | succ k => exact subM_at (ks := ks) (ms := ms) e k h
  | true :: ks, false :: ms, e, k, h => by cases e
  | true :: ks, [], e, k, h => by cases e
  | false :: ks, m :: ms, e, k, h => by
    cases k with
    | zero => cases h
    | succ k => exact subM_at (ks := ks) (ms := ms) e k h
  | false :: ks, [], e, k, h => by
    cases k with
    | zero => cases h
    | succ k =>
      have := subM_at (ks := ks) (ms := []) e k h
      simp at this
section
variable {K : PySem.W.Frag} {c : DC} {U H U1 H1 : Hp} {σ σ1 : L2.St} {ρ ρ1 : Env}
theorem sel_reps : ∀ {ks : List Bool} {ρ : Env} {σ : L2.St} {avs : List AV}, Paired (RepS K U H) ρ σ → selM ks ρ = avs.map some → ∃ vs : List V, selM ks σ = vs.map some
  | [], _, σ, _, _, _ => ⟨[], by cases σ <;> rfl⟩
  | k :: ks, _, _, avs, .nil, e => ⟨[], by cases k <;> rfl⟩
  | true :: ks, a :: ρ, v :: σ, [], .cons h t, e => by cases e
  | true :: ks, a :: ρ, v :: σ, av :: avs, .cons h t, e => by
    obtain ⟨e1, e2⟩ := List.cons.inj (show a :: selM ks ρ = some av :: avs.map some from e)
    obtain ⟨vs, ev⟩ := sel_reps t e2
    subst e1
    cases v with
    | none => exact h.elim
    | some v => exact ⟨v :: vs, by show some v :: selM ks σ = _; rw [ev]; rfl⟩
  | false :: ks, a :: ρ, v :: σ, avs, .cons h t, e => sel_reps (ks := ks) t e
theorem fill_rep : ∀ (ks : List Bool) (σ : L2.St) (avs : List AV) (vs : List V), selM ks σ = vs.map some → RepAs K U H avs vs →
    Paired (RepS K U H) (fillM ks (avs.map some) σ.length) σ ∧ owns (fillM ks (avs.map some) σ.length) σ = ownAs avs vs ∧ selM ks (fillM ks (avs.map some) σ.length) = avs.map some
  | ks, [], avs, vs, e, r => by
    have e0 : selM ks ([] : L2.St) = [] := by cases ks with
      | nil => rfl
      | cons k ks => cases k <;> rfl
    rw [e0] at e
    have ev : vs = [] := by cases vs with
      | nil => rfl
      | cons _ _ => cases e
    subst ev
    have ea : avs = [] := by cases avs with
      | nil => rfl
      | cons a as => obtain ⟨_, _, e, _⟩ := r; cases e
    subst ea
    have ef : fillM ks (([] : List AV).map some) ([] : L2.St).length = [] := by cases ks with
      | nil => rfl
      | cons k ks => cases k <;> rfl
    rw [ef]
    refine ⟨.nil, rfl, ?_⟩
    cases ks with
    | nil => rfl
    | cons k ks => cases k <;> rfl
  | [], v :: σ, avs, vs, e, r => by
    have ev : vs = [] := by cases vs with
      | nil => rfl
      | cons _ _ => cases e
    subst ev
    have ea : avs = [] := by cases avs with
      | nil => rfl
      | cons a as => obtain ⟨_, _, e, _⟩ := r; cases e
    subst ea
    obtain ⟨i1, i2, i3⟩ := fill_rep [] σ [] [] (by cases σ <;> rfl) r
    refine ⟨.cons True.intro i1, i2, rfl⟩
  | true :: ks, v :: σ, avs, [], e, r => by cases e
  | true :: ks, v :: σ, [], w :: vs, e, r => by cases r
  | true :: ks, v :: σ, a :: avs, w :: vs, e, r => by
    obtain ⟨e1, e2⟩ := List.cons.inj (show v :: selM ks σ = some w :: vs.map some from e)
    obtain ⟨w', vs', ew, r1, r2⟩ := r
    obtain ⟨rfl, rfl⟩ := List.cons.inj ew
    obtain ⟨i1, i2, i3⟩ := fill_rep ks σ avs vs e2 r2
    subst e1
    exact ⟨.cons r1 i1, congrArg (own a w ++ ·) i2, congrArg (some a :: ·) i3⟩
  | false :: ks, v :: σ, avs, vs, e, r => by
    obtain ⟨i1, i2, i3⟩ := fill_rep ks σ avs vs e r
    exact ⟨.cons True.intro i1, i2, i3⟩
theorem per_mem {H0 : Hp} : ∀ {as : List AV} {vs : List V} {os : List (List Addr)}, PerO H0 as vs os → ∀ p ∈ ownAs as vs, (∃ o ∈ os, p ∈ o) ∨ H0 p = none
  | [], [], _, _, p, hp => by cases hp
  | a :: as, v :: vs, [], h, p, hp => h.elim
  | a :: as, v :: vs, o :: os, ⟨h1, h2⟩, p, hp => by
    rcases List.mem_append.mp hp with z | z
    · exact (h1 p z).imp (fun k => ⟨o, List.mem_cons_self, k⟩) id
    · exact (per_mem h2 p z).imp (fun ⟨o', k1, k2⟩ => ⟨o', List.mem_cons_of_mem _ k1, k2⟩) id
  | [], _ :: _, _, _, p, hp => by cases hp
  | _ :: _, [], _, _, p, hp => by cases hp
theorem per_at {H0 : Hp} : ∀ (ks : List Bool) (σ : L2.St) (avs : List AV) (vs : List V) (O : List (List Addr)), selM ks σ = vs.map some → avs.length = vs.length → O.length = σ.length → PerO H0 avs vs (selM ks O) → ∀ (i : Nat) (av : AV) (v : V), (fillM ks (avs.map some) σ.length)[i]? = some (some av) → σ[i]? = some (some v) → ∀ p ∈ own av v, p ∈ O.getD i [] ∨ H0 p = none
  | ks, [], avs, vs, O, e, l, lo, h, i, av, v, e1, e2, p, hp => by simp at e2
  | ks, _ :: _, avs, vs, [], e, l, lo, h, i, av, v, e1, e2, p, hp => by cases lo
  | [], w :: σ, avs, vs, o :: O, e, l, lo, h, i, av, v, e1, e2, p, hp => by
    have none_at : ∀ (n i : Nat) (av : AV), (fillM [] [] n)[i]? ≠ some (some av) := by
      intro n
      induction n with
      | zero => intro i av z; simp [fillM] at z
      | succ n ih =>
        intro i av z
        cases i with
        | zero => cases z
        | succ i => exact ih i av z
    cases i with
    | zero => cases e1
    | succ i => exact absurd e1 (none_at _ _ _)
  | true :: ks, w :: σ, avs, [], o :: O, e, l, lo, h, i, av, v, e1, e2, p, hp => by cases e
  | true :: ks, w :: σ, [], u :: vs, o :: O, e, l, lo, h, i, av, v, e1, e2, p, hp => by cases l
  | true :: ks, w :: σ, a :: avs, u :: vs, o :: O, e, l, lo, ⟨h1, h2⟩, i, av, v, e1, e2, p, hp => by
    obtain ⟨k1, k2⟩ := List.cons.inj (show w :: selM ks σ = some u :: vs.map some from e)
    cases i with
    | zero =>
      cases e1
      cases e2
      cases k1
      exact h1 p hp
    | succ i => exact per_at ks σ avs vs O k2 (Nat.succ.inj l) (Nat.succ.inj lo) h2 i av v e1 e2 p hp
  | false :: ks, w :: σ, avs, vs, o :: O, e, l, lo, h, i, av, v, e1, e2, p, hp => by
    cases i with
    | zero => cases e1
    | succ i => exact per_at ks σ avs vs O e l (Nat.succ.inj lo) h i av v e1 e2 p hp
theorem sel_mem {α : Type} : ∀ {ks : List Bool} {r : List α} {a : α}, a ∈ selM ks r → a ∈ r
  | [], r, a, h => by cases r <;> cases h
  | k :: ks, [], a, h => by cases k <;> cases h
  | true :: ks, b :: r, a, h => by
    rcases List.mem_cons.mp (show a ∈ b :: selM ks r from h) with rfl | h
    · exact List.mem_cons_self
    · exact List.mem_cons_of_mem _ (sel_mem h)
  | false :: ks, b :: r, a, h => List.mem_cons_of_mem _ (sel_mem (ks := ks) h)
theorem DI.gone (h : DI c U H σ ρ) {i : Nat} (hi : noPar c i = true) : DI c U H (σ.set i none) (ρ.set i none) := by
  have hn := noPar_of hi
  refine ⟨h.gr, Paired.setAt (F := RepS c.K U H) (show RepS c.K U H none none from True.intro) i h.rep, (owns_set_sub ρ σ i none none rfl).nodup h.nd, fun p hp => h.out p ((owns_set_sub ρ σ i none none rfl).mem hp), par_set (sel_set _ _ _ _ hn) (sel_set _ _ _ _ hn) h.par, h.ko, fun k av w e1 e2 p hp => ?_, by rw [List.length_set]; exact h.on⟩
  by_cases z : i = k
  · subst z
    rw [List.getElem?_set] at e1
    simp at e1
  · rw [List.getElem?_set_ne z] at e1 e2
    exact h.ow k av w e1 e2 p hp
theorem DI.ofNo (ko : c.Ok) (J : DI c.no U H σ ρ) : DI c U H σ ρ := ⟨J.gr, J.rep, J.nd, J.out, J.par, ko, J.ow, J.on⟩
variable {mask : List Bool} {pk : List Nat} {pv : List V} {X : Exn → List (Option AV) → Prop} {E : L2.St → XK} {avs0 : List AV}
/-- out of the block -/
theorem DI.leave (I : DI c U H σ ρ) (sub : subM c.ks mask = true) (ea : selM mask ρ = avs0.map some) (ev : selM mask σ = pv.map some) (J : DI ⟨c.K, mask, avs0.map AV.kind, pv, ownB mask ρ σ, owns ρ σ, U, H, X, E, c.tb⟩ U1 H1 σ1 ρ1) : DI c U1 H1 σ1 ρ1 := by
  have l0 : ρ.length = σ.length := I.rep.length
  have l1 : σ1.length = σ.length := by rw [← ownB_len mask l0]; exact J.on.1.symm
  have l2 : ρ1.length = ρ.length := by rw [J.rep.length, l1, l0]
  have back : ∀ p, p ∈ owns ρ σ ∨ H p = none → p ∈ c.M ∨ c.H0 p = none := fun p h => h.elim (fun h => (I.out p h).2) fun h => .inr (I.gr.fresh h)
  refine ⟨⟨I.gr.vv.trans J.gr.vv, J.gr.vh, fun x o m nn h => ?_, fun x h => J.gr.dom x (I.gr.dom x h), fun x h k => J.gr.fr x (I.gr.fr x h k) (I.gr.dom x k), fun P h => J.gr.tb P (I.gr.tb P h), fun h => J.gr.nt (I.gr.nt h)⟩, J.rep, J.nd, fun p hp => ⟨(J.out p hp).1, back p (J.out p hp).2⟩, ⟨?_, ?_⟩, I.ko, fun i av v e1 e2 p hp => ?_, I.on.1.trans l1.symm, I.on.2⟩
  · refine J.gr.hh x o (fun z => ?_) nn (I.gr.hh x o m nn h)
    rcases (I.out x z).2 with k | k
    · exact m k
    · rw [k] at h
      cases h
  · have e1 : selM mask σ1 = selM mask σ := J.par.1.trans ev.symm
    rw [sel_at c.ks σ σ1 fun k hk => sel_inv mask σ σ1 l1 e1 k (subM_at sub k hk)]
    exact I.par.1
  · obtain ⟨_, as1, f1, f2⟩ := J.par
    obtain ⟨_, bs, g1, g2⟩ := I.par
    have f1' : selM mask ρ1 = as1.map some := f1
    have f2' : as1.map AV.kind = avs0.map AV.kind := f2
    have e2 : selM mask (ρ1.map (Option.map AV.kind)) = selM mask (ρ.map (Option.map AV.kind)) := by
      rw [sel_mapA, sel_mapA, f1', ea, List.map_map, List.map_map]
      have : ∀ l : List AV, l.map (Option.map AV.kind ∘ some) = (l.map AV.kind).map some := fun l => by rw [List.map_map]; rfl
      rw [this, this, f2']
    have e3 := sel_at c.ks (ρ.map (Option.map AV.kind)) (ρ1.map (Option.map AV.kind)) fun k hk => sel_inv mask _ _ (by rw [List.length_map, List.length_map, l2]) e2 k (subM_at sub k hk)
    rw [sel_mapA, sel_mapA, g1, List.map_map] at e3
    have e4 : (selM c.ks ρ1).map (Option.map AV.kind) = c.pk.map some := by
      rw [e3, ← g2, List.map_map]
      rfl
    exact map_somes e4
  · rcases J.ow i av v e1 e2 p hp with h | h
    · have h' : p ∈ (ownB mask ρ σ).getD i [] := h
      rw [ownB_get mask ρ σ i l0] at h'
      split at h'
      · obtain ⟨av0, v0, k1, k2, k3⟩ := ownK_is h'
        exact I.ow i av0 v0 k1 k2 p k3
      · cases h'
    · exact .inr (I.gr.fresh h)
/-- into the block -/
theorem DI.enter (I : DI c U H σ ρ) (ea : selM mask ρ = avs0.map some) (ev : selM mask σ = pv.map some) (fl : flatM mask ρ = true) (ko : DC.Ok ⟨c.K, mask, avs0.map AV.kind, pv, ownB mask ρ σ, owns ρ σ, U, H, X, E, c.tb⟩) : DI ⟨c.K, mask, avs0.map AV.kind, pv, ownB mask ρ σ, owns ρ σ, U, H, X, E, c.tb⟩ U H σ ρ := by
  have l0 : ρ.length = σ.length := I.rep.length
  refine ⟨(Gr.refl I.vh).any, I.rep, I.nd, fun p hp => ⟨(I.out p hp).1, .inl hp⟩, ⟨ev, avs0, ea, rfl⟩, ko, fun i av v e1 e2 p hp => ?_, ownB_len mask l0, fun i hi => ?_⟩
  · refine .inl ?_
    show p ∈ (ownB mask ρ σ).getD i []
    rw [ownB_get mask ρ σ i l0]
    cases hk : mask.getD i false with
    | true =>
      rw [if_pos rfl]
      unfold ownK
      rw [e1, e2]
      exact hp
    | false =>
      obtain ⟨d, rfl⟩ := flat_at fl hk e1
      cases v <;> cases hp
  · show (ownB mask ρ σ).getD i [] = []
    rw [ownB_get mask ρ σ i l0, if_neg]
    rw [show mask.getD i false = false from noPar_of hi]
    exact Bool.false_ne_true
/-- where an exception came -/
theorem DI.land (I : DI c U H σ ρ) (sub : subM c.ks mask = true) (ea : selM mask ρ = avs0.map some) (ev : selM mask σ = pv.map some) {as : List (Option AV)} (e1 : selM mask σ1 = pv.map some) (l1 : σ1.length = (ownB mask ρ σ).length)
    (g : Gr (owns ρ σ) U H U1 H1) (pr : ParRep ⟨c.K, mask, avs0.map AV.kind, pv, ownB mask ρ σ, owns ρ σ, U, H, X, E, c.tb⟩ U1 H1 as) : DI c U1 H1 σ1 (fillM mask as ρ.length) := by
  have l0 : ρ.length = σ.length := I.rep.length
  rw [ownB_len mask l0] at l1
  obtain ⟨avs1, rfl, r1, k1, nd1, un1, per1⟩ := pr.ex
  obtain ⟨f1, f2, f3⟩ := fill_rep mask σ1 avs1 pv e1 r1
  rw [show ρ.length = σ1.length from l0.trans l1.symm]
  refine I.leave (X := fun _ _ => False) (E := E) sub ea ev ⟨g, f1, by rw [f2]; exact nd1, fun p hp => ?_, ⟨e1, avs1, f3, k1⟩, ⟨fun _ _ _ _ _ _ _ _ _ _ _ _ z => z.elim, I.tbs⟩, ?_, (ownB_len mask l0).trans l1.symm, fun i hi => ?_⟩
  · rw [f2] at hp
    refine ⟨un1 p hp, ?_⟩
    rcases per_mem per1 p hp with ⟨o, ho, hpo⟩ | h
    · left
      have ho' := sel_mem ho
      obtain ⟨i, hi⟩ := List.mem_iff_getElem?.mp ho'
      have : (ownB mask ρ σ).getD i [] = o := by rw [List.getD_eq_getElem?_getD]; rw [show (ownB mask ρ σ)[i]? = some o from hi]; rfl
      rw [← this, ownB_get mask ρ σ i l0] at hpo
      split at hpo
      · obtain ⟨av0, v0, k1, k2, k3⟩ := ownK_is hpo
        exact mem_owns k1 k2 p k3
      · cases hpo
    · exact .inr h
  · exact fun i av v e3 e4 => per_at mask σ1 avs1 pv (ownB mask ρ σ) e1 r1.len ((ownB_len mask l0).trans l1.symm) per1 i av v e3 e4
  · show (ownB mask ρ σ).getD i [] = []
    rw [ownB_get mask ρ σ i l0, if_neg]
    rw [show mask.getD i false = false from noPar_of hi]
    exact Bool.false_ne_true
inductive HndsR (c : DC) : List Hnd → List AHnd → Prop
  | nil : HndsR c [] []
  | only {C : Addr} {ts : Addr → Value → Option Addr → TS} {su : Addr → Addr → Option Addr → AS} {l : List Hnd} {ls : List AHnd} (h : ∀ a D o, SimS c.no (ts a (.ref D) o) (su a D o)) (r : HndsR c l ls) : HndsR c ((.ref C, none, ts) :: l) (⟨C, none, su⟩ :: ls)
  | named {C : Addr} {i j : Nat} {ts : Addr → Value → Option Addr → TS} {su : Addr → Addr → Option Addr → AS} {l : List Hnd} {ls : List AHnd} (hi : noPar c i = true) (hj : j = i) (h : ∀ a D o, SimS c.no (ts a (.ref D) o) (su a D o)) (r : HndsR c l ls) : HndsR c ((.ref C, some j, ts) :: l) (⟨C, some i, su⟩ :: ls)
theorem handle_ok {hl : List Hnd} {hs : List AHnd} {zf : Bool} {Wo : WX} {N : AEnds} {n : L2.Ends} {x : Exn} {cls : Value} {o : Option Addr} (I : DI c U H σ ρ) (xr : XRep c.K U H x cls o) (hx : N.ex = fun x ρ => c.x ρ x) (P : Post c U N n) (hW : zf = true → ∀ cls o σ H, c.E σ cls o H → Wo cls o σ H) (hh : HndsR c hl hs) (z : handleA c.K zf N x ρ hs) : wHs c.K Wo n hl cls o σ H := by
  obtain ⟨rfl, xf⟩ := id xr
  have no : DI c.no U H σ ρ := I.no
  induction hh with
  | nil =>
    cases zf with
    | false => exact z.elim
    | true =>
      have z' : N.ex x ρ := z
      rw [hx] at z'
      exact hW rfl _ _ _ _ (I.raise xr z')
  | @only C ts su l ls h r ih =>
    obtain ⟨b, e, yes, nob⟩ := z
    refine ⟨b, e, fun hb a na => ?_, fun hb => ih (nob hb)⟩
    exact h a x.C o U H σ ρ _ _ rfl no (yes hb a o) ⟨fun U2 H2 s2 r2 sm J => P.nx U2 H2 s2 r2 sm (.ofNo I.ko J), fun U2 H2 s2 r2 av v J => P.rt U2 H2 s2 r2 av v (.ofNo I.ko J), fun U2 H2 s2 r2 sm J => P.bk U2 H2 s2 r2 sm (.ofNo I.ko J), fun U2 H2 s2 r2 sm J => P.ct U2 H2 s2 r2 sm (.ofNo I.ko J)⟩
  | @named C i j ts su l ls hi hj h r ih =>
    subst hj
    obtain ⟨b, e, yes, nob⟩ := z
    refine ⟨b, e, fun hb a na => ?_, fun hb => ih (nob hb)⟩
    refine h a x.C o U H _ _ _ _ rfl (I.setF (d := .exn a x.C o x.ns x.ds) (v := .ref a) ⟨rfl, xf⟩ hi).no (yes hb a o) ⟨fun U2 H2 s2 r2 sm J => P.nx U2 H2 _ _ sm ((DI.ofNo I.ko J).gone hi), fun U2 H2 s2 r2 av v J => P.rt U2 H2 s2 r2 av v (.ofNo I.ko J), fun U2 H2 s2 r2 sm J => P.bk U2 H2 _ _ sm ((DI.ofNo I.ko J).gone hi), fun U2 H2 s2 r2 sm J => P.ct U2 H2 _ _ sm ((DI.ofNo I.ko J).gone hi)⟩
theorem sim_try {hl : List Hnd} {hs : List AHnd} {zf : Bool} {tb : WX → TS} {body : AS} {Wo : WX} (sub : subM c.ks mask = true) (hW : zf = true → ∀ cls o σ H, c.E σ cls o H → Wo cls o σ H) (hh : HndsR c hl hs)
    (hb : ∀ (W : WX) pk pv O M U0 H0 X, SimS ⟨c.K, mask, pk, pv, O, M, U0, H0, X, fun σ cls d H => W cls d σ H, c.tb⟩ (tb W) body) : SimS c (tTryHs c.K tb Wo hl) (aTry c.K zf mask hs body) := fun U H σ ρ N n hx I z P => by
  obtain ⟨z1, z2, z3⟩ := z
  obtain ⟨avs0, ea⟩ := allSome_map z1
  obtain ⟨pv, ev⟩ := sel_reps I.rep ea
  have ko : DC.Ok ⟨c.K, mask, avs0.map AV.kind, pv, ownB mask ρ σ, owns ρ σ, U, H, fun x as => handleA c.K zf N x (fillM mask as ρ.length) hs, fun σ cls d H => wHs c.K Wo n hl cls d σ H, c.tb⟩ := ⟨fun U1 H1 s1 as x cls o e1 l1 g pr xr zz => handle_ok (I.land sub ea ev e1 l1 g pr) xr hx (P.mono g.vv) hW hh zz, I.tbs⟩
  refine hb (wHs c.K Wo n hl) _ pv (ownB mask ρ σ) (owns ρ σ) U H _ U H σ ρ _ n rfl (I.enter ea ev z2 ko) z3 ⟨fun U1 H1 s1 r1 sm J => P.nx U1 H1 s1 r1 sm (I.leave sub ea ev J), fun U1 H1 s1 r1 av v J r nd fr => P.rt U1 H1 s1 r1 av v (I.leave sub ea ev J) r nd fun p hp => ⟨(fr p hp).1, I.gr.fresh (fr p hp).2.1, (fr p hp).2.2⟩, fun U1 H1 s1 r1 sm J => P.bk U1 H1 s1 r1 sm (I.leave sub ea ev J), fun U1 H1 s1 r1 sm J => P.ct U1 H1 s1 r1 sm (I.leave sub ea ev J)⟩
def aXF (a D : Addr) (o : Option Addr) (C : Addr) (f : Str) (e : AE) : AE := fun ρ Q X => e ρ (fun d => match d with
  | .exn a' _ o' ns ds => a' = a ∧ o' = o ∧ D = C ∧ (match lookD f ns ds with | some y => Q y | none => False)
  | _ => False) X
theorem sim_xf {a D : Addr} {o : Option Addr} {C : Addr} {f : Str} {t : TE} {e : AE} (he : SimE c t e) : SimE c (tXf a (.ref D) o C f t) (aXF a D o C f e) := fun U H σ ρ Q q I z k => he U H σ ρ _ _ I z fun U1 H1 d v g1 I1 r1 z1 => by
  cases d with
  | exn a' C' o' ns ds =>
    obtain ⟨rfl, rfl, rfl, z2⟩ := z1
    obtain ⟨rfl, r2⟩ := r1
    cases ed : lookD f ns ds with
    | none => rw [ed] at z2; exact z2.elim
    | some y =>
      rw [ed] at z2
      rcases r2 with ⟨e1, _⟩ | ⟨dd, xs, e1, e2, e3, e4⟩
      · rw [e1] at ed
        cases ed
      · obtain ⟨w, w1, w2⟩ := look_of e4 e3 ed
        exact ⟨rfl, rfl, dd, _, w, e1, I1.vh _ _ e2, w1, k U1 H1 y w g1 I1 w2 z2⟩
  | _ => exact z1.elim
end
end SW
namespace SW
open PySem PySem.Spec PyProof.Rows L2 SWS
open PySem.W (AlikeAll iter_listW cmpIn_lt moved_old argBest_fold)
variable [QN]
def gDecMem {κ : Type} [DecidableEq κ] (y : κ) : (ks : List κ) → Decidable (y ∈ ks)
  | [] => Decidable.isFalse (by simp)
  | k :: ks => if h : y = k then Decidable.isTrue (h ▸ List.mem_cons_self) else match gDecMem y ks with
    | Decidable.isTrue t => Decidable.isTrue (List.mem_cons_of_mem _ t)
    | Decidable.isFalse t => Decidable.isFalse fun z => (List.mem_cons.mp z).elim h t
section
local instance gDec {κ : Type} [DecidableEq κ] (y : κ) (ks : List κ) : Decidable (y ∈ ks) := gDecMem y ks
def gval {κ : Type} [DecidableEq κ] : List κ → List D → κ → Option D
  | k :: ks, d :: ds, y => if k = y then some d else gval ks ds y
  | _, _, _ => none
/-- in its place, or at the end -/
def gputK {κ : Type} [DecidableEq κ] (ks : List κ) (y : κ) : List κ := if y ∈ ks then ks else ks ++ [y]
def gputD {κ : Type} [DecidableEq κ] : List κ → List D → κ → D → List D
  | k :: ks, d :: ds, y, e => if k = y then e :: ds else d :: gputD ks ds y e
  | _, _, _, e => [e]
end
instance gDecT (y : List Key) (ks : List (List Key)) : Decidable (y ∈ ks) := gDecMem y ks
def keyT : List D → Option (List Key)
  | [] => some []
  | d :: ds => match keyD d, keyT ds with
    | some k, some r => some (k :: r)
    | _, _ => none
def dTQ (Q : List (List Key) → List D → Prop) : D → Prop
  | .dT ks ds => Q ks ds
  | _ => False
section
variable {c : DC} {U H U' H' : Hp} {σ : L2.St} {ρ ρ' : Env} {ta tb : TE} {a b : AE} {tr : TA} {r : AL}
def aDInT (neg : Bool) (r : AL) (b : AE) : AE := fun ρ Q X => r ρ (fun ds => ds.length ≤ 1000000 ∧ someQ (fun k => b ρ (dTQ fun ks _ => Q (.bl (if neg then !decide (k ∈ ks) else decide (k ∈ ks)))) X) (keyT ds)) X
def aDGetT (b : AE) (r : AL) : AE := fun ρ Q X => b ρ (dTQ fun ks es => r ρ (fun ds => ds.length ≤ 1000000 ∧ someQ (fun k => someQ Q (gval ks es k)) (keyT ds)) X) X
/-- d.get((..), x) -/
def aDGet2T (b : AE) (r : AL) (e : AE) : AE := fun ρ Q X => b ρ (dTQ fun ks es => r ρ (fun ds => ds.length ≤ 1000000 ∧ someQ (fun k => e ρ (fun x => Q ((gval ks es k).getD x)) X) (keyT ds)) X) X
/-- a dict of one's own is written: plain keys, tuples as keys -/
def okS (ρ : Env) (i : Nat) (Q : List Key → List D → Prop) : Prop := match ρ[i]? with
  | some (some (.ok ks ds)) => Q ks ds
  | _ => False
def otS (ρ : Env) (i : Nat) (Q : List (List Key) → List D → Prop) : Prop := match ρ[i]? with
  | some (some (.ot ks ds)) => Q ks ds
  | _ => False
def aDPutS (i : Nat) (ky e : AE) : AS := fun N ρ => e ρ (fun d => okS ρ i fun ks ds => ky ρ (fun y => someQ (fun kk => ks.length < 1000000 ∧ ks.Nodup ∧ N.nx (ρ.set i (some (.ok (dputK ks kk) (dputD ks ds kk d))))) (keyD y)) (fun x => N.ex x ρ)) (fun x => N.ex x ρ)
def aDPutT (i : Nat) (r : AL) (e : AE) : AS := fun N ρ => e ρ (fun d => otS ρ i fun ks es => r ρ (fun ds => ds.length ≤ 1000000 ∧ someQ (fun k => ks.length < 1000000 ∧ ks.Nodup ∧ N.nx (ρ.set i (some (.ot (gputK ks k) (gputD ks es k d))))) (keyT ds)) (fun x => N.ex x ρ)) (fun x => N.ex x ρ)
def aDNewT : AO := fun _ Q _ => Q (.ot [] [])
/-- len(d) -/
def oLenT : List D → (D → Prop) → Prop := fun ds Q => oneQ (dTQ fun ks _ => Q (.int ks.length)) ds
def aCompT (g : AG) (rk : AL) (ev : AE) (ρ : Env) (X : Exn → Prop) : List D → List (List Key) → List D → (List (List Key) → List D → Prop) → Prop
  | [], ks, es, Q => Q ks es
  | d :: r, ks, es, Q => g d ρ (fun ρ2 => rk ρ2 (fun ds => ds.length ≤ 1000000 ∧ someQ (fun k => ev ρ2 (fun x => ks.length < 1000000 ∧ ks.Nodup ∧ aCompT g rk ev ρ X r (gputK ks k) (gputD ks es k x) Q) X) (keyT ds)) X)
def aDcT (it : AL) (g : AG) (rk : AL) (ev : AE) (vs : List Nat) : AO := fun ρ Q X => it ρ (fun ds => aCompT g rk ev (wipeA ρ vs) X ds [] [] (fun ks es => Q (.ot ks es))) X
end
section
variable {c : DC} {tr : TA} {r : AL}
def aMkA (C : Addr) (A : AFM) (r : AL) : AO := fun ρ Q X => r ρ (fun ds => mkQ C A Q X (ds.map .fz)) X
def aMkA0 (C : Addr) (A : AFM) (r : AL) : AO := fun ρ Q X => r ρ (fun ds => mkQ C A Q (fun _ => False) (ds.map .fz)) X
end
section
variable {ρ : Env} {nx : Env → Prop} {rt : AV → Env → Prop} {bk ct : Env → Prop} {ex : Exn → Env → Prop} {i : Nat} {a b e : AE} {r rk : AL} {Q : D → Prop} {O : AV → Prop} {XE : Exn → Prop} {ks : List (List Key)} {es : List D} {it : AL} {g : AG} {vs : List Nat} {C : Addr} {A : AFM}
theorem w_dInTF (q : r ρ (fun ds => ds.length ≤ 1000000 ∧ someQ (fun k => b ρ (dTQ fun ks _ => Q (.bl (decide (k ∈ ks)))) XE) (keyT ds)) XE) : aDInT false r b ρ Q XE := q
theorem w_dInTT (q : r ρ (fun ds => ds.length ≤ 1000000 ∧ someQ (fun k => b ρ (dTQ fun ks _ => Q (.bl (!decide (k ∈ ks)))) XE) (keyT ds)) XE) : aDInT true r b ρ Q XE := q
theorem w_dGetT (q : b ρ (dTQ fun ks es => r ρ (fun ds => ds.length ≤ 1000000 ∧ someQ (fun k => someQ Q (gval ks es k)) (keyT ds)) XE) XE) : aDGetT b r ρ Q XE := q
theorem w_dGet2T (q : b ρ (dTQ fun ks es => r ρ (fun ds => ds.length ≤ 1000000 ∧ someQ (fun k => e ρ (fun x => Q ((gval ks es k).getD x)) XE) (keyT ds)) XE) XE) : aDGet2T b r e ρ Q XE := q
theorem w_dTQ {P : List (List Key) → List D → Prop} (q : P ks es) : dTQ P (.dT ks es) := q
theorem w_dPutS (q : e ρ (fun d => okS ρ i fun ks ds => a ρ (fun y => someQ (fun kk => ks.length < 1000000 ∧ ks.Nodup ∧ nx (ρ.set i (some (.ok (dputK ks kk) (dputD ks ds kk d))))) (keyD y)) (fun x => ex x ρ)) (fun x => ex x ρ)) : aDPutS i a e ⟨nx, rt, bk, ct, ex⟩ ρ := q
theorem w_okS {P : List Key → List D → Prop} {ks : List Key} {ds : List D} (h : ρ[i]? = some (some (.ok ks ds))) (q : P ks ds) : okS ρ i P := by unfold okS; rw [h]; exact q
theorem w_dPutT (q : e ρ (fun d => otS ρ i fun ks es => r ρ (fun ds => ds.length ≤ 1000000 ∧ someQ (fun k => ks.length < 1000000 ∧ ks.Nodup ∧ nx (ρ.set i (some (.ot (gputK ks k) (gputD ks es k d))))) (keyT ds)) (fun x => ex x ρ)) (fun x => ex x ρ)) : aDPutT i r e ⟨nx, rt, bk, ct, ex⟩ ρ := q
theorem w_otS {P : List (List Key) → List D → Prop} (h : ρ[i]? = some (some (.ot ks es))) (q : P ks es) : otS ρ i P := by unfold otS; rw [h]; exact q
theorem w_dNew (q : O (.ok [] [])) : aDNew ρ O XE := q
theorem w_dNewT (q : O (.ot [] [])) : aDNewT ρ O XE := q
theorem w_lenTD (q : Q (.int ks.length)) : oLenT [.dT ks es] Q := q
theorem w_dcT (q : it ρ (fun ds => aCompT g rk e (wipeA ρ vs) XE ds [] [] (fun ks es => O (.ot ks es))) XE) : aDcT it g rk e vs ρ O XE := q
theorem w_mkA0 (q : r ρ (fun ds => mkQ C A O (fun _ => False) (ds.map .fz)) XE) : aMkA0 C A r ρ O XE := q
theorem w_mkA (q : r ρ (fun ds => mkQ C A O XE (ds.map .fz)) XE) : aMkA C A r ρ O XE := q
theorem w_try {K : PySem.W.Frag} {z : Bool} {mask : List Bool} {hs : List AHnd} {body : AS} {N : AEnds} (h1 : allSome (selM mask ρ) = true) (h2 : flatM mask ρ = true) (q : body ⟨N.nx, N.rt, N.bk, N.ct, fun x ρ' => handleA K z N x (fillM mask (selM mask ρ') ρ.length) hs⟩ ρ) : aTry K z mask hs body N ρ := ⟨h1, h2, q⟩
end
end SW
namespace SW
open PySem PySem.Spec PyProof.Rows L2 SWS
variable [QN]
def spX1 (K : PySem.W.Frag) (f : Str) : Sp := fun vs H Q _ => ∃ (a C : Addr) (y : V), vs = [.ref a, y] ∧ OexC K C ∧ PySem.W.findIn K (.ref C) f = some none ∧ H a = some (exo a C none) ∧ ∀ dx, H dx = none → dx ≠ a → Q .non (upd (upd H dx (exd dx [(f, y)])) a (exo a C (some dx)))
theorem run_x1 {K : PySem.W.Frag} {f : Str} {vs : List V} {H : Hp} {Q : VK} {E : XK} (h : spX1 K f vs H Q E) : tOst K f (tVar 0) (tVar 1) { nx := fun _ H' => Q .non H', rt := Q } (vs.map some) H := by
  obtain ⟨a, C, y, rfl, T, hn, ha, q⟩ := h
  exact ⟨y, rfl, .ref a, rfl, a, C, rfl, T, hn, .inl ⟨ha, fun dx n ne => q dx n ne⟩⟩
def tRaiseX (W : WX) (C : Addr) (sp : Sp) (ta : TA) : TS := fun _ σ H => tMkO C sp [] ta σ H fun cls d H' => W cls d σ H'
theorem ps_raiseX {X : Cx} {W : WX} {C : Addr} {sp : Sp} {ta : TA} {e : Expr} {pos : Pos} (hc : X.calm = true) (tk : Takes X W) (he : PMk X e (tMkO C sp [] ta)) : PS X (.Raise (some e) none pos) (tRaiseX W C sp ta) := ps_raise hc tk he
def aRaiseX1 (C : Addr) (f : Str) (r : AL) : AS := fun N ρ => r ρ (oneQ fun d => N.ex ⟨C, [f], [d]⟩ ρ) (fun x => N.ex x ρ)
def aRaiseX2 (C : Addr) (f g : Str) (r : AL) : AS := fun N ρ => r ρ (twoQ fun d e => N.ex ⟨C, [g, f], [e, d]⟩ ρ) (fun x => N.ex x ρ)
section
variable {c : DC} {U H : Hp} {σ : L2.St} {ρ : Env} {ta : TA} {r : AL} {C : Addr} {f g : Str} {W : WX}
theorem sim_raiseX1 (T : OexC c.K C) (hf : PySem.W.findIn c.K (.ref C) f = some none) (hW : ∀ cls d σ H, c.E σ cls d H → W cls d σ H) (hr : SimL c ta r) : SimS c (tRaiseX W C (spX1 c.K f) ta) (aRaiseX1 C f r) := fun U H σ ρ N n hx I z P => by
  unfold aRaiseX1 at z
  rw [hx] at z
  refine hr U H σ ρ _ _ I z fun U1 H1 ds vs g1 I1 r1 z1 => ?_
  obtain ⟨d, rfl, z2⟩ := oneQ_of z1
  obtain ⟨v, vs', rfl, rd, e0⟩ := r1
  obtain rfl : vs' = [] := e0
  refine ⟨Nat.le_of_ble_eq_true rfl, fun a na => ⟨a, C, v, rfl, T, hf, upd_same, fun dx n ne => ⟨rfl, dx, [(f, v)], upd_same, by rw [upd_ne ne, upd_same], ?_, ?_⟩⟩⟩
  · rw [upd_ne ne] at n
    exact n
  · rw [upd_ne ne] at n
    have e : upd (del (upd (upd (upd H1 a (exo a C none)) dx (exd dx [(f, v)])) a (exo a C (some dx))) a) dx (.xd [(f, v)]) = upd H1 dx (.xd [(f, v)]) := by
      funext b
      by_cases h1 : b = dx
      · rw [h1, upd_same, upd_same]
      · rw [upd_ne h1, upd_ne h1]
        by_cases h2 : b = a
        · rw [h2, del_same, na]
        · rw [del_ne h2, upd_ne h2, upd_ne h1, upd_ne h2]
    rw [e]
    have gg : Gr [] U1 H1 (upd U1 dx (.xd [(f, v)])) (upd H1 dx (.xd [(f, v)])) := (Gr.refl I1.vh).new n
    exact hW _ _ _ _ ((I1.grow gg).raise (x := ⟨C, [f], [d]⟩) ⟨rfl, .inr ⟨dx, [v], rfl, upd_same, rfl, v, [], rfl, R.mono gg.vv d v rd, rfl⟩⟩ z2)
end
section
variable {ρ : Env} {N : AEnds} {C : Addr} {f g : Str} {r : AL}
theorem w_raiseX1 (q : r ρ (oneQ fun d => N.ex ⟨C, [f], [d]⟩ ρ) (fun x => N.ex x ρ)) : aRaiseX1 C f r N ρ := q
theorem w_raiseX2 (q : r ρ (twoQ fun d e => N.ex ⟨C, [g, f], [e, d]⟩ ρ) (fun x => N.ex x ρ)) : aRaiseX2 C f g r N ρ := q
end
section
variable {c : DC} {ρ : Env} {i : Nat}
def aClr (i : Nat) : AS := fun N ρ => olQ ρ i fun _ => N.nx (ρ.set i (some (.ol [])))
theorem w_clr {ds : List D} {nx bk ct : Env → Prop} {rt : AV → Env → Prop} {ex : Exn → Env → Prop} (h : ρ[i]? = some (some (.ol ds))) (q : nx (ρ.set i (some (.ol [])))) : aClr i ⟨nx, rt, bk, ct, ex⟩ ρ := by
  unfold aClr olQ
  rw [h]
  exact q
end
theorem w_xf {a C1 C2 C : Addr} {o : Option Addr} {f : Str} {i : Nat} {ρ : Env} {Q : D → Prop} {X : Exn → Prop} {ns : List Str} {ds : List D} {y : D} (h1 : ρ[i]? = some (some (.fz (.exn a C2 o ns ds)))) (hD : C1 = C) (h2 : lookD f ns ds = some y) (q : Q y) : aXF a C1 o C f (aVar i) ρ Q X := by
  unfold aXF aVar
  rw [h1]
  refine ⟨rfl, rfl, hD, ?_⟩
  rw [h2]
  exact q
end SW
namespace SW
open PySem PySem.Spec PyProof.Rows L2 SWS
end SW
namespace SW
open PySem PySem.Spec PyProof.Rows L2 SWS
variable [QN]
section
variable {K : PySem.W.Frag} {U H : Hp}
theorem nx_of {p : Addr} {o : HO} (h : H p = some o) (n : ∀ fs, o ≠ .xd fs) : ∀ fs, H p ≠ some (.xd fs) := fun fs z => by
  rw [h] at z
  exact n fs (Option.some.inj z)
mutual
theorem own_nx : ∀ (av : AV) (v : V), RepA K U H av v → ∀ p ∈ own av v, ∀ fs, H p ≠ some (.xd fs)
  | .fz _, v, _, p, hp => by cases hp
  | .ol _, _, ⟨q, xs, e, h, _⟩, p, hp => by
    subst e
    rw [List.mem_singleton.mp hp]
    exact nx_of h fun _ z => nomatch z
  | .ok _ _, _, ⟨q, xs, e, h, _⟩, p, hp => by
    subst e
    rw [List.mem_singleton.mp hp]
    exact nx_of h fun _ z => nomatch z
  | .ot _ _, _, ⟨q, xs, e, h, _⟩, p, hp => by
    subst e
    rw [List.mem_singleton.mp hp]
    exact nx_of h fun _ z => nomatch z
  | .dr, _, ⟨q, e, h⟩, p, hp => by
    subst e
    rw [List.mem_singleton.mp hp]
    obtain ⟨l, ns, i, b, e, h1, _⟩ := h.ex
    exact nx_of h1 fun _ z => nomatch z
  | .on ws as, _, ⟨q, e, h, k⟩, p, hp => by
    subst e
    rcases List.mem_cons.mp hp with z | z
    · rw [z]
      exact nx_of h fun _ z => nomatch z
    · exact ownAs_nx as ws k p z
  | .ob _ _ _ ws as, _, ⟨q, e, h, _, k⟩, p, hp => by
    subst e
    rcases List.mem_cons.mp hp with z | z
    · rw [z]
      exact nx_of h fun _ z => nomatch z
    · exact ownAs_nx as ws k p z
  | .ut ws as, _, ⟨q, e, h, k⟩, p, hp => by
    subst e
    exact ownAs_nx as ws k p hp
  | .un, v, _, p, hp => by cases hp
theorem ownAs_nx : ∀ (as : List AV) (vs : List V), RepAs K U H as vs → ∀ p ∈ ownAs as vs, ∀ fs, H p ≠ some (.xd fs)
  | [], vs, _, p, hp => by cases vs <;> cases hp
  | a :: as, _, ⟨v, r, e, h1, h2⟩, p, hp => by
    subst e
    rcases List.mem_append.mp hp with z | z
    · exact own_nx a v h1 p z
    · exact ownAs_nx as r h2 p z
end
theorem owns_nx : ∀ {ρ : Env} {σ : L2.St}, Paired (RepS K U H) ρ σ → ∀ p ∈ owns ρ σ, ∀ fs, H p ≠ some (.xd fs)
  | _, _, .nil, p, hp => by cases hp
  | _, _, .cons (a := a) (b := b) h t, p, hp => by
    rcases List.mem_append.mp hp with hp | hp
    · cases a with
      | none => cases hp
      | some av =>
        cases b with
        | none => cases hp
        | some v => exact own_nx av v h p hp
    · exact owns_nx t p hp
end
section
variable {c : DC} {U H U' H' : Hp} {σ : L2.St} {ρ ρ' : Env}
def fltO (Q : AV → Prop) : AV → Prop
  | .fz d => fltD d = true ∧ Q (.fz d)
  | .ol ds => ds.all fltD = true ∧ Q (.ol ds)
  | _ => False
theorem flts_r {K : PySem.W.Frag} {U U' : Hp} : ∀ {ds : List D} {vs : List V}, ds.all fltD = true → Rs K U ds vs → Rs K U' ds vs
  | [], _, _, h => h
  | d :: ds, _, f, ⟨v, r, e, h1, h2⟩ => by
    rw [List.all_cons, Bool.and_eq_true] at f
    exact ⟨v, r, e, flt_r f.1 h1, flts_r f.2 h2⟩
def fltX (X : Exn → Prop) (x : Exn) : Prop := x.ns = [] ∧ x.ds = [] ∧ X x
def callFO (A : AF) (ρ : Env) (Q : AV → Prop) (X : Exn → Prop) (as : List Arg) : Prop := match argsF ρ as with
  | some avs => A avs (fltO Q) (fltX X)
  | none => False
def aMeF0 (C : Addr) (m : Str) (A : AF) (i : Nat) (r : AA) : AO := fun ρ Q X => obQ ρ i C fun _ ns _ _ => ns.contains m = false ∧ r ρ (fun as => callFO A ρ Q (fun _ => False) (.slot i :: as)) X
theorem run_spF {A : AF} {as : List Arg} {vs : List V} {Q : AV → Prop} {q : VK} {E : XK} {X : Exn → Prop} (I : DI c U H σ ρ) (r : Paired (ArgR c.K U σ) as vs) (h : callFO A ρ Q X as)
    (k : ∀ U' H' av v, Gr (drs ρ σ) U H U' H' → DI c U' H' σ ρ → RepA c.K U' H' av v → Fresh U' H av v → Q av → q v H')
    (kx : ∀ U' H' x cls o, DI c U' H' σ ρ → XRep c.K U' H' x cls o → X x → E cls o H') : spD c.K c.tb A vs H q E := by
  unfold callFO at h
  split at h
  · rename_i avs ea
    obtain ⟨k1, k2⟩ := argsF_rep I r ea
    have e0 : ownAs avs vs = [] := ownAs_fz k2
    have gr : ∀ {U2 H2 : Hp}, Gr [] (sealU U H (owns ρ σ)) H U2 H2 → Gr [] U H U H2 := fun g2 => ⟨Same.refl U, fun x o e => g2.hh x o (by simp) (fun ps z => I.tbs.2 x ps (by rw [e, z])) (I.vh x o e), g2.hh, g2.dom, fun _ e _ => e, g2.tb, id⟩
    refine ⟨sealU U H (owns ρ σ), avs, _, _, seal_vh I.vh, ⟨I.tbs.1, seal_nt I.tbs.2 I.pl⟩, k1, fun a ha => .inr (k2 a ha), by rw [e0]; exact Nat.zero_le _, h, fun U2 H2 av v g2 r2 n2 _ z2 => ?_, fun U2 H2 ex cls o g2 xr _ z2 => ?_⟩
    · rw [e0] at g2
      have g3 := gr g2
      cases av with
      | fz d =>
        obtain ⟨fd, z3⟩ := z2
        exact k U H2 (.fz d) v g3.any (I.grow g3) (flt_r fd r2) Fresh.fz z3
      | ol ds =>
        obtain ⟨fd, z3⟩ := z2
        obtain ⟨p, xs, rfl, hp, hr⟩ := r2
        have np := n2.out p (List.mem_singleton.mpr rfl)
        exact k U H2 (.ol ds) (.ref p) g3.any (I.grow g3) ⟨p, xs, rfl, hp, flts_r fd hr⟩ (.one rfl (I.vh.free np.2) np.2) z3
      | _ => exact (show False from z2).elim
    · rw [e0] at g2
      have g3 := gr g2
      obtain ⟨e1, e2, z3⟩ := z2
      obtain ⟨rfl, h2⟩ := xr
      rcases h2 with h2 | ⟨dd, xs, rfl, hd, hl, _⟩
      · exact kx U H2 ex _ o (I.grow g3) ⟨rfl, .inl h2⟩ z3
      · rw [e1] at hl hd
        obtain rfl : xs = [] := List.length_eq_zero_iff.mp hl.symm
        have hd' : U2 dd = some (.xd []) := hd
        have fin : ∀ U4, Gr [] U H U4 H2 → U4 dd = some (.xd []) → E (.ref ex.C) (some dd) H2 := fun U4 g4 hu => kx U4 H2 ex _ _ (I.grow g4) ⟨rfl, .inr ⟨dd, [], rfl, by rw [e1]; exact hu, by rw [e1]; rfl, by rw [e2]; rfl⟩⟩ z3
        have hs : ∀ p ∈ owns ρ σ, U p = none := fun p hp => (I.out p hp).1
        cases eU : U dd with
        | some o' =>
          have : U2 dd = some o' := g2.vv _ _ (seal_same hs _ _ eU)
          rw [hd'] at this
          exact fin U g3 (by rw [eU, ← this])
        | none =>
          cases eH : H dd with
          | none => exact fin _ ⟨same_new eU, fun a y e => by
              by_cases z : a = dd
              · subst z
                rw [upd_same] at e
                rw [← e]
                exact g2.vh _ _ hd'
              · rw [upd_ne z] at e
                exact g3.vh _ _ e, g3.hh, g3.dom, fun a e n => by
              by_cases z : a = dd
              · subst z
                exact absurd eH n
              · rw [upd_ne z]
                exact e, g3.tb, fun h => nt_upd (g3.nt h) fun _ z => (by cases z)⟩ upd_same
          | some y =>
            exfalso
            by_cases ho : dd ∈ owns ρ σ
            · have : U2 dd = some y := g2.vv _ _ (by rw [seal_in ho]; exact eH)
              rw [hd'] at this
              exact owns_nx I.rep dd ho [] (by rw [eH, ← this])
            · have := g2.fr dd (by rw [seal_out ho]; exact eU) (by rw [eH]; intro z; cases z)
              rw [hd'] at this
              cases this
  · exact h.elim
theorem sim_meF0 {C : Addr} {m : Str} {A : AF} {i : Nat} {tr : TA} {r : AA} {E : XK} (hr : SimA c tr r) : SimO c (tMeth C m (spD c.K c.tb A) [] E (tVar i) tr) (aMeF0 C m A i r) := fun U H σ ρ Q q I z k => by
  obtain ⟨dx, ns, ws, as, e1, nm, z1⟩ := obQ_of z
  obtain ⟨v0, f1, ⟨p0, rfl, q1, q2, q3⟩, _⟩ := rep_at I.rep i _ e1
  refine ⟨.ref p0, f1, p0, dx, _, rfl, q1, lookup_none nm, hr U H σ ρ _ _ I z1 fun U1 H1 bs vs g1 I1 r1 z2 => ?_⟩
  rw [List.append_nil]
  exact run_spF (X := fun _ => False) I1 (as := .slot i :: bs) (vs := .ref p0 :: vs) (.cons f1 r1) z2 (fun U3 H3 av v g3 I3 r3 n3 z4 => k U3 H3 av v (g1.trans g3) I3 r3 (n3.back fun _ h => g1.fresh h) z4) (fun _ _ _ _ _ _ _ z => z.elim)
theorem sim_meFS0 {C : Addr} {m : Str} {A : AF} {i : Nat} {tr : TA} {r : AA} {E : L2.St → XK} (hr : SimA c tr r) : SimO c (tMeS C m (spD c.K c.tb A) [] E (tVar i) tr) (aMeF0 C m A i r) := fun U H σ ρ Q q I z k => by
  obtain ⟨dx, ns, ws, as, e1, nm, z1⟩ := obQ_of z
  obtain ⟨v0, f1, ⟨p0, rfl, q1, q2, q3⟩, _⟩ := rep_at I.rep i _ e1
  refine ⟨.ref p0, f1, p0, dx, _, rfl, q1, lookup_none nm, hr U H σ ρ _ _ I z1 fun U1 H1 bs vs g1 I1 r1 z2 => ?_⟩
  rw [List.append_nil]
  exact run_spF (X := fun _ => False) I1 (as := .slot i :: bs) (vs := .ref p0 :: vs) (.cons f1 r1) z2 (fun U3 H3 av v g3 I3 r3 n3 z4 => k U3 H3 av v (g1.trans g3) I3 r3 (n3.back fun _ h => g1.fresh h) z4) (fun _ _ _ _ _ _ _ z => z.elim)
end
section
variable {ρ : Env} {nx : Env → Prop} {rt : AV → Env → Prop} {bk ct : Env → Prop} {ex : Exn → Env → Prop} {i m : Nat} {C dx : Addr} {f : Str} {ns : List Str} {ws : List V} {as : List AV} {av : AV}
theorem w_obf {P : Addr → List Str → List V → List AV → Nat → AV → Prop} (h1 : ρ[i]? = some (some (.ob C dx ns ws as))) (h2 : fldIx f ns 0 = some m) (h3 : as[m]? = some av) (q : P dx ns ws as m av) : obfQ ρ i C f P := by
  unfold obfQ obQ
  rw [h1]
  refine ⟨rfl, ?_⟩
  dsimp only
  rw [h2]
  dsimp only
  rw [h3]
  exact q
theorem w_callFO {A : AF} {as : List Arg} {avs : List AV} {Q : AV → Prop} {X : Exn → Prop} (h : argsF ρ as = some avs) (q : A avs (fltO Q) (fltX X)) : callFO A ρ Q X as := by
  unfold callFO
  rw [h]
  exact q
end
end SW
namespace SW
open PySem PySem.Spec PyProof.Rows L2 SWS
end SW
namespace SW
open PySem PySem.Spec PyProof.Rows L2 SWS
variable [QN]
def dropKs : List Key → Key → List Key
  | [], _ => []
  | k :: ks, y => if k = y then dropKs ks y else k :: dropKs ks y
def dropDs : List Key → List D → Key → List D
  | k :: ks, d :: ds, y => if k = y then dropDs ks ds y else d :: dropDs ks ds y
  | _, _, _ => []
theorem drop_r {K : PySem.W.Frag} {U : Hp} : ∀ {ks : List Key} {ds : List D} {xs : List V} {y : Key}, Rs K U ds xs → ks.length = xs.length → ∃ zs, dropK (ks.zip xs) y = (dropKs ks y).zip zs ∧ (dropKs ks y).length = zs.length ∧ Rs K U (dropDs ks ds y) zs
  | [], ds, xs, y, r, l => by
    cases xs with
    | nil => exact ⟨[], rfl, rfl, by unfold dropDs; rfl⟩
    | cons _ _ => cases l
  | k :: ks, [], xs, y, r, l => by
    rw [show xs = [] from r] at l
    cases l
  | k :: ks, d :: ds, xs, y, ⟨v, xs', e, h1, h2⟩, l => by
    subst e
    obtain ⟨zs, i1, i2, i3⟩ := drop_r (ks := ks) (y := y) h2 (Nat.succ.inj l)
    unfold dropKs dropDs
    rw [List.zip_cons_cons]
    unfold dropK at i1 ⊢
    by_cases hk : k = y
    · rw [if_pos hk, if_pos hk, List.filter_cons_of_neg (by simpa using hk)]
      exact ⟨zs, i1, i2, i3⟩
    · rw [if_neg hk, if_neg hk, List.filter_cons_of_pos (by simpa using hk), i1]
      exact ⟨v :: zs, rfl, by rw [List.length_cons, List.length_cons, i2], v, zs, rfl, h1, i3⟩
section
variable {c : DC} {U H : Hp} {σ : L2.St} {ρ : Env}
def aDPopF (i : Nat) (C : Addr) (f : Str) (ky : AE) : AS := fun N ρ => obfQ ρ i C f fun _ _ _ _ _ av => okQ (fun _ _ => ky ρ (fun y => someQ (fun kk => obfQ ρ i C f fun dx ns ws as n av => okQ (fun ks ds => (dval ks ds kk).isSome = true ∧ N.nx (ρ.set i (some (.ob C dx ns ws (as.set n (.ok (dropKs ks kk) (dropDs ks ds kk))))))) av) (keyD y)) (fun x => N.ex x ρ)) av
theorem sim_dPopF {i : Nat} {C : Addr} {f : Str} {tk : TE} {ky : AE} (hc : Cls c.K C) (hn : NoAttr c.K C f) (hk : SimE c tk ky) : SimS c (tDrop (tDPop1 (tFld c.K (tVar i) f) tk)) (aDPopF i C f ky) := fun U H σ ρ N n hx I z P => by
  unfold aDPopF at z
  rw [hx] at z
  obtain ⟨dx, ns, ws, as, m, av, e1, e2, e3, z2⟩ := obfQ_of z
  obtain ⟨ks, ds, rfl, z3⟩ := okQ_of z2
  obtain ⟨v0, f1, ⟨p0, rfl, q1, q2, q3⟩, f6⟩ := rep_at I.rep i _ e1
  obtain ⟨w, w1, w2⟩ := Paired.at' q3.paired m _ e3
  obtain ⟨p, xs, rfl, h1, h2, h3⟩ := w2
  have hl := (fldIx_look (v := .ref p) e2 q2).2 (by rw [Nat.sub_zero]; exact w1)
  refine ⟨.ref p0, f1, p0, C, dx, _, .ref p, rfl, q1, hc, hn, hl, p, rfl, .inl ⟨_, .of h1⟩, hk U H σ ρ _ _ I z3 fun U2 H2 y vy g2 I2 r2 z4 => ?_⟩
  obtain ⟨kk, ek, z4⟩ := someQ_of z4
  have ev := keyD_r ek (.of r2 (H := H2))
  subst ev
  obtain ⟨dx', ns', ws', as', m', av', a1, a2, a3, z5⟩ := obfQ_of z4
  rw [e1] at a1
  cases a1
  rw [e2] at a2
  cases a2
  rw [e3] at a3
  cases a3
  obtain ⟨ks', ds', ee, z6, z7⟩ := okQ_of z5
  cases ee
  obtain ⟨v1, f1', ⟨p0', k0, q1', q2', q3'⟩, f6'⟩ := rep_at I2.rep i _ e1
  rw [f1] at f1'
  cases f1'
  cases k0
  obtain ⟨p', xs', k1, h1', h2', h3'⟩ := RepAs.at q3' _ _ _ e3 w1
  cases k1
  obtain ⟨i1, i2⟩ := dval_r (y := kk) h3' h2'
  obtain ⟨dd, ed⟩ := Option.isSome_iff_exists.mp z6
  obtain ⟨vv, ev, _⟩ := i2 dd ed
  obtain ⟨zs, j1, j2, j3⟩ := drop_r (y := kk) h3' h2'
  have nd := own_nd I2.nd e1 f1
  obtain ⟨np0, nd2⟩ := List.nodup_cons.mp (show (p0 :: ownAs as ws).Nodup from nd)
  have pin : p ∈ ownAs as ws := ownAs_at e3 w1 p (List.mem_singleton.mpr rfl)
  have p0p : p0 ≠ p := fun z => np0 (z ▸ pin)
  have eo : ownAs (as.set m (.ok (dropKs ks kk) (dropDs ks ds kk))) ws = ownAs as ws := ownAs_set e3 w1 rfl
  have hu : ∀ q ∈ ownAs as ws, U2 q = none := fun q hq => (I2.out q (f6' q (List.mem_cons_of_mem _ hq))).1
  refine ⟨_, kk, vv, h1', rfl, ev, P.nx U2 _ σ _ g2.vv (I2.swap (b := .ob C dx ns ws as) (b' := .ob C dx ns ws (as.set m (.ok (dropKs ks kk) (dropDs ks ds kk)))) e1 f1 .here ⟨p0, rfl, (upd_ne p0p).trans q1', q2', repAs_set q3' e3 w1 ⟨p, zs, rfl, by rw [upd_same, j1], j2, j3⟩ nd2 (fun q hq => upd_ne fun z => hq (by rw [z]; exact List.mem_singleton.mpr rfl)) hu⟩ (by show p0 :: _ = p0 :: _; rw [eo]) rfl (fun x hx' => upd_ne fun z => hx' (by rw [z]; exact List.mem_cons_of_mem _ pin)) (fun x hx' => ?_)) z7⟩
  by_cases z : x = p
  · rw [z, upd_same]; intro z; cases z
  · rw [upd_ne z]
    exact I2.ex x (f6' x hx')
end
end SW
namespace SW
open PySem PySem.Spec PyProof.Rows L2 SWS
variable [QN]
structure IsiN (K : PySem.W.Frag) (C : Addr) : Prop where
  st : PySem.W.kitCls K (.type "int") (.ref C) = some false
  ss : PySem.W.subIn K (.type "int") (.ref C) = some false
section
variable {c : DC} {U H : Hp} {σ : L2.St} {ρ : Env}
def lenAV (Q : D → Prop) : AV → Prop
  | .fz (.int n) => (0 ≤ n ∧ n < 2 ^ 63) ∧ Q (.int n)
  | _ => False
def aLenF (C : Addr) (A : AF) (i : Nat) : AE := fun ρ Q _ => obQ ρ i C fun _ _ _ _ => callFO A ρ (lenAV Q) (fun _ => False) [.slot i]
theorem sim_lenF {C : Addr} {A : AF} {i : Nat} {E : XK} : SimE c (tCB (rLenOwn C (spD c.K c.tb A) E) (tCons (tVar i) tNil)) (aLenF C A i) := fun U H σ ρ Q q I z k => by
  obtain ⟨dx, ns, ws, as, e1, z1⟩ := obQ_of z
  obtain ⟨v0, f1, ⟨p0, rfl, q1, _⟩, _⟩ := rep_at I.rep i _ e1
  refine ⟨.ref p0, f1, p0, dx, _, rfl, q1, ?_⟩
  refine run_spF (X := fun _ => False) I (as := [.slot i]) (.cons f1 .nil) z1 (fun U3 H3 av v g3 I3 r3 n3 z4 => ?_) (fun _ _ _ _ _ _ _ z => z.elim)
  cases av with
  | fz y =>
    cases y with
    | int n => exact ⟨n, r3, z4.1, by rw [show v = .int n from r3] at *; exact k U3 H3 (.int n) _ g3 I3 rfl z4.2⟩
    | _ => exact z4.elim
  | _ => exact z4.elim
end
end SW
namespace SW
open PySem PySem.Spec PyProof.Rows L2 SWS
variable [QN]
section
variable {c : DC} {U H : Hp} {σ : L2.St} {ρ : Env}
def mMeD (C : Addr) (m : Str) (A : AFM) (ns0 : List Int) (i : Nat) (r : AL) : AMO := fun ρ Q X => obQ ρ i C fun _ ns _ _ => ns.contains m = false ∧ r ρ (fun ds => callM A ρ Q X (.slot i :: (ds.map .val ++ ns0.map fun a => .val (.int a)))) (fun x => X x ρ)
theorem simM_meD {C : Addr} {m : Str} {A : AFM} {ns0 : List Int} {dvs : List V} {i : Nat} {tr : TA} {r : AL} {E : L2.St → XK} (hE : ∀ σ, E σ = c.E σ) (hd : dvs = ns0.map V.int) (hr : SimL c tr r) : SimMO c (tMeS C m (spM c.K c.tb A) dvs E (tVar i) tr) (mMeD C m A ns0 i r) := fun U H σ ρ Q q I z k => by
  obtain ⟨dx, ns, ws, as, e1, nm, z1⟩ := obQ_of z
  obtain ⟨v0, f1, ⟨p0, rfl, q1, q2, q3⟩, _⟩ := rep_at I.rep i _ e1
  refine ⟨.ref p0, f1, p0, dx, _, rfl, q1, lookup_none nm, hr U H σ ρ _ _ I z1 fun U1 H1 ds vs g1 I1 r1 z2 => ?_⟩
  rw [hd]
  exact run_spM I1 (as := .slot i :: (ds.map .val ++ ns0.map fun a => .val (.int a))) (vs := .ref p0 :: (vs ++ ns0.map V.int)) (.cons f1 (Paired.app (rs_args r1) (ints_args ns0))) z2 (fun U2 H2 ρ2 av v g2 I2 o2 r2 n2 d2 z3 => k U2 H2 ρ2 av v ((g1.weak drs_sub).trans g2) I2 (OldNew.trans g1 .refl o2) r2 (n2.back fun _ h => g1.fresh h) d2 z3) (fun U3 H3 ρ3 x cls o I3 xr z => by rw [hE]; exact I3.raise xr z)
end
section
variable {ρ : Env} {C dx : Addr} {ns : List Str} {ws : List V} {as : List AV} {A : AFM} {i n mm : Nat} {mn : Str} {arr : List KA} {ra rk : AL} {ns0 : List Int} {O : AV → Env → Prop} {X : Exn → Env → Prop}
theorem m_meD (h1 : ρ[i]? = some (some (.ob C dx ns ws as))) (h2 : ns.contains mn = false) (q : ra ρ (fun ds => callM A ρ O X (.slot i :: (ds.map .val ++ ns0.map fun a => .val (.int a)))) (fun x => X x ρ)) : mMeD C mn A ns0 i ra ρ O X := w_obQ h1 ⟨h2, q⟩
end
end SW
namespace SW
open PySem PySem.Spec PyProof.Rows L2 SWS
variable [QN]
section
variable {c : DC} {U H : Hp} {σ : L2.St} {ρ : Env}
def mMeM (C : Addr) (m : Str) (A : AFM) (i : Nat) (r : AML) : AMO := fun ρ Q X => obQ ρ i C fun _ ns _ _ => ns.contains m = false ∧ r ρ (fun ds ρ1 => (∃ a, ρ1[i]? = some (some a)) ∧ callM A ρ1 Q X (.slot i :: ds.map .val)) X
theorem simM_meM {C : Addr} {m : Str} {A : AFM} {i : Nat} {tr : TA} {r : AML} {E : L2.St → XK} (hE : ∀ σ, E σ = c.E σ) (hr : SimML c tr r) : SimMO c (tMeS C m (spM c.K c.tb A) [] E (tVar i) tr) (mMeM C m A i r) := fun U H σ ρ Q q I z k => by
  obtain ⟨dx, ns, ws, as, e1, nm, z1⟩ := obQ_of z
  obtain ⟨v0, f1, ⟨p0, rfl, q1, q2, q3⟩, _⟩ := rep_at I.rep i _ e1
  refine ⟨.ref p0, f1, p0, dx, _, rfl, q1, lookup_none nm, hr U H σ ρ _ _ I z1 fun U1 H1 ρ1 ds vs g1 I1 o1 r1 z2 => ?_⟩
  rw [List.append_nil]
  exact run_spM I1 (as := .slot i :: ds.map .val) (vs := .ref p0 :: vs) (.cons f1 (rs_args r1)) z2.2 (fun U2 H2 ρ2 av v g2 I2 o2 r2 n2 d2 z3 => k U2 H2 ρ2 av v (g1.comp g2 o1) I2 (o1.trans g1 o2) r2 (n2.back fun _ h => g1.fresh h) d2 z3) (fun U2 H2 ρ2 x cls o I2 xr z => by rw [hE]; exact I2.raise xr z)
def mMeNM0 (C : Addr) (m : Str) (n mm : Nat) (A : AFM) (arr : List KA) (i : Nat) (r : AML) (rk : AL) : AMO := fun ρ Q X => obQ ρ i C fun _ ns _ _ => ns.contains m = false ∧ r ρ (fun ds ρ1 => rk ρ1 (fun es => ds.length = n ∧ es.length = mm ∧ arr.all (kaOk mm) = true ∧ callM A ρ1 Q (fun _ _ => False) (.slot i :: (ds.map .val ++ arr.map fun a => .val (kaD es a)))) (fun x => X x ρ1)) X
theorem simM_meNM0 {C : Addr} {m : Str} {n mm mm' : Nat} {A : AFM} {arr : List KA} {i : Nat} {tr tk : TA} {r : AML} {rk : AL} {E : L2.St → XK} {gV : List V → List V → List V} (hm : mm' = mm) (hg : ∀ vs zs : List V, zs.length = mm → gV vs zs = vs ++ arr.map (kaV zs)) (hr : SimML c tr r) (hk : SimL c tk rk) : SimMO c (tMeNS C m n mm' (spM c.K c.tb A) gV E (tVar i) tr tk) (mMeNM0 C m n mm A arr i r rk) := fun U H σ ρ Q q I z k => by
  obtain ⟨dx, ns, ws, as, e1, nm, z1⟩ := obQ_of z
  obtain ⟨v0, f1, ⟨p0, rfl, q1, q2, q3⟩, _⟩ := rep_at I.rep i _ e1
  refine ⟨.ref p0, f1, p0, dx, _, rfl, q1, lookup_none nm, hr U H σ ρ _ _ I z1 fun U1 H1 ρ1 ds vs g1 I1 o1 r1 z2 => hk U1 H1 σ ρ1 _ _ I1 z2 fun U2 H2 es zs g2 I2 r2 z3 => ?_⟩
  obtain ⟨l1, l2, ha, z4⟩ := z3
  have lz : zs.length = mm := by rw [← r2.len]; exact l2
  refine ⟨by rw [← r1.len]; exact l1, lz.trans hm.symm, ?_⟩
  rw [hg _ _ lz]
  have g12 := g1.comp (g2.weak drs_sub) o1
  exact run_spM I2 (as := .slot i :: (ds.map .val ++ arr.map fun a => .val (kaD es a))) (vs := .ref p0 :: (vs ++ arr.map (kaV zs))) (.cons f1 (Paired.app (rs_args (Rs.mono g2.vv _ _ r1)) (kas_args r2 (by rw [lz]; exact ha)))) z4 (fun U3 H3 ρ3 av v g3 I3 o3 r3 n3 d3 z5 => k U3 H3 ρ3 av v (g12.comp g3 o1) I3 (o1.trans g12 o3) r3 (n3.back fun _ h => g12.fresh h) d3 z5) (fun _ _ _ _ _ _ _ _ z => z.elim)
abbrev AMI := Env → (List D → Env → Prop) → (Exn → Env → Prop) → Prop
def SimMI (c : DC) (wi : TI) (a : AMI) : Prop := ∀ (U H : Hp) (σ : L2.St) (ρ : Env) (Q : List D → Env → Prop) (q : It → Hp → Prop), DI c U H σ ρ → a ρ Q (fun x ρ => c.x ρ x) →
  (∀ U' H' ρ' J ds, Same U U' → DI c U' H' σ ρ' → Walks c.K U' J ds (fun H'' => Same U' H'') → Q ds ρ' → q J H') → wi σ H q
def mItL (m : AM) : AMI := fun ρ Q X => m ρ (fun d ρ1 => lstQ (fun ds => Q ds ρ1) d) X
theorem sim_mItL {te : TE} {m : AM} (h : SimM c te m) : SimMI c (iList c.K te) (mItL m) := fun U H σ ρ Q q I z k => h U H σ ρ _ _ I z fun U1 H1 ρ1 d v g1 I1 o1 r1 z1 => by
  obtain ⟨ds, rfl, z2⟩ := lstQ_of z1
  obtain ⟨p, xs, rfl, hp, hr⟩ := r1
  refine ⟨p, rfl, ⟨xs, SqL.of (I1.vh _ _ hp)⟩, k U1 H1 ρ1 _ ds g1.vv I1 ⟨YAt xs, ?_, fun i H x H' d U2 s s2 y e => yat hr s s2 y e⟩ z2⟩
  rw [hr.len]
  exact walk_list.mono (fun H s => SqL.of (s _ _ hp)) (fun _ _ _ _ _ _ y => y)
def mFor (it : AMI) (ag : AG) (sa : AS) : AS := fun N ρ => it ρ (fun ds ρ1 => aLoop ag sa N ds ρ1) N.ex
theorem sim_mFor {js : List Nat} {wi : TI} {it : AMI} {g : TG} {ag : AG} {st : TS} {sa : AS} (hi : SimMI c wi it) (hg : SimG c js g ag) (hb : SimS c st sa) : SimS c (tFor wi g st) (mFor it ag sa) := fun U H σ ρ N n hx I z P => by
  unfold mFor at z
  rw [hx] at z
  refine hi U H σ ρ _ _ I z fun U1 H1 ρ1 J ds s0 I1 W z1 => ?_
  obtain ⟨Y, w, hY⟩ := W
  refine for_it w (fun k σ' H' => ∃ U' ρ', Same U1 U' ∧ DI c U' H' σ' ρ' ∧ aLoop ag sa N (ds.drop k) ρ') ⟨U1, ρ1, Same.refl U1, I1, z1⟩ (fun k σ' H' _ ⟨U', ρ', s, I', _⟩ => s.trans I'.vh) ?_ ?_
  · rintro k x σ' H' H'' hk ⟨U', ρ', s, I', z2⟩ hy
    have ed : ds[k]? = some ds[k] := List.getElem?_eq_getElem hk
    obtain ⟨U3, g3, r3⟩ := hY k H' x H'' _ U' s I'.vh hy ed
    rw [drop_at ed] at z2
    have I3 := I'.grow g3
    have s3 := s.trans g3.vv
    refine hg U3 H'' σ' ρ' _ x _ _ I3 r3 z2 fun σ4 ρ4 I4 _ z4 => ?_
    exact hb U3 H'' σ4 ρ4 ⟨aLoop ag sa N (ds.drop (k + 1)), N.rt, N.nx, aLoop ag sa N (ds.drop (k + 1)), N.ex⟩ _ hx I4 z4
      ⟨fun U5 H5 σ5 ρ5 s5 I5 z5 => ⟨U5, ρ5, s3.trans s5, I5, z5⟩, P.rt, fun U5 H5 σ5 ρ5 s5 I5 z5 => P.nx U5 H5 σ5 ρ5 (s0.trans (s3.trans s5)) I5 z5, fun U5 H5 σ5 ρ5 s5 I5 z5 => ⟨U5, ρ5, s3.trans s5, I5, z5⟩⟩
  · rintro σ' H' ⟨U', ρ', s, I', z2⟩
    rw [List.drop_length] at z2
    exact P.nx U' H' σ' ρ' (s0.trans s) I' z2
end
def oStr : List D → (D → Prop) → Prop := fun ds Q => oneQ (intQ fun i => i.natAbs.log2 < 1920 ∧ Q (.str (toString i))) ds
theorem bu_str {K : PySem.W.Frag} : BuD K (fun xs H Q => ∃ i, xs = [.int i] ∧ i.natAbs.log2 < 1920 ∧ Q (.str (toString i)) H) oStr := fun U H vs ds Q q s r z k => by
  obtain ⟨d, rfl, z0⟩ := oneQ_of z
  obtain ⟨i, rfl, h1, z1⟩ := intQ_of z0
  obtain ⟨v, rfl, cd⟩ := paired1 r
  rw [cd.int]
  exact ⟨i, rfl, h1, k U H (.str _) _ (Gr.refl s) rfl z1⟩
theorem w_str {i : Int} {Q : D → Prop} (h : i.natAbs.log2 < 1920) (q : Q (.str (toString i))) : oStr [.int i] Q := ⟨h, q⟩
section
variable {ρ : Env} {C dx : Addr} {ns : List Str} {ws : List V} {as : List AV} {A : AFM} {i n mm : Nat} {mn : Str} {arr : List KA} {ra : AML} {rk : AL} {O : AV → Env → Prop} {X : Exn → Env → Prop}
theorem m_meM (h1 : ρ[i]? = some (some (.ob C dx ns ws as))) (h2 : ns.contains mn = false) (q : ra ρ (fun ds ρ1 => (∃ a, ρ1[i]? = some (some a)) ∧ callM A ρ1 O X (.slot i :: ds.map .val)) X) : mMeM C mn A i ra ρ O X := w_obQ h1 ⟨h2, q⟩
theorem m_meNM0 (h1 : ρ[i]? = some (some (.ob C dx ns ws as))) (h2 : ns.contains mn = false) (q : ra ρ (fun ds ρ1 => rk ρ1 (fun es => ds.length = n ∧ es.length = mm ∧ arr.all (kaOk mm) = true ∧ callM A ρ1 O (fun _ _ => False) (.slot i :: (ds.map .val ++ arr.map fun a => .val (kaD es a)))) (fun x => X x ρ1)) X) : mMeNM0 C mn n mm A arr i ra rk ρ O X := w_obQ h1 ⟨h2, q⟩
theorem m_for {it : AMI} {ag : AG} {sa : AS} {nx bk ct : Env → Prop} {rt : AV → Env → Prop} {ex : Exn → Env → Prop} (q : it ρ (fun ds ρ1 => aLoop ag sa ⟨nx, rt, bk, ct, ex⟩ ds ρ1) ex) : mFor it ag sa ⟨nx, rt, bk, ct, ex⟩ ρ := q
theorem m_itL {m : AM} {L : List D → Env → Prop} (q : m ρ (fun d ρ1 => lstQ (fun ds => L ds ρ1) d) X) : mItL m ρ L X := q
end
section
variable {c : DC} {U H : Hp} {σ : L2.St} {ρ : Env}
def mCallW (A : AFM) (i0 i k j : Nat) (e : AE) : AMO := fun ρ Q X => i ≠ i0 ∧ j ≠ i0 ∧ ρ[j]? = some (some .dr) ∧ ∃ a0, ρ[i0]? = some (some a0) ∧ utQ ρ i k fun ws as ds => e ρ (fun d => A [a0, .ol ds, .dr, .fz d] (fun av avs' => ∃ a1 ds', avs' = [a1, .ol ds', .dr, .fz d] ∧ Q av ((ρ.set i (some (.ut ws (as.set k (.ol ds'))))).set i0 (some a1))) (fun _ _ => False)) (fun x => X x ρ)
theorem run_callW {A : AFM} {i0 i k j : Nat} {a0 : AV} {v0 : V} {d : D} {vd : V} {s p pi : Addr} {ws : List V} {as : List AV} {ds : List D} {Q : AV → Env → Prop} {q : VK} {E : XK} (I : DI c U H σ ρ) (i00 : i ≠ i0) (j0 : j ≠ i0) (e0 : ρ[i0]? = some (some a0)) (s0 : σ[i0]? = some (some v0)) (ej : ρ[j]? = some (some .dr)) (sj : σ[j]? = some (some (.ref s)))
    (ei : ρ[i]? = some (some (.ut ws as))) (si : σ[i]? = some (some (.ref pi))) (ek : as[k]? = some (.ol ds)) (ew : ws[k]? = some (.ref p)) (rd : R c.K U d vd)
    (z : A [a0, .ol ds, .dr, .fz d] (fun av avs' => ∃ a1 ds', avs' = [a1, .ol ds', .dr, .fz d] ∧ Q av ((ρ.set i (some (.ut ws (as.set k (.ol ds'))))).set i0 (some a1))) (fun _ _ => False))
    (kk : ∀ U' H' ρ' av v, Gr (owns ρ σ) U H U' H' → DI c U' H' σ ρ' → OldNew H ρ ρ' σ → RepA c.K U' H' av v → Fresh U' H av v → (∀ p ∈ own av v, p ∉ owns ρ' σ) → Q av ρ' → q v H') : spM c.K c.tb A [v0, .ref p, .ref s, vd] H q E := by
  obtain ⟨v0', s0', r0, m0⟩ := rep_at I.rep i0 _ e0
  rw [s0] at s0'
  cases s0'
  obtain ⟨vj, sj', rj, mj⟩ := rep_at I.rep j _ ej
  rw [sj] at sj'
  cases sj'
  obtain ⟨s', es, Ds⟩ := rj
  cases es
  obtain ⟨vi, si', ri, mi⟩ := rep_at I.rep i _ ei
  rw [si] at si'
  cases si'
  obtain ⟨pi', epi, sq, ras⟩ := ri
  cases epi
  obtain ⟨w, ew', rw0⟩ := Paired.at' ras.paired k _ ek
  rw [ew] at ew'
  cases ew'
  obtain ⟨nd1, nd2⟩ := ownK_nodup.mp I.nd
  have o0 : ownK ρ σ i0 = own a0 v0 := by unfold ownK; rw [e0, s0]; rfl
  have oi : ownK ρ σ i = ownAs as ws := by unfold ownK; rw [ei, si]; rfl
  have oj : ownK ρ σ j = [s] := by unfold ownK; rw [ej, sj]; rfl
  have ij : i ≠ j := fun z => by
    rw [z, ej] at ei
    cases ei
  have pin : p ∈ ownAs as ws := ownAs_at ek ew p (List.mem_singleton.mpr rfl)
  have sp : p ≠ s := fun z => nd2 i j p ij (by rw [oi]; exact pin) (by rw [oj, z]; exact List.mem_singleton.mpr rfl)
  have nd0 : (own a0 v0).Nodup := by rw [← o0]; exact nd1 i0
  have ndi : (ownAs as ws).Nodup := by rw [← oi]; exact nd1 i
  have x0i : ∀ q ∈ own a0 v0, q ∉ ownAs as ws := fun q h1 h2 => nd2 i0 i q (fun z => i00 z.symm) (by rw [o0]; exact h1) (by rw [oi]; exact h2)
  have x0j : ∀ q ∈ own a0 v0, q ≠ s := fun q h1 h2 => nd2 i0 j q (fun z => j0 z.symm) (by rw [o0]; exact h1) (by rw [oj, h2]; exact List.mem_singleton.mpr rfl)
  have xij : ∀ q ∈ ownAs as ws, q ≠ s := fun q h1 h2 => nd2 i j q ij (by rw [oi]; exact h1) (by rw [oj, h2]; exact List.mem_singleton.mpr rfl)
  have nfz : own (.fz d) vd = [] := by cases vd <;> rfl
  have eo : ∀ (a : AV) (es : List D), ownAs [a, .ol es, .dr, .fz d] [v0, .ref p, .ref s, vd] = own a v0 ++ [p, s] := fun a es => by
    show own a v0 ++ ([p] ++ ([s] ++ (own (.fz d) vd ++ []))) = _
    rw [nfz]
    rfl
  refine ⟨U, [a0, .ol ds, .dr, .fz d], _, _, I.vh, I.tbs, .cons r0 (.cons rw0 (.cons ⟨s, rfl, Ds⟩ (.cons rd .nil))), ?_, fun q hq => ?_, z, fun U' H' av v avs' g r nd' hf r2 n2 u2 kd per z2 => ?_, fun U' H' ex cls o avs' g xr r2 n2 u2 kd per z2 => z2.elim⟩
  · rw [eo]
    refine List.nodup_append.mpr ⟨nd0, by simp [sp], fun a ha b hb z => ?_⟩
    subst z
    rcases List.mem_cons.mp hb with rfl | hb
    · exact x0i _ ha pin
    · exact x0j _ ha (List.mem_singleton.mp hb)
  · rw [eo] at hq
    rcases List.mem_append.mp hq with hq | hq
    · exact (I.out q (m0 q hq)).1
    · rcases List.mem_cons.mp hq with rfl | hq
      · exact (I.out _ (mi _ pin)).1
      · rw [List.mem_singleton.mp hq]
        exact (I.out s (mj s (List.mem_singleton.mpr rfl))).1
  · obtain ⟨a1, ds', rfl, z3⟩ := z2
    rw [eo] at g n2 u2
    have hf' : ∀ q ∈ own av v, q ∉ own a1 v0 ++ [p, s] := fun q hq => by have := (hf q hq).2.2; rwa [eo] at this
    have per1 : ∀ q ∈ own a1 v0, q ∈ own a0 v0 ∨ H q = none := per.1
    have kd1 : a1.kind = a0.kind := (List.cons.inj kd).1
    cases r2 with
    | cons ra rt =>
    cases rt with
    | cons rb rt =>
    cases rt with
    | cons rc _ =>
    obtain ⟨s', e1, Ds'⟩ := rc
    cases e1
    have eo' := ownAs_set ek ew (show own (.ol ds') (.ref p) = own (.ol ds) (.ref p) from rfl)
    have li : i < ρ.length := (List.getElem?_eq_some_iff.mp ei).1
    have l0 : i0 < ρ.length := (List.getElem?_eq_some_iff.mp e0).1
    generalize hρ : (ρ.set i (some (.ut ws (as.set k (.ol ds'))))).set i0 (some a1) = ρ2 at z3
    have en0 : ρ2[i0]? = some (some a1) := by rw [← hρ]; exact List.getElem?_set_self (by rw [List.length_set]; exact l0)
    have en : ρ2[i]? = some (some (.ut ws (as.set k (.ol ds')))) := by rw [← hρ, List.getElem?_set_ne fun z => i00 z.symm]; exact List.getElem?_set_self li
    have enj : ρ2[j]? = some (some .dr) := by rw [← hρ, List.getElem?_set_ne fun z => j0 z.symm, List.getElem?_set_ne ij]; exact ej
    have keep : ∀ l, l ≠ i0 → l ≠ i → ρ2[l]? = ρ[l]? := fun l h1 h2 => by rw [← hρ, List.getElem?_set_ne fun z => h1 z.symm, List.getElem?_set_ne fun z => h2 z.symm]
    have k0 : ownK ρ2 σ i0 = own a1 v0 := by unfold ownK; rw [en0, s0]; rfl
    have k1 : ownK ρ2 σ i = ownAs as ws := by unfold ownK; rw [en, si]; exact eo'
    have k2 : ownK ρ2 σ j = [s] := by unfold ownK; rw [enj, sj]; rfl
    have exi : ∀ q ∈ ownAs as ws, H q ≠ none := fun q hq => I.ex q (mi q hq)
    have exs : H s ≠ none := I.ex s (mj s (List.mem_singleton.mpr rfl))
    have u' : ∀ q, q ∈ ownAs as ws → U' q = none := fun q hq => g.fr q (I.out q (mi q hq)).1 (exi q hq)
    have us : U' s = none := g.fr s (I.out s (mj s (List.mem_singleton.mpr rfl))).1 exs
    have hk : ∀ q ∈ ownAs as ws, q ∉ own (.ol ds) (.ref p) → H' q = H q ∧ U' q = none := fun q hq hn => ⟨keep_at g (I.pl q (mi q hq)) (fun zz => by
      rcases List.mem_append.mp zz with zz | zz
      · exact x0i q zz hq
      · rcases List.mem_cons.mp zz with zz | zz
        · exact hn (by rw [zz]; exact List.mem_singleton.mpr rfl)
        · exact xij q hq (List.mem_singleton.mp zz)), u' q hq⟩
    have new0 : ∀ q ∈ own a1 v0, q ∉ ownAs as ws ∧ q ≠ s := fun q hq => by
      rcases per1 q hq with h | h
      · exact ⟨x0i q h, x0j q h⟩
      · exact ⟨fun z => exi q z h, fun z => exs (z ▸ h)⟩
    have sub : ∀ q ∈ own a0 v0 ++ [p, s], q ∈ owns ρ σ := fun q hq => by
      rcases List.mem_append.mp hq with hq | hq
      · exact m0 q hq
      · rcases List.mem_cons.mp hq with rfl | hq
        · exact mi _ pin
        · rw [List.mem_singleton.mp hq]; exact mj s (List.mem_singleton.mpr rfl)
    have J : ∀ l, (l == i0 || l == i || l == j) = true → l = i0 ∨ l = i ∨ l = j := fun l h => by simpa [or_assoc] using h
    have I' : DI c U' H' σ ρ2 := by
      refine I.multi (M := own a0 v0 ++ [p, s]) (fun l => l == i0 || l == i || l == j) g (by rw [← hρ, List.length_set, List.length_set]) (fun l hl => ?_) (fun l hl => ?_) (fun q hq => ?_) (fun l q hl hq => ?_) (fun l l' q hne h1 h2 hq hq' => ?_)
      · have hl' : (l ≠ i0 ∧ l ≠ i) ∧ l ≠ j := by simpa using hl
        exact keep l hl'.1.1 hl'.1.2
      · rcases J l hl with rfl | rfl | rfl
        · exact ⟨a0, a1, v0, e0, en0, s0, kd1, ra, (List.nodup_append.mp n2).1⟩
        · exact ⟨_, _, .ref pi, ei, en, si, rfl, ⟨pi, rfl, Same.tup g.vv sq, repAs_setG g.vv ras ek ew rb ndi hk⟩, by show (ownAs (as.set k (.ol ds')) ws).Nodup; rw [eo']; exact ndi⟩
        · exact ⟨.dr, .dr, .ref s, ej, enj, sj, rfl, ⟨s, rfl, Ds'⟩, by show [s].Nodup; simp⟩
      · rcases List.mem_append.mp hq with hq | hq
        · exact ⟨i0, by simp, by rw [o0]; exact hq⟩
        · rcases List.mem_cons.mp hq with rfl | hq
          · exact ⟨i, by simp, by rw [oi]; exact pin⟩
          · rw [List.mem_singleton.mp hq]
            exact ⟨j, by simp, by rw [oj]; exact List.mem_singleton.mpr rfl⟩
      · rcases J l hl with rfl | rfl | rfl
        · rw [k0] at hq
          refine ⟨u2 q (List.mem_append_left _ hq), ?_⟩
          rw [o0]
          exact per1 q hq
        · rw [k1] at hq
          exact ⟨u' q hq, .inl (by rw [oi]; exact hq)⟩
        · rw [k2] at hq
          rw [List.mem_singleton.mp hq]
          exact ⟨us, .inl (by rw [oj]; exact List.mem_singleton.mpr rfl)⟩
      · rcases J l h1 with rfl | rfl | rfl
        · rw [k0] at hq
          rcases J l' h2 with rfl | rfl | rfl
          · exact hne rfl
          · rw [k1] at hq'
            exact (new0 q hq).1 hq'
          · rw [k2] at hq'
            exact (new0 q hq).2 (List.mem_singleton.mp hq')
        · rw [k1] at hq
          rcases J l' h2 with rfl | rfl | rfl
          · rw [k0] at hq'
            exact (new0 q hq').1 hq
          · exact hne rfl
          · rw [k2] at hq'
            exact xij q hq (List.mem_singleton.mp hq')
        · rw [k2] at hq
          rcases J l' h2 with rfl | rfl | rfl
          · rw [k0] at hq'
            exact (new0 q hq').2 (List.mem_singleton.mp hq)
          · rw [k1] at hq'
            exact xij q hq' (List.mem_singleton.mp hq)
          · exact hne rfl
    have cases2 : ∀ q ∈ owns ρ2 σ, q ∈ own a1 v0 ∨ q ∈ owns ρ σ := fun q hq => by
      obtain ⟨l, hl⟩ := ownK_mem.mp hq
      by_cases h0 : l = i0
      · rw [h0, k0] at hl
        exact .inl hl
      · by_cases h1 : l = i
        · rw [h1, k1] at hl
          exact .inr (mi q hl)
        · refine .inr (ownK_mem.mpr ⟨l, ?_⟩)
          unfold ownK at hl ⊢
          rw [keep l h0 h1] at hl
          exact hl
    refine kk U' H' _ av v (g.weak sub) I' (fun q hq => ?_) r ⟨nd', fun q hq => ⟨(hf q hq).1, (hf q hq).2.1⟩⟩ (fun q hq hz => ?_) z3
    · rcases cases2 q hq with y | y
      · exact (per1 q y).imp (m0 q) id
      · exact .inl y
    · rcases cases2 q hz with y | y
      · exact hf' q hq (List.mem_append_left _ y)
      · exact I.ex q y (hf q hq).2.1
theorem simM_callW {A : AFM} {i0 i k j : Nat} {te : TE} {e : AE} {E : XK} (he : SimE c te e) : SimMO c (tCall (spM c.K c.tb A) [] E (tCons (tVar i0) (tCons (tOp (rIxT c.K) (tVar i) (tC (.int (k : Nat)))) (tCons (tVar j) (tCons te tNil))))) (mCallW A i0 i k j e) := fun U H σ ρ Q q I z kk => by
  obtain ⟨i00, j0, ej, a0, e0, z⟩ := z
  obtain ⟨ws, as, ds, ei, ek, z⟩ := utQ_of z
  obtain ⟨v0, s0, _, _⟩ := rep_at I.rep i0 _ e0
  obtain ⟨vj, sj, ⟨s, rfl, _⟩, _⟩ := rep_at I.rep j _ ej
  obtain ⟨vi, si, ⟨pi, rfl, sq, ras⟩, _⟩ := rep_at I.rep i _ ei
  obtain ⟨w, ew, ⟨p, xs, rfl, _, _⟩⟩ := Paired.at' ras.paired k _ ek
  refine ⟨v0, s0, .ref pi, si, pi, ws, _, .ref p, rfl, rfl, Same.tup I.vh sq, L2.atI_nat ew, .ref s, sj, he U H σ ρ _ _ I z fun U1 H1 d v g1 I1 r1 z1 => ?_⟩
  exact run_callW I1 i00 j0 e0 s0 ej sj ei si ek ew r1 z1 fun U2 H2 ρ2 av v g2 I2 o2 r2 n2 d2 z2 => kk U2 H2 ρ2 av v ((g1.weak drs_sub).trans g2) I2 (OldNew.trans g1 .refl o2) r2 (n2.back fun _ h => g1.fresh h) d2 z2
theorem w_callW {A : AFM} {i0 i k j : Nat} {e : AE} {a0 : AV} {ws : List V} {as : List AV} {ds : List D} {Q : AV → Env → Prop} {X : Exn → Env → Prop} (h1 : i ≠ i0) (h2 : j ≠ i0) (h3 : ρ[j]? = some (some .dr)) (h4 : ρ[i0]? = some (some a0)) (h5 : ρ[i]? = some (some (.ut ws as))) (h6 : as[k]? = some (.ol ds))
    (q : e ρ (fun d => A [a0, .ol ds, .dr, .fz d] (fun av avs' => ∃ a1 ds', avs' = [a1, .ol ds', .dr, .fz d] ∧ Q av ((ρ.set i (some (.ut ws (as.set k (.ol ds'))))).set i0 (some a1))) (fun _ _ => False)) (fun x => X x ρ)) : mCallW A i0 i k j e ρ Q X := by
  refine ⟨h1, h2, h3, a0, h4, ?_⟩
  unfold utQ
  rw [h5]
  dsimp only
  rw [h6]
  exact q
end
theorem pe_bmK {X : Cx} {K : PySem.W.Frag} {e : Expr} {T : String} {r : V → List V → Hp → VK → Prop} {to : TE} {t : TA} (h : X.K = K) (p : PE X e (tBM X.K T r to t)) : PE X e (tBM K T r to t) := by subst h; exact p
section
variable {c : DC} {U H : Hp} {σ : L2.St} {ρ : Env}
def fltX2 (X : Exn → Prop) (x : Exn) : Prop := x.ds.all fltD = true ∧ X x
def callFX (A : AF) (ρ : Env) (Q : AV → Prop) (X : Exn → Prop) (as : List Arg) : Prop := match argsF ρ as with
  | some avs => A avs (fltO Q) (fltX2 X)
  | none => False
def aMeFX (C : Addr) (m : Str) (A : AF) (i : Nat) (r : AA) : AO := fun ρ Q X => obQ ρ i C fun _ ns _ _ => ns.contains m = false ∧ r ρ (fun as => callFX A ρ Q X (.slot i :: as)) X
theorem run_spFX {A : AF} {as : List Arg} {vs : List V} {Q : AV → Prop} {q : VK} {E : XK} {X : Exn → Prop} (I : DI c U H σ ρ) (r : Paired (ArgR c.K U σ) as vs) (h : callFX A ρ Q X as)
    (k : ∀ U' H' av v, Gr (drs ρ σ) U H U' H' → DI c U' H' σ ρ → RepA c.K U' H' av v → Fresh U' H av v → Q av → q v H')
    (kx : ∀ U' H' x cls o, DI c U' H' σ ρ → XRep c.K U' H' x cls o → X x → E cls o H') : spD c.K c.tb A vs H q E := by
  unfold callFX at h
  split at h
  · rename_i avs ea
    obtain ⟨k1, k2⟩ := argsF_rep I r ea
    have e0 : ownAs avs vs = [] := ownAs_fz k2
    have gr : ∀ {U2 H2 : Hp}, Gr [] (sealU U H (owns ρ σ)) H U2 H2 → Gr [] U H U H2 := fun g2 => ⟨Same.refl U, fun x o e => g2.hh x o (by simp) (fun ps z => I.tbs.2 x ps (by rw [e, z])) (I.vh x o e), g2.hh, g2.dom, fun _ e _ => e, g2.tb, id⟩
    refine ⟨sealU U H (owns ρ σ), avs, _, _, seal_vh I.vh, ⟨I.tbs.1, seal_nt I.tbs.2 I.pl⟩, k1, fun a ha => .inr (k2 a ha), by rw [e0]; exact Nat.zero_le _, h, fun U2 H2 av v g2 r2 n2 _ z2 => ?_, fun U2 H2 ex cls o g2 xr _ z2 => ?_⟩
    · rw [e0] at g2
      have g3 := gr g2
      cases av with
      | fz d =>
        obtain ⟨fd, z3⟩ := z2
        exact k U H2 (.fz d) v g3.any (I.grow g3) (flt_r fd r2) Fresh.fz z3
      | ol ds =>
        obtain ⟨fd, z3⟩ := z2
        obtain ⟨p, xs, rfl, hp, hr⟩ := r2
        have np := n2.out p (List.mem_singleton.mpr rfl)
        exact k U H2 (.ol ds) (.ref p) g3.any (I.grow g3) ⟨p, xs, rfl, hp, flts_r fd hr⟩ (.one rfl (I.vh.free np.2) np.2) z3
      | _ => exact (show False from z2).elim
    · rw [e0] at g2
      have g3 := gr g2
      obtain ⟨e1, z3⟩ := z2
      obtain ⟨rfl, h2⟩ := xr
      rcases h2 with h2 | ⟨dd, xs, rfl, hd', hl, hr⟩
      · exact kx U H2 ex _ o (I.grow g3) ⟨rfl, .inl h2⟩ z3
      · have fin : ∀ U4, Gr [] U H U4 H2 → U4 dd = some (.xd (ex.ns.zip xs)) → E (.ref ex.C) (some dd) H2 := fun U4 g4 hu => kx U4 H2 ex _ _ (I.grow g4) ⟨rfl, .inr ⟨dd, xs, rfl, hu, hl, flts_r e1 hr⟩⟩ z3
        have hs : ∀ p ∈ owns ρ σ, U p = none := fun p hp => (I.out p hp).1
        cases eU : U dd with
        | some o' =>
          have : U2 dd = some o' := g2.vv _ _ (seal_same hs _ _ eU)
          rw [hd'] at this
          exact fin U g3 (by rw [eU, ← this])
        | none =>
          cases eH : H dd with
          | none => exact fin _ ⟨same_new eU, fun a y e => by
              by_cases z : a = dd
              · subst z
                rw [upd_same] at e
                rw [← e]
                exact g2.vh _ _ hd'
              · rw [upd_ne z] at e
                exact g3.vh _ _ e, g3.hh, g3.dom, fun a e n => by
              by_cases z : a = dd
              · subst z
                exact absurd eH n
              · rw [upd_ne z]
                exact e, g3.tb, fun h => nt_upd (g3.nt h) fun _ z => (by cases z)⟩ upd_same
          | some y =>
            exfalso
            by_cases ho : dd ∈ owns ρ σ
            · have : U2 dd = some y := g2.vv _ _ (by rw [seal_in ho]; exact eH)
              rw [hd'] at this
              exact owns_nx I.rep dd ho (ex.ns.zip xs) (by rw [eH, ← this])
            · have := g2.fr dd (by rw [seal_out ho]; exact eU) (by rw [eH]; intro z; cases z)
              rw [hd'] at this
              cases this
  · exact h.elim
theorem sim_meFX {C : Addr} {m : Str} {A : AF} {i : Nat} {tr : TA} {r : AA} {E : L2.St → XK} (hE : ∀ σ, E σ = c.E σ) (hr : SimA c tr r) : SimO c (tMeS C m (spD c.K c.tb A) [] E (tVar i) tr) (aMeFX C m A i r) := fun U H σ ρ Q q I z k => by
  obtain ⟨dx, ns, ws, as, e1, nm, z1⟩ := obQ_of z
  obtain ⟨v0, f1, ⟨p0, rfl, q1, q2, q3⟩, _⟩ := rep_at I.rep i _ e1
  refine ⟨.ref p0, f1, p0, dx, _, rfl, q1, lookup_none nm, hr U H σ ρ _ _ I z1 fun U1 H1 bs vs g1 I1 r1 z2 => ?_⟩
  rw [List.append_nil]
  exact run_spFX I1 (as := .slot i :: bs) (vs := .ref p0 :: vs) (.cons f1 r1) z2 (fun U3 H3 av v g3 I3 r3 n3 z4 => k U3 H3 av v (g1.trans g3) I3 r3 (n3.back fun _ h => g1.fresh h) z4) (fun U3 H3 x cls o I3 xr z => by rw [hE]; exact I3.raise xr z)
theorem w_callFX {A : AF} {as : List Arg} {avs : List AV} {Q : AV → Prop} {X : Exn → Prop} (h : argsF ρ as = some avs) (q : A avs (fltO Q) (fltX2 X)) : callFX A ρ Q X as := by
  unfold callFX
  rw [h]
  exact q
end
end SW
open PySem L2 SW
local macro_rules | `(tactic| walk_at "sw1") => `(tactic| first
  | with_reducible refine i_seq ?_
  | with_reducible refine i_set ?_
  | with_reducible refine i_asg ?_
  | with_reducible refine i_var rfl ?_
  | with_reducible refine i_c ?_
  | with_reducible refine i_op ?_
  | with_reducible refine i_rI0 ?_
  | with_reducible refine i_cons ?_
  | with_reducible refine i_nil ?_
  | with_reducible refine i_call ?_
  | with_reducible refine i_cb ?_
  | with_reducible refine i_if ?_
  | with_reducible refine i_test ?_
  | with_reducible refine i_B ?_
  | with_reducible refine i_bl ?_
  | with_reducible refine i_blV ?_
  | with_reducible refine i_itT ?_
  | with_reducible refine i_itF ?_
  | with_reducible refine i_iteNT ?_
  | with_reducible refine i_iteNF ?_
  | with_reducible refine i_iteNN ?_
  | with_reducible refine i_ret ?_
  | with_reducible refine i_drop ?_
  | with_reducible refine i_next ?_
  | with_reducible refine i_un ?_
  | with_reducible refine i_rU ?_
  | with_reducible refine i_eqI ?_
  | with_reducible refine i_neI ?_
  | with_reducible refine i_eqS ?_
  | with_reducible refine i_neS ?_
  | with_reducible refine i_not ?_
  | with_reducible refine i_and ?_
  | with_reducible refine i_or ?_
  | with_reducible refine i_andV ?_
  | with_reducible refine i_orV ?_
  | with_reducible refine i_notV ?_
  | with_reducible refine i_ifE ?_
  | with_reducible refine i_chain ?_
  | with_reducible refine i_sub ?_
  | with_reducible refine i_lst ?_
  | with_reducible refine i_tup ?_
  | with_reducible refine i_for1 ?_
  | with_reducible refine i_for2 ?_
  | with_reducible refine i_for3 ?_
  | with_reducible refine i_forL ?_
  | with_reducible refine i_forT ?_
  | with_reducible refine i_lc1 ?_
  | with_reducible refine i_lc2 ?_
  | with_reducible refine i_lcL ?_
  | with_reducible refine i_lcT ?_
  | with_reducible refine i_gname ?_
  | with_reducible refine i_yes ?_
  | with_reducible refine i_callN ?_
  | with_reducible refine i_callW ?_
  | with_reducible refine i_callS ?_
  | with_reducible refine i_par ?_
  | with_reducible refine i_sl ?_
  | with_reducible refine i_nopart ?_
  | with_reducible refine i_part ?_
  | with_reducible refine i_partE ?_
  | with_reducible refine i_parE ?_
  | with_reducible refine i_ipI ?_
  | with_reducible refine i_asg2 ?_
  | with_reducible refine i_gcons ?_
  | with_reducible refine i_gnil ?_
  | with_reducible refine i_retN ?_
  | with_reducible refine i_brk ?_
  | with_reducible refine i_cont ?_)
local macro_rules | `(tactic| walk_at "hp") => `(tactic| first | assumption | exact upd_same | (refine upd_get (by assumption) ?_; walk_at "hp") | ((rw [upd_ne (by assumption)]); walk_at "hp"))
local macro_rules | `(tactic| walk_at "cc") => `(tactic| first | omega | decide | exact ⟨by decide, by decide⟩ | exact ⟨by omega, by omega⟩ | exact ⟨by decide, by decide, by decide⟩ | exact Or.inr ⟨by decide, by decide⟩ | exact Or.inl ⟨by decide, by decide⟩ | exact Or.inr ⟨by omega, by omega⟩ | exact Or.inl ⟨by omega, by omega⟩ | assumption)
local macro_rules | `(tactic| walk_at "sw2") => `(tactic| first
  | walk_at "sw1"
  | ((with_reducible refine' i_rI ?c1 ?_); (case c1 => (dsimp only; walk_at "cc")))
  | ((with_reducible refine' i_rI ?c1 ?_); (case c1 => (walk_at "cc")))
  | ((with_reducible refine' i_ixL ?c1 ?c2 ?_); (case c1 => walk_at "hp"); (case c2 => exact rfl))
  | ((with_reducible refine' i_ixT ?c1 ?c2 ?_); (case c1 => walk_at "hp"); (case c2 => exact rfl))
  | with_reducible refine i_isI ?_
  | with_reducible refine i_isB ?_
  | with_reducible refine i_isBB ?_
  | ((with_reducible refine' i_isL ?c1 ?_); (case c1 => walk_at "hp"))
  | ((with_reducible refine' i_isT ?c1 ?_); (case c1 => walk_at "hp"))
  | ((with_reducible refine' i_setL ?c1 ?c2 ?_); (case c1 => walk_at "hp"); (case c2 => exact rfl))
  | ((with_reducible refine' i_rI ?c1 ?_); (case c1 => first | (apply_assumption; done) | exact wide_div (b := 200) (by omega) (by omega) (by decide) (by decide)))
  | ((with_reducible refine' Exists.intro _ (Exists.intro _ (And.intro rfl (And.intro (Or.inl (SqL.of ?c1)) ?_)))); (case c1 => walk_at "hp"))
  | ((with_reducible refine' Exists.intro _ (Exists.intro _ (And.intro rfl (And.intro (Or.inr (SqT.of ?c1)) ?_)))); (case c1 => walk_at "hp"))
  | ((with_reducible refine' Exists.intro _ (And.intro (rfl : [V.int _] = [V.int _]) ?_)))
  | ((with_reducible refine' Exists.intro _ (Exists.intro _ (And.intro (rfl : [V.int _, V.int _] = [V.int _, V.int _]) ?_))))
  | (with_reducible refine And.intro (Nat.le_of_ble_eq_true rfl : List.length _ ≤ sizeLine) ?_))
local macro_rules | `(tactic| walk_at "sw3") => `(tactic| first
  | walk_at "sw2"
  | with_reducible refine i_fld ?_
  | ((with_reducible refine' i_fldI ?c1 ?c2 ?c3 ?c4 ?_); (case c1 => walk_at "hp"); (case c2 => assumption); (case c3 => assumption); (case c4 => exact rfl))
  | with_reducible refine i_sfld ?_
  | ((with_reducible refine' i_sfldI ?c1 ?c2 ?c3 ?c4 ?c5 ?_); (case c1 => walk_at "hp"); (case c2 => assumption); (case c3 => assumption); (case c4 => exact rfl); (case c5 => exact (Nat.le_of_ble_eq_true rfl)))
  | with_reducible refine i_meS ?_
  | with_reducible refine i_meth ?_
  | ((with_reducible refine' i_recv ?c1 ?c2 ?_); (case c1 => walk_at "hp"); (case c2 => exact rfl))
  | with_reducible refine i_mkS ?_
  | with_reducible refine i_mkNS ?_
  | with_reducible refine i_callNS ?_
  | with_reducible refine i_callSD ?_
  | with_reducible refine i_forE ?_
  | with_reducible refine i_forZ ?_
  | with_reducible refine i_lcE ?_
  | with_reducible refine i_lcZ ?_
  | ((with_reducible refine' i_aug ?c1 ?_); (case c1 => exact rfl))
  | with_reducible refine And.intro (rfl : V.non = V.non) ?_
  | with_reducible refine i_bm ?_
  | with_reducible refine i_bm0 ?_
  | ((with_reducible refine' i_lenL ?c1 ?_); (case c1 => walk_at "hp"))
  | ((with_reducible refine' i_lenT ?c1 ?_); (case c1 => walk_at "hp"))
  | ((with_reducible refine' i_listL ?c1 ?_); (case c1 => walk_at "hp"))
  | ((with_reducible refine' i_listT ?c1 ?_); (case c1 => walk_at "hp"))
  | ((with_reducible refine' i_tupleL ?c1 ?_); (case c1 => walk_at "hp"))
  | ((with_reducible refine' i_tupleT ?c1 ?_); (case c1 => walk_at "hp"))
  | ((with_reducible refine' i_tyL ?c1 ?_); (case c1 => walk_at "hp"))
  | ((with_reducible refine' i_app ?c1 ?c2 ?_); (case c1 => walk_at "hp"); (case c2 => first | assumption | omega | (simp; done) | ((simp only [List.length_map, List.length_append, List.length_take]); omega)))
  | ((with_reducible refine' i_slL ?c1 ?_); (case c1 => walk_at "hp"))
  | ((with_reducible refine' i_gtup ?c1 ?c2 ?_); (case c1 => walk_at "hp"); (case c2 => exact rfl)))
local macro_rules | `(tactic| walk_at "sw") => `(tactic| ((try dsimp only); repeat walk_at "sw3"))
local macro_rules | `(tactic| walk_at "arr") => `(tactic| (intro vs zs h; first
  | (match zs, h with | [_], _ => rfl)
  | (match zs, h with | [_, _], _ => rfl)
  | (match zs, h with | [_, _, _], _ => rfl)
  | (match zs, h with | [_, _, _, _], _ => rfl)))
local macro_rules | `(tactic| walk_at "aw1") => `(tactic| first
  | with_reducible refine w_seq ?_
  | with_reducible refine w_next ?_
  | with_reducible refine w_set ?_
  | with_reducible refine w_setO ?_
  | with_reducible refine w_drop ?_
  | with_reducible refine w_ret ?_
  | with_reducible refine w_retO ?_
  | with_reducible refine w_retN ?_
  | with_reducible refine w_if ?_
  | with_reducible refine w_brk ?_
  | with_reducible refine w_cnt ?_
  | with_reducible refine w_raise ?_
  | with_reducible refine w_c ?_
  | with_reducible refine w_op ?_
  | with_reducible refine w_opO ?_
  | with_reducible refine w_un ?_
  | with_reducible refine w_oI ?_
  | with_reducible refine w_oU ?_
  | with_reducible refine w_isN0 ?_
  | with_reducible refine w_isNi ?_
  | with_reducible refine w_isNl ?_
  | with_reducible refine w_isNt ?_
  | with_reducible refine w_isNs ?_
  | with_reducible refine w_isNo ?_
  | with_reducible refine w_notN0 ?_
  | with_reducible refine w_notNi ?_
  | with_reducible refine w_notNl ?_
  | with_reducible refine w_notNt ?_
  | with_reducible refine w_notNs ?_
  | with_reducible refine w_notNo ?_
  | with_reducible refine w_fz ?_
  | with_reducible refine w_frzL ?_
  | with_reducible refine w_frzF ?_
  | with_reducible refine w_up ?_
  | with_reducible refine w_call0 ?_
  | with_reducible refine w_call ?_
  | with_reducible refine w_arg ?_
  | with_reducible refine w_args ?_
  | with_reducible refine w_nil ?_
  | with_reducible refine w_cons ?_
  | with_reducible refine w_tup ?_
  | with_reducible refine w_lst ?_
  | with_reducible refine w_test ?_
  | with_reducible refine w_blQ ?_
  | with_reducible refine w_not ?_
  | with_reducible refine w_and ?_
  | with_reducible refine w_or ?_
  | with_reducible refine w_andV ?_
  | with_reducible refine w_orV ?_
  | with_reducible refine w_notV ?_
  | with_reducible refine w_ifE ?_
  | with_reducible refine w_chain ?_
  | with_reducible refine w_cT ?_
  | with_reducible refine w_cF ?_
  | with_reducible refine w_cNT ?_
  | with_reducible refine w_cNF ?_
  | with_reducible refine w_cN ?_
  | with_reducible refine w_cb ?_
  | with_reducible refine w_cbO ?_
  | with_reducible refine w_lenL ?_
  | with_reducible refine w_lenT ?_
  | with_reducible refine w_listL ?_
  | with_reducible refine w_listT ?_
  | with_reducible refine w_tupleL ?_
  | with_reducible refine w_tupleT ?_
  | with_reducible refine w_fld ?_
  | with_reducible refine w_lstQ ?_
  | with_reducible refine w_tupQ ?_
  | with_reducible refine w_intQ ?_
  | with_reducible refine w_oneQ ?_
  | with_reducible refine w_twoQ ?_
  | with_reducible refine w_for ?_
  | with_reducible refine w_itL ?_
  | with_reducible refine w_itT ?_
  | with_reducible refine w_rng1 ?_
  | with_reducible refine w_rng2 ?_
  | with_reducible refine w_enum ?_
  | with_reducible refine w_zip ?_
  | with_reducible refine w_asg ?_
  | with_reducible refine w_gN ?_
  | with_reducible refine w_gsCons ?_
  | with_reducible refine w_gsNil ?_
  | with_reducible refine w_par ?_
  | with_reducible refine w_lc ?_
  | with_reducible refine w_yes ?_
  | with_reducible refine w_rev ?_
  | with_reducible refine w_sl ?_
  | with_reducible refine w_slO ?_
  | with_reducible refine w_noPart ?_
  | with_reducible refine w_part ?_
  | with_reducible refine w_slL ?_
  | with_reducible refine w_slT ?_
  | ((with_reducible refine' w_slot ?c1 ?_); (case c1 => exact rfl))
  | ((with_reducible refine' w_app ?c1 ?_); (case c1 => exact rfl))
  | ((with_reducible refine' w_put ?c1 ?_); (case c1 => exact rfl))
  | ((with_reducible refine' w_ext ?c1 ?_); (case c1 => exact rfl))
  | ((with_reducible refine' w_aug ?c1 ?_); (case c1 => exact rfl))
  | ((with_reducible refine' w_olQ ?c1 ?_); (case c1 => exact rfl))
  | ((with_reducible refine' w_sealL ?c1 ?_); (case c1 => exact rfl))
  | ((with_reducible refine' w_sealF ?c1 ?_); (case c1 => exact rfl))
  | ((with_reducible refine' w_retV ?c1 ?_); (case c1 => exact rfl))
  | ((with_reducible refine' w_var ?c1 ?_); (case c1 => exact rfl))
  | ((with_reducible refine' w_varW ?c1 ?c2 ?_); (case c1 => exact rfl); (case c2 => exact rfl))
  | ((with_reducible refine' w_callQ ?c1 ?c2 ?_); (case c1 => exact (Nat.le_of_ble_eq_true rfl)); (case c2 => exact rfl))
  | ((with_reducible refine' w_oIC ?c1 ?_); (case c1 => (dsimp only; walk_at "cc")))
  | ((with_reducible refine' w_oIC ?c1 ?_); (case c1 => walk_at "cc"))
  | ((with_reducible refine' w_oEq ?c1 ?_); (case c1 => exact rfl))
  | ((with_reducible refine' w_oNe ?c1 ?_); (case c1 => exact rfl))
  | ((with_reducible refine' w_fldQ ?c1 ?_); (case c1 => exact rfl))
  | ((with_reducible refine' w_gT ?c1 ?_); (case c1 => exact rfl))
  | ((with_reducible refine' w_isiT ?c1 ?c2 ?c3 ?_); (case c1 => exact rfl); (case c2 => decide); (case c3 => decide))
  | ((with_reducible refine' w_isiF ?c1 ?c2 ?c3 ?_); (case c1 => exact rfl); (case c2 => decide); (case c3 => decide))
  | (with_reducible refine And.intro (Nat.le_of_ble_eq_true rfl : List.length _ ≤ 1000000) ?_)
  | (with_reducible refine And.intro (Nat.le_of_ble_eq_true rfl : List.length _ < 1000000) ?_))
local macro_rules | `(tactic| walk_at "am1") => `(tactic| first
  | with_reducible refine m_set ?_
  | with_reducible refine m_setO ?_
  | with_reducible refine m_drop ?_
  | with_reducible refine m_ret ?_
  | with_reducible refine m_retO ?_
  | with_reducible refine m_E ?_
  | with_reducible refine m_O ?_
  | with_reducible refine m_fz ?_
  | with_reducible refine m_up ?_
  | with_reducible refine m_nil ?_
  | with_reducible refine m_cons ?_
  | with_reducible refine m_nilO ?_
  | with_reducible refine m_consO ?_
  | with_reducible refine m_tup ?_
  | with_reducible refine m_lst ?_
  | with_reducible refine m_lstO ?_
  | with_reducible refine m_call0 ?_
  | with_reducible refine m_call ?_
  | with_reducible refine m_lc ?_
  | ((with_reducible refine' m_app ?c1 ?_); (case c1 => exact rfl))
  | ((with_reducible refine' m_appN ?c1 ?_); (case c1 => exact rfl))
  | ((with_reducible refine' w_onQ ?c1 ?_); (case c1 => exact rfl))
  | ((with_reducible refine' w_slotO ?c1 ?_); (case c1 => exact rfl))
  | ((with_reducible refine' m_callM ?c1 ?c2 ?_); (case c1 => exact rfl); (case c2 => exact rfl))
  | with_reducible refine w_callF ?_
  | ((with_reducible refine' w_callFQ ?c1 ?_); (case c1 => exact rfl))
  | with_reducible refine w_fltI ?_
  | with_reducible refine w_max2 ?_
  | with_reducible refine w_min2 ?_
  | with_reducible refine w_bmS ?_
  | with_reducible refine w_strQ ?_
  | with_reducible refine w_lenSet ?_
  | with_reducible refine w_dInF ?_
  | with_reducible refine w_dInT ?_
  | with_reducible refine w_dGet ?_
  | with_reducible refine w_keyS ?_
  | with_reducible refine w_dKQ ?_
  | with_reducible refine w_okQ ?_
  | with_reducible refine w_dPutF ?_
  | with_reducible refine w_mk00 ?_
  | ((with_reducible refine' w_obfQ ?c1 ?c2 ?c3 ?_); (case c1 => exact rfl); (case c2 => exact rfl); (case c3 => exact rfl))
  | ((with_reducible refine' w_fldS ?c1 ?c2 ?c3 ?c4 ?_); (case c1 => exact rfl); (case c2 => exact rfl); (case c3 => exact rfl); (case c4 => exact rfl))
  | ((with_reducible refine' w_lcD ?c1 ?c2 ?c3 ?_); (case c1 => exact rfl); (case c2 => exact rfl); (case c3 => exact rfl))
  | ((with_reducible refine' m_me ?c1 ?c2 ?_); (case c1 => exact rfl); (case c2 => exact rfl))
  | ((with_reducible refine' m_me0 ?c1 ?c2 ?_); (case c1 => exact rfl); (case c2 => exact rfl))
  | ((with_reducible refine' m_meN0 ?c1 ?c2 ?_); (case c1 => exact rfl); (case c2 => exact rfl))
  | with_reducible refine m_ifM ?_
  | with_reducible refine m_T ?_
  | with_reducible refine m_test ?_
  | with_reducible refine m_not ?_
  | with_reducible refine m_or ?_
  | with_reducible refine m_and ?_
  | with_reducible refine m_opL ?_
  | with_reducible refine w_tupE ?_
  | with_reducible refine w_lenD ?_
  | ((with_reducible refine' m_lenOwn ?c1 ?_); (case c1 => exact rfl))
  | ((with_reducible refine' m_meD0 ?c1 ?c2 ?_); (case c1 => exact rfl); (case c2 => exact rfl)))
local macro_rules | `(tactic| walk_at "aw") => `(tactic| ((repeat (first | walk_at "aw1" | walk_at "am1")); (try dsimp only [List.set_cons_zero, List.set_cons_succ])))
local macro_rules | `(tactic| walk_at "rg") => `(tactic| ((try rw [List.length_map]); (refine ⟨⟨by omega, by omega⟩, ?_⟩); (rw [Int.toNat_natCast])))
local macro_rules | `(tactic| walk_at "awt") => `(tactic| (repeat (first | walk_at "aw1" | walk_at "am1" | ((with_reducible refine' w_catT ?c1 ?_); (case c1 => exact Nat.le_of_ble_eq_true rfl)) | ((with_reducible refine' w_ixT ?c1 ?_); (case c1 => exact rfl)))))
local macro_rules | `(tactic| walk_at "am1") => `(tactic| first
  | with_reducible refine w_enumT ?_
  | with_reducible refine w_rng3 ?_
  | with_reducible refine w_threeQ ?_
  | with_reducible refine w_fltB ?_
  | with_reducible refine m_opRO ?_)
local macro_rules | `(tactic| walk_at "kbr") => `(tactic| (repeat' (first | exact trivial | exact fun _ => rfl | exact fun U => ⟨_, _, rfl, by first | exact (by assumption : ∀ H : Hp, SqT _ H _ _) U | assumption, rfl⟩ | refine And.intro ?_ ?_)))
local macro_rules | `(tactic| walk_at "drs") => `(tactic| first
  | exact fun _ => ⟨_, _, rfl, rfl, rfl⟩
  | exact fun U => ⟨_, _, rfl, rfl, _, _, rfl, ⟨_, _, rfl, (by assumption : ∀ H : Hp, SqT _ H _ _) U, rfl⟩, rfl⟩)
local macro_rules | `(tactic| walk_at "am1") => `(tactic| first
  | with_reducible refine w_stT ?_
  | with_reducible refine w_sortK ?_
  | with_reducible refine w_lcN ?_
  | with_reducible refine w_callN0 ?_
  | with_reducible refine w_callN ?_
  | with_reducible refine w_callV0 ?_
  | with_reducible refine w_callV ?_
  | with_reducible refine w_callD0 ?_
  | with_reducible refine w_callD ?_)
local macro_rules | `(tactic| walk_at "hnds") => `(tactic| (repeat' first
  | exact HndsR.nil
  | (refine HndsR.named rfl rfl (fun a D o => ?_) ?_)
  | (refine HndsR.only (fun a D o => ?_) ?_)))
local macro_rules | `(tactic| walk_at "am1") => `(tactic| first
  | with_reducible refine w_dInTF ?_
  | with_reducible refine w_dInTT ?_
  | with_reducible refine w_dGetT ?_
  | with_reducible refine w_dGet2T ?_
  | with_reducible refine w_dTQ ?_
  | with_reducible refine w_dPutS ?_
  | ((with_reducible refine' w_okS ?c1 ?_); (case c1 => exact rfl))
  | with_reducible refine w_dPutT ?_
  | ((with_reducible refine' w_otS ?c1 ?_); (case c1 => exact rfl))
  | with_reducible refine w_dNew ?_
  | with_reducible refine w_dNewT ?_
  | with_reducible refine w_lenTD ?_
  | with_reducible refine w_dcT ?_
  | with_reducible refine w_mkA0 ?_
  | with_reducible refine w_mkA ?_
  | ((with_reducible refine' w_try ?c1 ?c2 ?_); (case c1 => exact rfl); (case c2 => exact rfl)))
local macro_rules | `(tactic| walk_at "am1") => `(tactic| first
  | with_reducible refine w_raiseX1 ?_
  | with_reducible refine w_raiseX2 ?_
  | ((with_reducible refine' w_clr ?c1 ?_); (case c1 => exact rfl)))
namespace SW
open PySem L2
variable [QN]
def top (i : Nat) : Stmt := PySem.Challenge.pw_slotwright_k07_drop_and_full.main.body.getD i (.Pass ⟨0, 0, 0, 0⟩)
abbrev s_NoName_init : Stmt := inClass (top 9) 0
abbrev s_Taken_init : Stmt := inClass (top 8) 0
abbrev s_InUse_init : Stmt := inClass (top 10) 0
abbrev s_within : Stmt := top 21
abbrev s_check : Stmt := top 22
abbrev s_good_name : Stmt := top 27
abbrev s_Net_init : Stmt := inClass (top 28) 0
abbrev s_Net_fresh : Stmt := inClass (top 28) 1
abbrev s_Net_house : Stmt := inClass (top 28) 2
abbrev s_Net_gate : Stmt := inClass (top 28) 3
abbrev s_Net_line : Stmt := inClass (top 28) 4
abbrev s_Net_names : Stmt := inClass (top 28) 6
abbrev s_Net_kind : Stmt := inClass (top 28) 7
abbrev s_Net_ends : Stmt := inClass (top 28) 8
abbrev s_Net_drop : Stmt := inClass (top 28) 5
abbrev s_Net_len : Stmt := inClass (top 28) 11
abbrev s_law_start : Stmt := top 30
abbrev s_law_draw : Stmt := top 31
abbrev s_law_pick : Stmt := top 32
abbrev s_law_name : Stmt := top 33
abbrev s_law_hop : Stmt := top 34
abbrev s_law_way : Stmt := top 35
abbrev s_law_need : Stmt := top 36
abbrev s_law_row : Stmt := top 37
abbrev s_law_world : Stmt := top 38
abbrev s_law_net : Stmt := top 39
abbrev s_law_drop : Stmt := top 43
abbrev s_law_gone : Stmt := top 44
abbrev s_law_fill : Stmt := top 45
abbrev s_law_filled : Stmt := top 46
abbrev s_law_kinds_one : Stmt := top 40
abbrev s_law_kinds_two : Stmt := top 41
abbrev s_law_kind : Stmt := top 42
abbrev s_law : Stmt := top 47
theorem sc_NoName_init : FnScope ["self", "name"] ["self", "name"] (defScope s_NoName_init) := ⟨rfl, rfl, rfl, by decide +kernel, rfl, by decide +kernel, by decide +kernel⟩
theorem sc_Taken_init : FnScope ["self", "name"] ["self", "name"] (defScope s_Taken_init) := ⟨rfl, rfl, rfl, by decide +kernel, rfl, by decide +kernel, by decide +kernel⟩
theorem sc_InUse_init : FnScope ["self", "name"] ["self", "name"] (defScope s_InUse_init) := ⟨rfl, rfl, rfl, by decide +kernel, rfl, by decide +kernel, by decide +kernel⟩
theorem sc_within : FnScope ["value", "low", "high"] ["value", "low", "high"] (defScope s_within) := ⟨rfl, rfl, rfl, by decide +kernel, rfl, by decide +kernel, by decide +kernel⟩
theorem sc_check : FnScope ["value", "low", "high"] ["value", "low", "high"] (defScope s_check) := ⟨rfl, rfl, rfl, by decide +kernel, rfl, by decide +kernel, by decide +kernel⟩
theorem sc_good_name : FnScope ["name", "sign"] ["name"] (defScope s_good_name) := ⟨rfl, rfl, rfl, by decide +kernel, rfl, by decide +kernel, by decide +kernel⟩
theorem sc_Net_init : FnScope ["self"] ["self"] (defScope s_Net_init) := ⟨rfl, rfl, rfl, by decide +kernel, rfl, by decide +kernel, by decide +kernel⟩
theorem sc_Net_fresh : FnScope ["self", "name", "lined", "one"] ["self", "name", "lined"] (defScope s_Net_fresh) := ⟨rfl, rfl, rfl, by decide +kernel, rfl, by decide +kernel, by decide +kernel⟩
theorem sc_Net_house : FnScope ["self", "name"] ["self", "name"] (defScope s_Net_house) := ⟨rfl, rfl, rfl, by decide +kernel, rfl, by decide +kernel, by decide +kernel⟩
theorem sc_Net_gate : FnScope ["self", "name"] ["self", "name"] (defScope s_Net_gate) := ⟨rfl, rfl, rfl, by decide +kernel, rfl, by decide +kernel, by decide +kernel⟩
theorem sc_Net_line : FnScope ["self", "name", "senders", "ears", "wire", "ends", "one"] ["self", "name", "senders", "ears", "wire"] (defScope s_Net_line) := ⟨rfl, rfl, rfl, by decide +kernel, rfl, by decide +kernel, by decide +kernel⟩
theorem sc_Net_names : FnScope ["self"] ["self"] (defScope s_Net_names) := ⟨rfl, rfl, rfl, by decide +kernel, rfl, by decide +kernel, by decide +kernel⟩
theorem sc_Net_kind : FnScope ["self", "name"] ["self", "name"] (defScope s_Net_kind) := ⟨rfl, rfl, rfl, by decide +kernel, rfl, by decide +kernel, by decide +kernel⟩
theorem sc_Net_ends : FnScope ["self", "name"] ["self", "name"] (defScope s_Net_ends) := ⟨rfl, rfl, rfl, by decide +kernel, rfl, by decide +kernel, by decide +kernel⟩
theorem sc_Net_drop : FnScope ["self", "name", "line", "senders", "ears", "wire"] ["self", "name"] (defScope s_Net_drop) := ⟨rfl, rfl, rfl, by decide +kernel, rfl, by decide +kernel, by decide +kernel⟩
theorem sc_Net_len : FnScope ["self"] ["self"] (defScope s_Net_len) := ⟨rfl, rfl, rfl, by decide +kernel, rfl, by decide +kernel, by decide +kernel⟩
theorem sc_law_start : FnScope ["_law_script"] ["_law_script"] (defScope s_law_start) := ⟨rfl, rfl, rfl, by decide +kernel, rfl, by decide +kernel, by decide +kernel⟩
theorem sc_law_draw : FnScope ["_law_s", "_law_many", "_law_cell", "_law_found"] ["_law_s", "_law_many"] (defScope s_law_draw) := ⟨rfl, rfl, rfl, by decide +kernel, rfl, by decide +kernel, by decide +kernel⟩
theorem sc_law_pick : FnScope ["_law_s", "_law_row_here"] ["_law_s", "_law_row_here"] (defScope s_law_pick) := ⟨rfl, rfl, rfl, by decide +kernel, rfl, by decide +kernel, by decide +kernel⟩
theorem sc_law_name : FnScope ["_law_s", "_law_names", "_law_letters", "_law_turn", "_law_size", "_law_word", "_law_k"] ["_law_s", "_law_names"] (defScope s_law_name) := ⟨rfl, rfl, rfl, by decide +kernel, rfl, by decide +kernel, by decide +kernel⟩
theorem sc_law_hop : FnScope ["_law_s", "_law_names", "_law_lines", "_law_one", "_law_two", "_law_barred", "_law_fit", "_law_line"] ["_law_s", "_law_names", "_law_lines", "_law_one", "_law_two", "_law_barred"] (defScope s_law_hop) := ⟨rfl, rfl, rfl, by decide +kernel, rfl, by decide +kernel, by decide +kernel⟩
theorem sc_law_way : FnScope ["_law_s", "_law_names", "_law_lines", "_law_gates", "_law_first", "_law_the_last", "_law_barred", "_law_free", "_law_way_here", "_law_k", "_law_gate", "_law_other"] ["_law_s", "_law_names", "_law_lines", "_law_gates", "_law_first", "_law_the_last", "_law_barred"] (defScope s_law_way) := ⟨rfl, rfl, rfl, by decide +kernel, rfl, by decide +kernel, by decide +kernel⟩
theorem sc_law_need : FnScope ["_law_row_here", "_law_lines", "_law_the_slack", "_law_the_most", "_law_way_here", "_law_sums", "_law_line"] ["_law_row_here", "_law_lines", "_law_the_slack"] (defScope s_law_need) := ⟨rfl, rfl, rfl, by decide +kernel, rfl, by decide +kernel, by decide +kernel⟩
theorem sc_law_row : FnScope ["_law_s", "_law_names", "_law_lines", "_law_houses", "_law_gates", "_law_the_slack", "_law_at", "_law_first", "_law_the_last", "_law_ways", "_law_the_every", "_law_the_long", "_law_row_here", "_law_spare"] ["_law_s", "_law_names", "_law_lines", "_law_houses", "_law_gates", "_law_the_slack"] (defScope s_law_row) := ⟨rfl, rfl, rfl, by decide +kernel, rfl, by decide +kernel, by decide +kernel⟩
theorem sc_law_world : FnScope ["_law_s", "_law_the_most", "_law_names", "_law_houses", "_law_gates", "_law_the_slack", "_law_lines", "_law_rows", "_law_k"] ["_law_s", "_law_the_most"] (defScope s_law_world) := ⟨rfl, rfl, rfl, by decide +kernel, rfl, by decide +kernel, by decide +kernel⟩
theorem sc_law_net : FnScope ["_law_world_here", "_law_net_here", "_law_name_here", "_law_senders", "_law_ears", "_law_the_wire"] ["_law_world_here"] (defScope s_law_net) := ⟨rfl, rfl, rfl, by decide +kernel, rfl, by decide +kernel, by decide +kernel⟩
theorem sc_law_drop : FnScope ["_law_net_here", "_law_name_here", "_law_e"] ["_law_net_here", "_law_name_here"] (defScope s_law_drop) := ⟨rfl, rfl, rfl, by decide +kernel, rfl, by decide +kernel, by decide +kernel⟩
theorem sc_law_gone : FnScope ["_law_net_here", "_law_name_here", "_law_got", "_law_e"] ["_law_net_here", "_law_name_here"] (defScope s_law_gone) := ⟨rfl, rfl, rfl, by decide +kernel, rfl, by decide +kernel, by decide +kernel⟩
theorem sc_law_fill : FnScope ["_law_net_here", "_law_names", "_law_s", "_law_many", "_law_got", "_law_k", "_law_e"] ["_law_net_here", "_law_names", "_law_s", "_law_many"] (defScope s_law_fill) := ⟨rfl, rfl, rfl, by decide +kernel, rfl, by decide +kernel, by decide +kernel⟩
theorem sc_law_filled : FnScope ["_law_s", "_law_world_here", "_law_net_here", "_law_nodes", "_law_left", "_law_got", "_law_ends", "_law_k", "_law_name_here", "_law_lined", "_law_e", "_law_due"] ["_law_s", "_law_world_here", "_law_net_here"] (defScope s_law_filled) := ⟨rfl, rfl, rfl, by decide +kernel, rfl, by decide +kernel, by decide +kernel⟩
theorem sc_law_kinds_one : FnScope ["_law_e", "_law_kinds"] ["_law_e"] (defScope s_law_kinds_one) := ⟨rfl, rfl, rfl, by decide +kernel, rfl, by decide +kernel, by decide +kernel⟩
theorem sc_law_kinds_two : FnScope ["_law_e", "_law_kinds"] ["_law_e"] (defScope s_law_kinds_two) := ⟨rfl, rfl, rfl, by decide +kernel, rfl, by decide +kernel, by decide +kernel⟩
theorem sc_law_kind : FnScope ["_law_e", "_law_kinds"] ["_law_e"] (defScope s_law_kind) := ⟨rfl, rfl, rfl, by decide +kernel, rfl, by decide +kernel, by decide +kernel⟩
theorem sc_law : FnScope ["_law_script", "_law_s", "_law_world_here", "_law_net_here", "_law_lines", "_law_turn", "_law_all_names", "_law_k", "_law_name_here", "_law_leans", "_law_found", "_law_line"] ["_law_script"] (defScope s_law) := ⟨rfl, rfl, rfl, by decide +kernel, rfl, by decide +kernel, by decide +kernel⟩
structure Tx (K : PySem.W.Frag) (mg : Str → Option Value) (base : Heap) where
  tb : List Addr
  c_Net : Addr
  g_Net : mg "Net" = some (.ref c_Net)
  C_Net : Cls K c_Net
  N_Net_kinds : NoAttr K c_Net "kinds"
  N_Net_rows : NoAttr K c_Net "rows"
  I_Net : IsiC K c_Net
  J_Net : IsiN K c_Net
  f_NoName_init : Addr
  fd_NoName_init : FuncData
  F_NoName_init : Fun K "__init__" "NoName.__init__" s_NoName_init f_NoName_init fd_NoName_init
  b_NoName_init : Binds K fd_NoName_init ["self", "name"] []
  f_Taken_init : Addr
  fd_Taken_init : FuncData
  F_Taken_init : Fun K "__init__" "Taken.__init__" s_Taken_init f_Taken_init fd_Taken_init
  b_Taken_init : Binds K fd_Taken_init ["self", "name"] []
  f_InUse_init : Addr
  fd_InUse_init : FuncData
  F_InUse_init : Fun K "__init__" "InUse.__init__" s_InUse_init f_InUse_init fd_InUse_init
  b_InUse_init : Binds K fd_InUse_init ["self", "name"] []
  f_within : Addr
  fd_within : FuncData
  F_within : Fun K "within" "within" s_within f_within fd_within
  b_within : Binds K fd_within ["value", "low", "high"] []
  g_within : mg "within" = some (.ref f_within)
  f_check : Addr
  fd_check : FuncData
  F_check : Fun K "check" "check" s_check f_check fd_check
  b_check : Binds K fd_check ["value", "low", "high"] []
  g_check : mg "check" = some (.ref f_check)
  f_good_name : Addr
  fd_good_name : FuncData
  F_good_name : Fun K "good_name" "good_name" s_good_name f_good_name fd_good_name
  b_good_name : Binds K fd_good_name ["name"] []
  g_good_name : mg "good_name" = some (.ref f_good_name)
  f_Net_init : Addr
  fd_Net_init : FuncData
  F_Net_init : Fun K "__init__" "Net.__init__" s_Net_init f_Net_init fd_Net_init
  b_Net_init : Binds K fd_Net_init ["self"] []
  m_Net_init : Meth K c_Net "__init__" f_Net_init
  f_Net_fresh : Addr
  fd_Net_fresh : FuncData
  F_Net_fresh : Fun K "fresh" "Net.fresh" s_Net_fresh f_Net_fresh fd_Net_fresh
  b_Net_fresh : Binds K fd_Net_fresh ["self", "name", "lined"] []
  m_Net_fresh : Meth K c_Net "fresh" f_Net_fresh
  f_Net_house : Addr
  fd_Net_house : FuncData
  F_Net_house : Fun K "house" "Net.house" s_Net_house f_Net_house fd_Net_house
  b_Net_house : Binds K fd_Net_house ["self", "name"] []
  m_Net_house : Meth K c_Net "house" f_Net_house
  f_Net_gate : Addr
  fd_Net_gate : FuncData
  F_Net_gate : Fun K "gate" "Net.gate" s_Net_gate f_Net_gate fd_Net_gate
  b_Net_gate : Binds K fd_Net_gate ["self", "name"] []
  m_Net_gate : Meth K c_Net "gate" f_Net_gate
  f_Net_line : Addr
  fd_Net_line : FuncData
  F_Net_line : Fun K "line" "Net.line" s_Net_line f_Net_line fd_Net_line
  D_Net_line : FunD K "line" "Net.line" (defArgs s_Net_line) (defBody s_Net_line) (defScope s_Net_line) [] [("wire", V.int 1)] f_Net_line fd_Net_line
  m_Net_line : Meth K c_Net "line" f_Net_line
  f_Net_names : Addr
  fd_Net_names : FuncData
  F_Net_names : Fun K "names" "Net.names" s_Net_names f_Net_names fd_Net_names
  b_Net_names : Binds K fd_Net_names ["self"] []
  m_Net_names : Meth K c_Net "names" f_Net_names
  f_Net_kind : Addr
  fd_Net_kind : FuncData
  F_Net_kind : Fun K "kind" "Net.kind" s_Net_kind f_Net_kind fd_Net_kind
  b_Net_kind : Binds K fd_Net_kind ["self", "name"] []
  m_Net_kind : Meth K c_Net "kind" f_Net_kind
  f_Net_ends : Addr
  fd_Net_ends : FuncData
  F_Net_ends : Fun K "ends" "Net.ends" s_Net_ends f_Net_ends fd_Net_ends
  b_Net_ends : Binds K fd_Net_ends ["self", "name"] []
  m_Net_ends : Meth K c_Net "ends" f_Net_ends
  f_Net_drop : Addr
  fd_Net_drop : FuncData
  F_Net_drop : Fun K "drop" "Net.drop" s_Net_drop f_Net_drop fd_Net_drop
  b_Net_drop : Binds K fd_Net_drop ["self", "name"] []
  m_Net_drop : Meth K c_Net "drop" f_Net_drop
  f_Net_len : Addr
  fd_Net_len : FuncData
  F_Net_len : Fun K "__len__" "Net.__len__" s_Net_len f_Net_len fd_Net_len
  b_Net_len : Binds K fd_Net_len ["self"] []
  m_Net_len : Meth K c_Net "__len__" f_Net_len
  f_law_start : Addr
  fd_law_start : FuncData
  F_law_start : Fun K "_law_start" "_law_start" s_law_start f_law_start fd_law_start
  b_law_start : Binds K fd_law_start ["_law_script"] []
  g_law_start : mg "_law_start" = some (.ref f_law_start)
  f_law_draw : Addr
  fd_law_draw : FuncData
  F_law_draw : Fun K "_law_draw" "_law_draw" s_law_draw f_law_draw fd_law_draw
  b_law_draw : Binds K fd_law_draw ["_law_s", "_law_many"] []
  g_law_draw : mg "_law_draw" = some (.ref f_law_draw)
  f_law_pick : Addr
  fd_law_pick : FuncData
  F_law_pick : Fun K "_law_pick" "_law_pick" s_law_pick f_law_pick fd_law_pick
  b_law_pick : Binds K fd_law_pick ["_law_s", "_law_row_here"] []
  g_law_pick : mg "_law_pick" = some (.ref f_law_pick)
  f_law_name : Addr
  fd_law_name : FuncData
  F_law_name : Fun K "_law_name" "_law_name" s_law_name f_law_name fd_law_name
  b_law_name : Binds K fd_law_name ["_law_s", "_law_names"] []
  g_law_name : mg "_law_name" = some (.ref f_law_name)
  f_law_hop : Addr
  fd_law_hop : FuncData
  F_law_hop : Fun K "_law_hop" "_law_hop" s_law_hop f_law_hop fd_law_hop
  b_law_hop : Binds K fd_law_hop ["_law_s", "_law_names", "_law_lines", "_law_one", "_law_two", "_law_barred"] []
  g_law_hop : mg "_law_hop" = some (.ref f_law_hop)
  f_law_way : Addr
  fd_law_way : FuncData
  F_law_way : Fun K "_law_way" "_law_way" s_law_way f_law_way fd_law_way
  b_law_way : Binds K fd_law_way ["_law_s", "_law_names", "_law_lines", "_law_gates", "_law_first", "_law_the_last", "_law_barred"] []
  g_law_way : mg "_law_way" = some (.ref f_law_way)
  f_law_need : Addr
  fd_law_need : FuncData
  F_law_need : Fun K "_law_need" "_law_need" s_law_need f_law_need fd_law_need
  b_law_need : Binds K fd_law_need ["_law_row_here", "_law_lines", "_law_the_slack"] []
  g_law_need : mg "_law_need" = some (.ref f_law_need)
  f_law_row : Addr
  fd_law_row : FuncData
  F_law_row : Fun K "_law_row" "_law_row" s_law_row f_law_row fd_law_row
  b_law_row : Binds K fd_law_row ["_law_s", "_law_names", "_law_lines", "_law_houses", "_law_gates", "_law_the_slack"] []
  g_law_row : mg "_law_row" = some (.ref f_law_row)
  f_law_world : Addr
  fd_law_world : FuncData
  F_law_world : Fun K "_law_world" "_law_world" s_law_world f_law_world fd_law_world
  b_law_world : Binds K fd_law_world ["_law_s", "_law_the_most"] []
  g_law_world : mg "_law_world" = some (.ref f_law_world)
  f_law_net : Addr
  fd_law_net : FuncData
  F_law_net : Fun K "_law_net" "_law_net" s_law_net f_law_net fd_law_net
  b_law_net : Binds K fd_law_net ["_law_world_here"] []
  g_law_net : mg "_law_net" = some (.ref f_law_net)
  f_law_drop : Addr
  fd_law_drop : FuncData
  F_law_drop : Fun K "_law_drop" "_law_drop" s_law_drop f_law_drop fd_law_drop
  b_law_drop : Binds K fd_law_drop ["_law_net_here", "_law_name_here"] []
  g_law_drop : mg "_law_drop" = some (.ref f_law_drop)
  f_law_gone : Addr
  fd_law_gone : FuncData
  F_law_gone : Fun K "_law_gone" "_law_gone" s_law_gone f_law_gone fd_law_gone
  b_law_gone : Binds K fd_law_gone ["_law_net_here", "_law_name_here"] []
  g_law_gone : mg "_law_gone" = some (.ref f_law_gone)
  f_law_fill : Addr
  fd_law_fill : FuncData
  F_law_fill : Fun K "_law_fill" "_law_fill" s_law_fill f_law_fill fd_law_fill
  b_law_fill : Binds K fd_law_fill ["_law_net_here", "_law_names", "_law_s", "_law_many"] []
  g_law_fill : mg "_law_fill" = some (.ref f_law_fill)
  f_law_filled : Addr
  fd_law_filled : FuncData
  F_law_filled : Fun K "_law_filled" "_law_filled" s_law_filled f_law_filled fd_law_filled
  b_law_filled : Binds K fd_law_filled ["_law_s", "_law_world_here", "_law_net_here"] []
  g_law_filled : mg "_law_filled" = some (.ref f_law_filled)
  f_law_kinds_one : Addr
  fd_law_kinds_one : FuncData
  F_law_kinds_one : Fun K "_law_kinds_one" "_law_kinds_one" s_law_kinds_one f_law_kinds_one fd_law_kinds_one
  b_law_kinds_one : Binds K fd_law_kinds_one ["_law_e"] []
  g_law_kinds_one : mg "_law_kinds_one" = some (.ref f_law_kinds_one)
  f_law_kinds_two : Addr
  fd_law_kinds_two : FuncData
  F_law_kinds_two : Fun K "_law_kinds_two" "_law_kinds_two" s_law_kinds_two f_law_kinds_two fd_law_kinds_two
  b_law_kinds_two : Binds K fd_law_kinds_two ["_law_e"] []
  g_law_kinds_two : mg "_law_kinds_two" = some (.ref f_law_kinds_two)
  f_law_kind : Addr
  fd_law_kind : FuncData
  F_law_kind : Fun K "_law_kind" "_law_kind" s_law_kind f_law_kind fd_law_kind
  b_law_kind : Binds K fd_law_kind ["_law_e"] []
  g_law_kind : mg "_law_kind" = some (.ref f_law_kind)
  f_law : Addr
  fd_law : FuncData
  F_law : Fun K "law" "law" s_law f_law fd_law
  b_law : Binds K fd_law ["_law_script"] []
  g_law : mg "law" = some (.ref f_law)
  M_Net : Mk K c_Net f_Net_init
  t_LETTERS : Tok
  g_LETTERS : mg "LETTERS" = some (.str "abcdefghijklmnopqrstuvwxyz" t_LETTERS)
  t_MOST : Tok
  g_MOST : mg "MOST" = some (.int 16 t_MOST)
  t_MOST_ENDS : Tok
  g_MOST_ENDS : mg "MOST_ENDS" = some (.int 6 t_MOST_ENDS)
  z_ValueError : mg "ValueError" = none
  z_abs : mg "abs" = none
  z_all : mg "all" = none
  z_bool : mg "bool" = none
  z_int : mg "int" = none
  z_isinstance : mg "isinstance" = none
  z_len : mg "len" = none
  z_list : mg "list" = none
  z_max : mg "max" = none
  z_min : mg "min" = none
  z_range : mg "range" = none
  z_set : mg "set" = none
  z_sorted : mg "sorted" = none
  z_str : mg "str" = none
  z_tuple : mg "tuple" = none
  c_NetError : Addr
  g_NetError : mg "NetError" = some (.ref c_NetError)
  k_base : PySem.W.subIn K (.ref c_NetError) (.type "BaseException") = some true
  k_dict : PySem.W.hasDictIn K c_NetError = true
  k_type : PySem.W.typeIn K (.ref c_NetError) = some (.type "type")
  k_get : PySem.W.specialIn K (.builtin "object.__class__") "__get__" = some (some (.builtin "getset_descriptor.__get__"))
  k_tak : PySem.W.takesIn K (.builtin "object.__class__") = some true
  c_BadName : Addr
  g_BadName : mg "BadName" = some (.ref c_BadName)
  e_BadName : ErrC K c_BadName c_NetError
  x_BadName : PySem.W.excIn K c_BadName [.type "ValueError", .type "Exception", .type "BaseException", .type "object"] "ValueError.__new__" = true
  c_BadNumber : Addr
  g_BadNumber : mg "BadNumber" = some (.ref c_BadNumber)
  e_BadNumber : ErrC K c_BadNumber c_NetError
  x_BadNumber : PySem.W.excIn K c_BadNumber [.type "ValueError", .type "Exception", .type "BaseException", .type "object"] "ValueError.__new__" = true
  c_BadWay : Addr
  g_BadWay : mg "BadWay" = some (.ref c_BadWay)
  e_BadWay : ErrC K c_BadWay c_NetError
  x_BadWay : PySem.W.excIn K c_BadWay [.type "ValueError", .type "Exception", .type "BaseException", .type "object"] "ValueError.__new__" = true
  c_BadEnds : Addr
  g_BadEnds : mg "BadEnds" = some (.ref c_BadEnds)
  e_BadEnds : ErrC K c_BadEnds c_NetError
  x_BadEnds : PySem.W.excIn K c_BadEnds [.type "ValueError", .type "Exception", .type "BaseException", .type "object"] "ValueError.__new__" = true
  c_BadLine : Addr
  g_BadLine : mg "BadLine" = some (.ref c_BadLine)
  e_BadLine : ErrC K c_BadLine c_NetError
  x_BadLine : PySem.W.excIn K c_BadLine [.type "ValueError", .type "Exception", .type "BaseException", .type "object"] "ValueError.__new__" = true
  c_Taken : Addr
  g_Taken : mg "Taken" = some (.ref c_Taken)
  e_Taken : ErrC K c_Taken c_NetError
  OX_Taken : OexC K c_Taken
  XF_Taken : XfC K c_Taken
  XI_Taken : PySem.W.findIn K (.ref c_Taken) "__init__" = some (some (.ref f_Taken_init))
  XT_Taken : PySem.W.typeIn K (.ref f_Taken_init) = some (.type "function")
  XN_Taken_name : PySem.W.findIn K (.ref c_Taken) "name" = some none
  c_NoName : Addr
  g_NoName : mg "NoName" = some (.ref c_NoName)
  e_NoName : ErrC K c_NoName c_NetError
  OX_NoName : OexC K c_NoName
  XF_NoName : XfC K c_NoName
  XI_NoName : PySem.W.findIn K (.ref c_NoName) "__init__" = some (some (.ref f_NoName_init))
  XT_NoName : PySem.W.typeIn K (.ref f_NoName_init) = some (.type "function")
  XN_NoName_name : PySem.W.findIn K (.ref c_NoName) "name" = some none
  c_InUse : Addr
  g_InUse : mg "InUse" = some (.ref c_InUse)
  e_InUse : ErrC K c_InUse c_NetError
  OX_InUse : OexC K c_InUse
  XF_InUse : XfC K c_InUse
  XI_InUse : PySem.W.findIn K (.ref c_InUse) "__init__" = some (some (.ref f_InUse_init))
  XT_InUse : PySem.W.typeIn K (.ref f_InUse_init) = some (.type "function")
  XN_InUse_name : PySem.W.findIn K (.ref c_InUse) "name" = some none
  c_Full : Addr
  g_Full : mg "Full" = some (.ref c_Full)
  e_Full : ErrC K c_Full c_NetError
  x_Full : PySem.W.excIn K c_Full [.type "ValueError", .type "Exception", .type "BaseException", .type "object"] "ValueError.__new__" = true
  c_Tight : Addr
  g_Tight : mg "Tight" = some (.ref c_Tight)
  e_Tight : ErrC K c_Tight c_NetError
  c_Late : Addr
  g_Late : mg "Late" = some (.ref c_Late)
  e_Late : ErrC K c_Late c_NetError
  c_Heavy : Addr
  g_Heavy : mg "Heavy" = some (.ref c_Heavy)
  e_Heavy : ErrC K c_Heavy c_NetError
  c_NoPlan : Addr
  g_NoPlan : mg "NoPlan" = some (.ref c_NoPlan)
  e_NoPlan : ErrC K c_NoPlan c_NetError
  c_NoRoom : Addr
  g_NoRoom : mg "NoRoom" = some (.ref c_NoRoom)
  e_NoRoom : ErrC K c_NoRoom c_NetError
  x_NoRoom : PySem.W.excIn K c_NoRoom [.type "ValueError", .type "Exception", .type "BaseException", .type "object"] "ValueError.__new__" = true
  c_NoStep : Addr
  g_NoStep : mg "NoStep" = some (.ref c_NoStep)
  e_NoStep : ErrC K c_NoStep c_NetError
  x_NoStep : PySem.W.excIn K c_NoStep [.type "ValueError", .type "Exception", .type "BaseException", .type "object"] "ValueError.__new__" = true
  c_TooFew : Addr
  g_TooFew : mg "TooFew" = some (.ref c_TooFew)
  e_TooFew : ErrC K c_TooFew c_NetError
  x_TooFew : PySem.W.excIn K c_TooFew [.type "ValueError", .type "Exception", .type "BaseException", .type "object"] "ValueError.__new__" = true
  c_BadPage : Addr
  g_BadPage : mg "BadPage" = some (.ref c_BadPage)
  e_BadPage : ErrC K c_BadPage c_NetError
  x_BadPage : PySem.W.excIn K c_BadPage [.type "ValueError", .type "Exception", .type "BaseException", .type "object"] "ValueError.__new__" = true
  k_nd : [c_NetError, c_BadName, c_BadNumber, c_BadWay, c_BadEnds, c_BadLine, c_Taken, c_NoName, c_InUse, c_Full, c_Tight, c_Late, c_Heavy, c_NoPlan, c_NoRoom, c_NoStep, c_TooFew, c_BadPage].Nodup
theorem kb_Net_line_wire {K : PySem.W.Frag} {mg : Str → Option Value} {base : Heap} (T : Tx K mg base) : ∃ mv : List Value, KBn K T.fd_Net_line ["self", "name", "senders", "ears", "wire"] 4 ["wire"] (fun us ws => us ++ ((ws.drop 0).take 1)) (fun vs zs => vs ++ ((zs.drop 0).take 1)) :=
  T.D_Net_line.kbinds0 4 ["wire"] [] (fun vs mz zs => vs ++ ((zs.drop 0).take 1)) (by intro z; cases z) (fun q h => by simp at h ⊢; try (rcases h with rfl | rfl | rfl | rfl <;> simp); try (subst h; simp)) (fun a b c => a.append ((c.drop 0).take 1)) (fun D doc pm an cdv ct us mv ws h1 h2 h3 => by
    match us, h1, mv, h2, ws, h3 with
    | [_, _, _, _], _, [], _, [_], _ => exact rfl)
theorem kb_Net_line {K : PySem.W.Frag} {mg : Str → Option Value} {base : Heap} (T : Tx K mg base) : ∃ ds, Vals [V.int 1] ds ∧ Binds K T.fd_Net_line ["self", "name", "senders", "ears", "wire"] ds :=
  T.D_Net_line.binds0 4 (by intro z; cases z) rfl (fun D doc pm an cdv ct us ks h1 h2 => by
    match us, h1, ks, h2 with
    | [_, _, _, _], _, [_], _ => exact ⟨_, _, _, _, _, _, rfl, rfl, rfl⟩)
def spLaw (K : PySem.W.Frag) (tb : List Addr) : Sp := fun vs H Q _ => ∃ (a : Addr) (ns : List Int), vs = [.ref a] ∧ SqL K H a (ns.map V.int) ∧ ns.length ≤ 63 ∧ (∀ z ∈ ns, Builtin.Int.intBits z ≤ 1048576) ∧ (∀ p ∈ tb, LamX.TabS H p (QN.qn p)) ∧ ∀ H', Q (.bl true) H'
section
variable {P : Program} {w : World} {K : PySem.W.Frag} {mg : Str → Option Value} {base : Heap}
theorem ok_law_start (T : Tx K mg base) : FnOk P w K mg base CX0 1 T.f_law_start T.fd_law_start ["_law_script"] (spStart K) := by
  refine T.F_law_start.ok sc_law_start (fun vs H Q E h => ?_) (fun cdv A outer s H vs Q E hr h => ?_)
  · obtain ⟨a, ns, U, rfl, _⟩ := h
    rfl
  · obtain ⟨a, ns, U, rfl, hS, hU, q⟩ := h
    refine ⟨_, (pss_one (ps_ret (pe_lst (pa_cons (pe_callTy (call_listK (K := K) rfl) (by rfl) T.z_list bt_list (pa_cons (pe_slice (sl_listK (K := K) rfl) (pv 0) po_none (po_some pe_int)) pa_nil)) (pa_cons pe_int (pa_cons pe_int (pa_cons pe_int pa_nil))))))), ?_⟩
    walk_at "sw"
    refine ⟨a, _, rfl, hS, fun c nc => ?_⟩
    obtain ⟨ms, em⟩ := cut63 ns
    rw [em]
    have g1 : Gr [] U H U (upd H c (.lst (ms.map V.int))) := (Gr.refl hU).newM nc
    walk_at "sw"
    intro l nl
    have g2 := g1.new (o := .lst (ms.map V.int)) nl
    walk_at "sw"
    intro s ns'
    have g3 := g2.newM (o := .lst [.ref l, .int 0, .int 0, .int 90210]) ns'
    refine q s _ _ g3 ⟨⟨l, ms, 0, 0, 90210, upd_same, upd_same, Int.le_refl _, by omega, Int.le_refl _⟩, g2.vh.free ns'⟩ (g2.fresh ns')
theorem okh_law_draw (T : Tx K mg base) : FnOk P w K mg base CX0 1 T.f_law_draw T.fd_law_draw ["_law_s", "_law_many"] spDraw := by
  refine T.F_law_draw.ok sc_law_draw (fun vs H Q E h => ?_) (fun cdv A outer s0 H vs Q E hr h => ?_)
  · obtain ⟨s, many, U, rfl, _⟩ := h
    rfl
  · obtain ⟨s, many, U, rfl, h0, h2, hU, D, q⟩ := h
    obtain ⟨⟨l, ns, i, b, e, hs, hl, hi, hi2, hb⟩, hn⟩ := D
    have hlU := hU _ _ hl
    have sl : s ≠ l := fun z => by
      subst z
      rw [hn] at hl
      cases hl
    refine ⟨_, (pss_cons (ps_if (pt_cmpR op_eq (pe_ix (ix_listK (K := K) rfl) (pv 0) pe_int (fun _ _ => rfl)) pe_int (nomark _))
      (pss_cons (ps_set (i := 2) sc_law_draw.nd rfl (Or.inl rfl) pe_int)
      (pss_cons (ps_if (pt_cmpR op_lt (pe_ix (ix_listK (K := K) rfl) (pv 0) pe_int (fun _ _ => rfl)) (pe_callB (call_lenK (K := K) rfl) (by rfl) T.z_len bt_len (pa_cons (pe_ix (ix_listK (K := K) rfl) (pv 0) pe_int (fun _ _ => rfl)) pa_nil)) (nomark _))
      (pss_cons (ps_set (i := 2) sc_law_draw.nd rfl (Or.inl rfl) (pe_ix (ix_listK (K := K) rfl) (pe_ix (ix_listK (K := K) rfl) (pv 0) pe_int (fun _ _ => rfl)) (pe_ix (ix_listK (K := K) rfl) (pv 0) pe_int (fun _ _ => rfl)) (fun _ _ => rfl)))
      (pss_one (ps_asg (pe_op op_add (pe_ix (ix_listK (K := K) rfl) (pv 0) pe_int (fun _ _ => rfl)) pe_int) (pg_sub (pv 0) pe_int set_list))))
      pss_nil)
      (pss_one (ps_if ((pw_or (pt_cmpR op_ge (pv 2) (pe_op op_pow pe_int pe_int) (nomark _)) (pw_or1 (pt_cmpR op_le (pv 2) (pe_un un_neg (pe_op op_pow pe_int pe_int)) (nomark _))))).pt
      (pss_one (ps_asg (pe_callB call_abs (by rfl) T.z_abs bt_abs (pa_cons (pv 2) pa_nil)) (pg_sub (pv 0) pe_int set_list)))
      (pss_cons (ps_asg (pe_op op_mod (pe_op op_add (pe_op op_add (pe_op op_mul (pe_ix (ix_listK (K := K) rfl) (pv 0) pe_int (fun _ _ => rfl)) pe_int) (pe_op op_mod (pv 2) pe_int)) pe_int) pe_int) (pg_sub (pv 0) pe_int set_list))
      (pss_one (ps_ret (pe_op op_mod (pe_op op_fdiv (pe_ix (ix_listK (K := K) rfl) (pv 0) pe_int (fun _ _ => rfl)) pe_int) (pv 1)))))))))
      pss_nil)
      (pss_cons (ps_set (i := 3) sc_law_draw.nd rfl (Or.inl rfl) (pe_op op_mod (pe_ix (ix_listK (K := K) rfl) (pv 0) pe_int (fun _ _ => rfl)) (pv 1)))
      (pss_cons (ps_asg (pe_op op_fdivW (pe_ix (ix_listK (K := K) rfl) (pv 0) pe_int (fun _ _ => rfl)) (pv 1)) (pg_sub (pv 0) pe_int set_list))
      (pss_one (ps_ret (pv 3)))))), ?_⟩
    have w3 : ∀ z : Int, CDivW z many := fun z => wide_div h0 (b := 200) (by omega) (by decide) (by decide)
    -- the end, from a heap that has changed at s alone
    have fin : ∀ (H1 : Hp) (i1 b1 e1 : Int) (r : Int), (∀ a, a ≠ s → H1 a = H a) → H1 s = some (.lst [.ref l, .int i1, .int b1, .int e1]) → 0 ≤ i1 → i1 ≤ ns.length → 0 ≤ b1 → 0 ≤ r → r < many → Q (.int r) H1 := by
      intro H1 i1 b1 e1 r ho h1 a1 a2 a3 a4 a5
      refine q r H1 a4 a5 (fun a o ha => ?_) ⟨⟨l, ns, i1, b1, e1, h1, hl, a1, a2, a3⟩, hn⟩ ho
      have ne : a ≠ s := fun z => by
        subst z
        rw [hn] at ha
        cases ha
      rw [ho a ne]
      exact hU a o ha
    have tail : ∀ (H1 : Hp) (i1 b1 e1 : Int), (∀ a, a ≠ s → H1 a = H a) → H1 s = some (.lst [.ref l, .int i1, .int b1, .int e1]) → 0 ≤ i1 → i1 ≤ ns.length → 0 ≤ b1 →
        Q (.int (b1 % many)) (upd H1 s (.lst [.ref l, .int i1, .int (b1 / many), .int e1])) := by
      intro H1 i1 b1 e1 ho h1 a1 a2 a3
      refine fin _ i1 (b1 / many) e1 _ (fun a ne => ?_) upd_same a1 a2 (Int.ediv_nonneg a3 (by omega)) (Int.emod_nonneg _ (by omega)) (Int.emod_lt_of_pos _ h0)
      rw [upd_ne ne]
      exact ho a ne
    have ab : ∀ c : Int, 0 ≤ (if c < 0 then -c else c) := fun c => by split <;> omega
    have md : ∀ c : Int, 0 ≤ c % many ∧ c % many < many := fun c => ⟨Int.emod_nonneg _ (by omega), Int.emod_lt_of_pos _ h0⟩
    have un : ∀ (o : HO) (a : Addr), a ≠ s → upd H s o a = H a := fun o a ne => upd_ne ne
    have un2 : ∀ (o o' : HO) (a : Addr), a ≠ s → upd (upd H s o) s o' a = H a := fun o o' a ne => by rw [upd_ne ne, upd_ne ne]
    walk_at "sw"
    refine i_ite (fun h => ?_) (fun h => ?_)
    · walk_at "sw"
      refine i_ite (fun h => ?_) (fun h => ?_)
      · obtain ⟨j, rfl⟩ : ∃ j : Nat, i = (j : Int) := ⟨i.toNat, by omega⟩
        rw [List.length_map] at h
        have hj : j < ns.length := by omega
        walk_at "sw"
        refine i_ixL hlU (at_of (j := j) (v := V.int ns[j]) rfl (by rw [List.getElem?_map, List.getElem?_eq_getElem hj]; rfl)) ?_
        walk_at "sw"
        refine i_ite (fun h => ?_) (fun h => ?_)
        · walk_at "sw"
          exact tail _ (j + 1) _ e (un2 _ _) upd_same (by omega) (by omega) (ab _)
        · walk_at "sw"
          refine i_ite (fun h => ?_) (fun h => ?_)
          · walk_at "sw"
            exact tail _ (j + 1) _ e (un2 _ _) upd_same (by omega) (by omega) (ab _)
          · walk_at "sw"
            exact fin _ (j + 1) b _ _ (un2 _ _) upd_same (by omega) (by omega) hb (md _).1 (md _).2
      · walk_at "sw"
        refine i_ite (fun h => ?_) (fun h => ?_)
        · walk_at "sw"
          exact tail _ i _ e (un _) upd_same hi hi2 (ab _)
        · walk_at "sw"
          refine i_ite (fun h => ?_) (fun h => ?_)
          · walk_at "sw"
            exact tail _ i _ e (un _) upd_same hi hi2 (ab _)
          · walk_at "sw"
            exact fin _ i b _ _ (un _) upd_same hi hi2 hb (md _).1 (md _).2
    · walk_at "sw"
      exact tail H i b e (fun a _ => rfl) hs hi hi2 hb
abbrev A_law_draw (T : Tx K mg base) : AF := A_draw
theorem ok_law_draw (T : Tx K mg base) : FnOk P w K mg base CX0 1 T.f_law_draw T.fd_law_draw ["_law_s", "_law_many"] (spD K T.tb (A_law_draw T)) := (okh_law_draw T).imp draw_imp
theorem ok_NoName_init (T : Tx K mg base) : FnOk P w K mg base CX0 1 T.f_NoName_init T.fd_NoName_init ["self", "name"] (spX1 K "name") := by
  refine T.F_NoName_init.ok sc_NoName_init (fun vs H Q E h => ?_) (fun cdv A outer s0 H vs Q E hr h => ?_)
  · obtain ⟨a, C, y0, rfl, _⟩ := h
    rfl
  · obtain ⟨a, C, y0, rfl, k⟩ := id h
    exact ⟨_, (pss_one (ps_ost (pv 0) (pv 1))), run_x1 h⟩
theorem ok_Taken_init (T : Tx K mg base) : FnOk P w K mg base CX0 1 T.f_Taken_init T.fd_Taken_init ["self", "name"] (spX1 K "name") := by
  refine T.F_Taken_init.ok sc_Taken_init (fun vs H Q E h => ?_) (fun cdv A outer s0 H vs Q E hr h => ?_)
  · obtain ⟨a, C, y0, rfl, _⟩ := h
    rfl
  · obtain ⟨a, C, y0, rfl, k⟩ := id h
    exact ⟨_, (pss_one (ps_ost (pv 0) (pv 1))), run_x1 h⟩
theorem ok_InUse_init (T : Tx K mg base) : FnOk P w K mg base CX0 1 T.f_InUse_init T.fd_InUse_init ["self", "name"] (spX1 K "name") := by
  refine T.F_InUse_init.ok sc_InUse_init (fun vs H Q E h => ?_) (fun cdv A outer s0 H vs Q E hr h => ?_)
  · obtain ⟨a, C, y0, rfl, _⟩ := h
    rfl
  · obtain ⟨a, C, y0, rfl, k⟩ := id h
    exact ⟨_, (pss_one (ps_ost (pv 0) (pv 1))), run_x1 h⟩
def b_within (T : Tx K mg base) : AS := (aSeq (aIf (aOr (aNot (aTest (aCB oIsi (aCons (aVar 0) (aCons (aC (.ty "int")) aNil))))) (aTest (aCB oIsi (aCons (aVar 0) (aCons (aC (.ty "bool")) aNil)))))
    (aRet (aC (.bl false)))
    aNext)
    (aRet (aChain oLe oLe (aVar 1) (aVar 0) (aVar 2))))
abbrev A_within (T : Tx K mg base) : AF := bodyA [false, false, false] 0 (b_within T)
theorem A_within_of (T : Tx K mg base) {d0 d1 d2 : D} {q : AV → Prop} {x : Exn → Prop} (h : b_within T ⟨fun _ => q (.fz .non), fun av _ => q av, fun _ => False, fun _ => False, fun e _ => x e⟩ [some (.fz d0), some (.fz d1), some (.fz d2)]) : A_within T [.fz d0, .fz d1, .fz d2] q x := ⟨rfl, h⟩
theorem ok_within (T : Tx K mg base) : FnOk P w K mg base CX0 1 T.f_within T.fd_within ["value", "low", "high"] (spD K T.tb (A_within T)) := by
  refine T.F_within.ok sc_within (fun vs H Q E h => spD_len h) (fun cdv A outer s0 H vs Q E hr h => ?_)
  have hst : L2.start ["value", "low", "high"] vs = vs.map some ++ List.replicate 0 none := by
    unfold L2.start
    rw [spD_len h]
    rfl
  refine ⟨_, (pss_cons (ps_if ((pw_or (pt_not (pt_val (pe_callB (call_isiKK (K := K) rfl) (by rfl) T.z_isinstance bt_isinstance (pa_cons (pv 0) (pa_cons (pe_bltn (v := .ty "int") (by rfl) T.z_int bt_int rfl) pa_nil))))) (pw_or1 (pt_val (pe_callB (call_isiKK (K := K) rfl) (by rfl) T.z_isinstance bt_isinstance (pa_cons (pv 0) (pa_cons (pe_bltn (v := .ty "bool") (by rfl) T.z_bool bt_bool rfl) pa_nil))))))).pt
      (pss_one (ps_ret pe_bl))
      pss_nil)
      (pss_one (ps_ret (pe_chain op_le op_le (pv 1) (pv 0) (pv 2))))), run_body h hst fun pk pv O M U0 H0 X => ?_⟩
  unfold b_within
  exact (sim_seq (sim_if (sim_or (sim_not (sim_test (SimE.w (sim_cb bu_isi (sim_consW (SimE.w sim_var) (sim_consW (SimE.w sim_ty) sim_nilW)))))) (sim_test (SimE.w (sim_cb bu_isi (sim_consW (SimE.w sim_var) (sim_consW (SimE.w sim_ty) sim_nilW))))))
    (sim_ret sim_bl)
    sim_next)
    (sim_ret (sim_chain (op_i0 (fun _ _ _ => rfl)) (op_i0 (fun _ _ _ => rfl)) (SimE.w sim_var) (SimE.w sim_var) (SimE.w sim_var))))
def b_check (T : Tx K mg base) : AS := (aIf (aNot (aTest (aFz (aCall0 (A_within T) (aArg (aVar 0) (aArg (aVar 1) (aArg (aVar 2) aArgs)))))))
    (aRaise T.c_BadNumber)
    aNext)
abbrev A_check (T : Tx K mg base) : AF := bodyA [false, false, false] 0 (b_check T)
theorem A_check_of (T : Tx K mg base) {d0 d1 d2 : D} {q : AV → Prop} {x : Exn → Prop} (h : b_check T ⟨fun _ => q (.fz .non), fun av _ => q av, fun _ => False, fun _ => False, fun e _ => x e⟩ [some (.fz d0), some (.fz d1), some (.fz d2)]) : A_check T [.fz d0, .fz d1, .fz d2] q x := ⟨rfl, h⟩
theorem ok_check (T : Tx K mg base) : FnOk P w K mg base (L2.CX P w) 2 T.f_check T.fd_check ["value", "low", "high"] (spD K T.tb (A_check T)) := by
  refine T.F_check.okX sc_check (fun vs H Q E h => spD_len h) (fun cdv A outer s0 H vs Q E hr h => ?_)
  have hst : L2.start ["value", "low", "high"] vs = vs.map some ++ List.replicate 0 none := by
    unfold L2.start
    rw [spD_len h]
    rfl
  refine ⟨_, (pss_one (ps_if (pt_not (pt_val (pe_call (ok_within T) (hr.mono (by decide)) (by rfl) T.g_within T.F_within.kp T.b_within .nil pass0 (pa_cons (pv 0) (pa_cons (pv 1) (pa_cons (pv 2) pa_nil))))))
      (pss_one (ps_raise0 rfl (takes_of rfl rfl rfl rfl) (pmk_own0 PySem.F.excBase_ValueError T.x_BadNumber T.g_BadNumber T.e_BadNumber.kp T.e_BadNumber.raises (by rfl))))
      pss_nil)), run_body h hst fun pk pv O M U0 H0 X => ?_⟩
  unfold b_check
  exact (sim_if (sim_not (sim_test (SimE.w (sim_fz (sim_call (sim_arg sim_var (sim_arg sim_var (sim_arg sim_var sim_args))))))))
    (sim_raise (fun _ => rfl))
    sim_next)
def b_good_name (T : Tx K mg base) : AS := (aSeq (aIf (aOr (aTest (aOp oLt (aCB oLenS (aCons (aVar 0) aNil)) (aC (.int 1)))) (aTest (aOp oGt (aCB oLenS (aCons (aVar 0) aNil)) (aC (.int 8)))))
    (aRet (aC (.bl false)))
    aNext)
    (aRet (aCB oAll (aCons (aFz (aLc (aItS (aVar 0)) (gN 1) aYes (aOp oInS (aVar 1) (aC (.str "abcdefghijklmnopqrstuvwxyz"))) [1])) aNil))))
abbrev A_good_name (T : Tx K mg base) : AF := bodyA [false] 1 (b_good_name T)
theorem A_good_name_of (T : Tx K mg base) {d0 : D} {q : AV → Prop} {x : Exn → Prop} (h : b_good_name T ⟨fun _ => q (.fz .non), fun av _ => q av, fun _ => False, fun _ => False, fun e _ => x e⟩ [some (.fz d0), none]) : A_good_name T [.fz d0] q x := ⟨rfl, h⟩
theorem ok_good_name (T : Tx K mg base) : FnOk P w K mg base CX0 1 T.f_good_name T.fd_good_name ["name"] (spD K T.tb (A_good_name T)) := by
  refine T.F_good_name.ok sc_good_name (fun vs H Q E h => spD_len h) (fun cdv A outer s0 H vs Q E hr h => ?_)
  have hst : L2.start ["name", "sign"] vs = vs.map some ++ List.replicate 1 none := by
    unfold L2.start
    rw [spD_len h]
    rfl
  refine ⟨_, (pss_cons (ps_if ((pw_or (pt_cmpR op_lt (pe_callB call_len_str (by rfl) T.z_len bt_len (pa_cons (pv 0) pa_nil)) pe_int (nomark _)) (pw_or1 (pt_cmpR op_gt (pe_callB call_len_str (by rfl) T.z_len bt_len (pa_cons (pv 0) pa_nil)) pe_int (nomark _))))).pt
      (pss_one (ps_ret pe_bl))
      pss_nil)
      (pss_one (ps_ret (pe_callB (cr_allK (K := K) rfl (by rfl)) (by rfl) T.z_all bt_all (pa_cons (pe_lc (own := [("sign", 1)]) (by rfl) sc_good_name.nd (pi_str (pv 0)) (blkOk_by (own := [("sign", 1)]) (N := ["name", "sign"]) (sc := defScope s_good_name) (by decide +kernel)) (fun _ _ _ _ _ => (pg_name (i := 1) sc_good_name.nd rfl (Or.inl rfl))) (fun _ _ _ _ _ => pts_nil) (fun _ _ _ _ _ => (pe_cmpR op_in_sign (pv 1) (pe_glob (v := .str "abcdefghijklmnopqrstuvwxyz") (by rfl) T.g_LETTERS ⟨_, rfl⟩) (by with_unfolding_all rfl)))) pa_nil))))), run_body h hst fun pk pv O M U0 H0 X => ?_⟩
  unfold b_good_name
  exact (sim_seq (sim_if (sim_or (sim_test (SimE.w (sim_op (op_i0 (fun _ _ _ => rfl)) (SimE.w (sim_cb bu_lenS (sim_consW (SimE.w sim_var) sim_nilW))) (SimE.w sim_int)))) (sim_test (SimE.w (sim_op (op_i0 (fun _ _ _ => rfl)) (SimE.w (sim_cb bu_lenS (sim_consW (SimE.w sim_var) sim_nilW))) (SimE.w sim_int)))))
    (sim_ret sim_bl)
    sim_next)
    (sim_ret (sim_cb bu_all (sim_consW (SimE.w (sim_fz (sim_lc (SimI.w (sim_itS sim_var)) (sim_gN rfl) sim_yes (sim_op op_inSS (SimE.w sim_var) (SimE.w sim_str)) rfl rfl))) sim_nilW))))
def b_Net_init (T : Tx K mg base) : AS := (aSeq (aFldSetO 0 T.c_Net "kinds" aDNew)
    (aFldSetO 0 T.c_Net "rows" aDNew))
abbrev A_Net_init (T : Tx K mg base) : AFM := bodyM [6] 0 (b_Net_init T)
theorem A_Net_init_of (T : Tx K mg base) (c0 x0 : Addr) (n0 : List Str) (w0 : List V) (a0 : List AV) {q : AV → List AV → Prop} {x : Exn → List AV → Prop} (h : b_Net_init T ⟨fun ρ => q (.fz .non) (mrg [.ob c0 x0 n0 w0 a0] (selM [true] ρ)), fun av ρ => q av (mrg [.ob c0 x0 n0 w0 a0] (selM [true] ρ)), fun _ => False, fun _ => False, fun e ρ => x e (mrg [.ob c0 x0 n0 w0 a0] (selM [true] ρ))⟩ [some (.ob c0 x0 n0 w0 a0)]) : A_Net_init T [.ob c0 x0 n0 w0 a0] q x := ⟨rfl, h⟩
theorem ok_Net_init (T : Tx K mg base) : FnOk P w K mg base (L2.CX P w) 1 T.f_Net_init T.fd_Net_init ["self"] (spM K T.tb (A_Net_init T)) := by
  refine T.F_Net_init.okX sc_Net_init (fun vs H Q E h => spM_len h) (fun cdv A outer s0 H vs Q E hr h => ?_)
  have hst : L2.start ["self"] vs = vs.map some ++ List.replicate 0 none := by
    unfold L2.start
    rw [spM_len h]
    rfl
  have cl_Net := T.C_Net
  have na_Net_kinds := T.N_Net_kinds
  have na_Net_rows := T.N_Net_rows
  refine ⟨_, (pss_cons (ps_fldK (K := K) rfl (pv 0) pe_dnewK rfl)
      (pss_one (ps_fldK (K := K) rfl (pv 0) pe_dnewK rfl))), run_bodyM h hst fun pk pv O M U0 H0 X => ?_⟩
  unfold b_Net_init
  exact (sim_seq (sim_fldSetO (by assumption) (by assumption) sim_dNew)
    (sim_fldSetO (by assumption) (by assumption) sim_dNew))
def b_Net_fresh (T : Tx K mg base) : AS := (aSeq (aIf (aNot (aTest (aFz (aCall0 (A_good_name T) (aArg (aVar 1) aArgs)))))
    (aRaise T.c_BadName)
    aNext)
    (aSeq (aIf (aTest (aDIn false (aVar 1) (aFldS 0 T.c_Net "kinds")))
    (aRaiseX1 T.c_Taken "name" (aCons (aVar 1) aNil))
    aNext)
    (aIf (aTest (aOp oGe (aCB oLen (aCons (aFz (aLcD 0 T.c_Net "kinds" (gN 3) (aTest (aOp oEq (aDIn false (aVar 3) (aFldS 0 T.c_Net "rows")) (aVar 2))) (aVar 3) [3])) aNil)) (aC (.int 16))))
    (aRaise T.c_Full)
    aNext)))
abbrev A_Net_fresh (T : Tx K mg base) : AFM := bodyM [6, 0, 0] 1 (b_Net_fresh T)
theorem A_Net_fresh_of (T : Tx K mg base) (c0 x0 : Addr) (n0 : List Str) (w0 : List V) (a0 : List AV) (d1 : D) (d2 : D) {q : AV → List AV → Prop} {x : Exn → List AV → Prop} (h : b_Net_fresh T ⟨fun ρ => q (.fz .non) (mrg [.ob c0 x0 n0 w0 a0, .fz d1, .fz d2] (selM [true, false, false] ρ)), fun av ρ => q av (mrg [.ob c0 x0 n0 w0 a0, .fz d1, .fz d2] (selM [true, false, false] ρ)), fun _ => False, fun _ => False, fun e ρ => x e (mrg [.ob c0 x0 n0 w0 a0, .fz d1, .fz d2] (selM [true, false, false] ρ))⟩ [some (.ob c0 x0 n0 w0 a0), some (.fz d1), some (.fz d2), none]) : A_Net_fresh T [.ob c0 x0 n0 w0 a0, .fz d1, .fz d2] q x := ⟨rfl, h⟩
theorem ok_Net_fresh (T : Tx K mg base) : FnOk P w K mg base (L2.CX P w) 3 T.f_Net_fresh T.fd_Net_fresh ["self", "name", "lined"] (spM K T.tb (A_Net_fresh T)) := by
  refine T.F_Net_fresh.okX sc_Net_fresh (fun vs H Q E h => spM_len h) (fun cdv A outer s0 H vs Q E hr h => ?_)
  have hst : L2.start ["self", "name", "lined", "one"] vs = vs.map some ++ List.replicate 1 none := by
    unfold L2.start
    rw [spM_len h]
    rfl
  have cl_Net := T.C_Net
  have na_Net_kinds := T.N_Net_kinds
  have na_Net_rows := T.N_Net_rows
  have ox_Taken := T.OX_Taken
  have xn_Taken_name := T.XN_Taken_name
  refine ⟨_, (pss_cons (ps_if (pt_not (pt_val (pe_call (ok_good_name T) (hr.mono (by decide)) (by rfl) T.g_good_name T.F_good_name.kp T.b_good_name .nil pass0 (pa_cons (pv 1) pa_nil))))
      (pss_one (ps_raise0 rfl (takes_of rfl rfl rfl rfl) (pmk_own0 PySem.F.excBase_ValueError T.x_BadName T.g_BadName T.e_BadName.kp T.e_BadName.raises (by rfl))))
      pss_nil)
      (pss_cons (ps_if (pt_cmp (pc_din (hu_of hr) (pv 1) (pe_fldK (K := K) rfl (pv 0) rfl)))
      (pss_one (ps_raiseX rfl (takes_of rfl rfl rfl rfl) (pmk_oex T.OX_Taken T.XI_Taken T.XT_Taken (ok_Taken_init T) (hr.mono (by decide)) T.b_Taken_init .nil pass0 (by rfl) T.g_Taken (pa_cons (pv 1) pa_nil))))
      pss_nil)
      (pss_one (ps_if (pt_cmpR op_ge (pe_callB (call_lenK (K := K) rfl) (by rfl) T.z_len bt_len (pa_cons (pe_lock (pe_lc (own := [("one", 3)]) (by rfl) sc_Net_fresh.nd (pi_keys (pe_fldK (K := K) rfl (pv 0) rfl)) (blkOk_by (own := [("one", 3)]) (N := ["self", "name", "lined", "one"]) (sc := defScope s_Net_fresh) (by decide +kernel)) (fun _ _ _ _ _ => (pg_name (i := 3) sc_Net_fresh.nd rfl (Or.inl rfl))) (fun _ _ _ _ _ => (pts_one (pt_cmpR op_eq (pe_cmp (pc_din (hu_of hr) (pv 3) (pe_fldK (K := K) rfl (pv 0) rfl))) (pv 2) (nomark _)))) (fun _ _ _ _ _ => (pv 3)))) pa_nil)) (pe_glob (v := .int 16) (by rfl) T.g_MOST ⟨_, rfl⟩) (nomark _))
      (pss_one (ps_raise0 rfl (takes_of rfl rfl rfl rfl) (pmk_own0 PySem.F.excBase_ValueError T.x_Full T.g_Full T.e_Full.kp T.e_Full.raises (by rfl))))
      pss_nil)))), run_bodyM h hst fun pk pv O M U0 H0 X => ?_⟩
  unfold b_Net_fresh
  exact (sim_seq (sim_if (sim_not (sim_test (SimE.w (sim_fz (sim_call (sim_arg sim_var sim_args))))))
    (sim_raise (fun _ => rfl))
    sim_next)
    (sim_seq (sim_if (sim_test (SimE.w (sim_dIn (SimE.w sim_var) (sim_fldS (by assumption) (by assumption)))))
    (sim_raiseX1 (by assumption) (by assumption) (fun _ _ _ _ h => h) (sim_cons sim_var sim_nil))
    sim_next)
    (sim_if (sim_test (SimE.w (sim_op (op_i0 (fun _ _ _ => rfl)) (SimE.w (sim_cb bu_len (sim_consW (SimE.w (sim_fz (sim_lcD (by assumption) (by assumption) (sim_gN rfl) (sim_test (SimE.w (sim_op op_eqS (SimE.w (sim_dIn (SimE.w sim_var) (sim_fldS (by assumption) (by assumption)))) (SimE.w sim_var)))) sim_var rfl rfl))) sim_nilW))) (SimE.w sim_int))))
    (sim_raise (fun _ => rfl))
    sim_next)))
def b_Net_house (T : Tx K mg base) : AS := (aSeq (mDrop (mFz (mMe T.c_Net "fresh" (A_Net_fresh T) 0 (aArg (aVar 1) (aArg (aC (.bl false)) aArgs)))))
    (aDPutF 0 T.c_Net "kinds" (aVar 1) (aC (.str "house"))))
abbrev A_Net_house (T : Tx K mg base) : AFM := bodyM [6, 0] 0 (b_Net_house T)
theorem A_Net_house_of (T : Tx K mg base) (c0 x0 : Addr) (n0 : List Str) (w0 : List V) (a0 : List AV) (d1 : D) {q : AV → List AV → Prop} {x : Exn → List AV → Prop} (h : b_Net_house T ⟨fun ρ => q (.fz .non) (mrg [.ob c0 x0 n0 w0 a0, .fz d1] (selM [true, false] ρ)), fun av ρ => q av (mrg [.ob c0 x0 n0 w0 a0, .fz d1] (selM [true, false] ρ)), fun _ => False, fun _ => False, fun e ρ => x e (mrg [.ob c0 x0 n0 w0 a0, .fz d1] (selM [true, false] ρ))⟩ [some (.ob c0 x0 n0 w0 a0), some (.fz d1)]) : A_Net_house T [.ob c0 x0 n0 w0 a0, .fz d1] q x := ⟨rfl, h⟩
theorem ok_Net_house (T : Tx K mg base) : FnOk P w K mg base (L2.CX P w) 4 T.f_Net_house T.fd_Net_house ["self", "name"] (spM K T.tb (A_Net_house T)) := by
  refine T.F_Net_house.okX sc_Net_house (fun vs H Q E h => spM_len h) (fun cdv A outer s0 H vs Q E hr h => ?_)
  have hst : L2.start ["self", "name"] vs = vs.map some ++ List.replicate 0 none := by
    unfold L2.start
    rw [spM_len h]
    rfl
  have cl_Net := T.C_Net
  have na_Net_kinds := T.N_Net_kinds
  refine ⟨_, (pss_cons (ps_expr (pe_meS (pv 0) T.C_Net T.m_Net_fresh (ok_Net_fresh T) (hr.mono (by decide)) T.b_Net_fresh .nil (fun σ => passAt (takes_of rfl rfl rfl rfl) σ) (pa_cons (pv 1) (pa_cons pe_bl pa_nil))))
      (pss_one (ps_dput (hu_of hr) (pe_fldK (K := K) rfl (pv 0) rfl) (pv 1) pe_str rfl))), run_bodyM h hst fun pk pv O M U0 H0 X => ?_⟩
  unfold b_Net_house
  exact (sim_seq (simM_drop (simM_fz (simM_me (fun _ => rfl) (sim_arg sim_var (sim_arg sim_bl sim_args)))))
    (sim_dPutF (by assumption) (by assumption) sim_var sim_str))
def b_Net_gate (T : Tx K mg base) : AS := (aSeq (mDrop (mFz (mMe T.c_Net "fresh" (A_Net_fresh T) 0 (aArg (aVar 1) (aArg (aC (.bl false)) aArgs)))))
    (aDPutF 0 T.c_Net "kinds" (aVar 1) (aC (.str "gate"))))
abbrev A_Net_gate (T : Tx K mg base) : AFM := bodyM [6, 0] 0 (b_Net_gate T)
theorem A_Net_gate_of (T : Tx K mg base) (c0 x0 : Addr) (n0 : List Str) (w0 : List V) (a0 : List AV) (d1 : D) {q : AV → List AV → Prop} {x : Exn → List AV → Prop} (h : b_Net_gate T ⟨fun ρ => q (.fz .non) (mrg [.ob c0 x0 n0 w0 a0, .fz d1] (selM [true, false] ρ)), fun av ρ => q av (mrg [.ob c0 x0 n0 w0 a0, .fz d1] (selM [true, false] ρ)), fun _ => False, fun _ => False, fun e ρ => x e (mrg [.ob c0 x0 n0 w0 a0, .fz d1] (selM [true, false] ρ))⟩ [some (.ob c0 x0 n0 w0 a0), some (.fz d1)]) : A_Net_gate T [.ob c0 x0 n0 w0 a0, .fz d1] q x := ⟨rfl, h⟩
theorem ok_Net_gate (T : Tx K mg base) : FnOk P w K mg base (L2.CX P w) 4 T.f_Net_gate T.fd_Net_gate ["self", "name"] (spM K T.tb (A_Net_gate T)) := by
  refine T.F_Net_gate.okX sc_Net_gate (fun vs H Q E h => spM_len h) (fun cdv A outer s0 H vs Q E hr h => ?_)
  have hst : L2.start ["self", "name"] vs = vs.map some ++ List.replicate 0 none := by
    unfold L2.start
    rw [spM_len h]
    rfl
  have cl_Net := T.C_Net
  have na_Net_kinds := T.N_Net_kinds
  refine ⟨_, (pss_cons (ps_expr (pe_meS (pv 0) T.C_Net T.m_Net_fresh (ok_Net_fresh T) (hr.mono (by decide)) T.b_Net_fresh .nil (fun σ => passAt (takes_of rfl rfl rfl rfl) σ) (pa_cons (pv 1) (pa_cons pe_bl pa_nil))))
      (pss_one (ps_dput (hu_of hr) (pe_fldK (K := K) rfl (pv 0) rfl) (pv 1) pe_str rfl))), run_bodyM h hst fun pk pv O M U0 H0 X => ?_⟩
  unfold b_Net_gate
  exact (sim_seq (simM_drop (simM_fz (simM_me (fun _ => rfl) (sim_arg sim_var (sim_arg sim_bl sim_args)))))
    (sim_dPutF (by assumption) (by assumption) sim_var sim_str))
def b_Net_line (T : Tx K mg base) : AS := (aSeq (mDrop (mFz (mMe T.c_Net "fresh" (A_Net_fresh T) 0 (aArg (aVar 1) (aArg (aC (.bl true)) aArgs)))))
    (aSeq (aFor (aItT (aTup (aCons (aVar 2) (aCons (aVar 3) aNil)))) (gN 5)
    (aIf (aOr (aTest (aOp oLt (aCB oLen (aCons (aVar 5) aNil)) (aC (.int 1)))) (aOr (aTest (aOp oGt (aCB oLen (aCons (aVar 5) aNil)) (aC (.int 6)))) (aTest (aOp oLt (aLenSet (aVar 5)) (aCB oLen (aCons (aVar 5) aNil))))))
    (aRaise T.c_BadEnds)
    aNext))
    (aSeq (aFor (aItT (aTup (aCons (aVar 2) (aCons (aVar 3) aNil)))) (gN 5)
    (aFor (aItT (aVar 5)) (gN 6)
    (aIf (aOr (aTest (aDIn true (aVar 6) (aFldS 0 T.c_Net "kinds"))) (aTest (aDIn false (aVar 6) (aFldS 0 T.c_Net "rows"))))
    (aRaiseX1 T.c_NoName "name" (aCons (aVar 6) aNil))
    aNext)))
    (aSeq (aDrop (aFz (aCall (A_check T) (aArg (aVar 4) (aArg (aC (.int 0)) (aArg (aC (.int 30)) aArgs))))))
    (aSeq (aDPutF 0 T.c_Net "kinds" (aVar 1) (aC (.str "line")))
    (aDPutF 0 T.c_Net "rows" (aVar 1) (aTup (aCons (aCB oTuple (aCons (aFz (aCBO oSortS (aCons (aVar 2) aNil))) aNil)) (aCons (aCB oTuple (aCons (aFz (aCBO oSortS (aCons (aVar 3) aNil))) aNil)) (aCons (aVar 4) aNil))))))))))
abbrev A_Net_line (T : Tx K mg base) : AFM := bodyM [6, 0, 0, 0, 0] 2 (b_Net_line T)
theorem A_Net_line_of (T : Tx K mg base) (c0 x0 : Addr) (n0 : List Str) (w0 : List V) (a0 : List AV) (d1 : D) (d2 : D) (d3 : D) (d4 : D) {q : AV → List AV → Prop} {x : Exn → List AV → Prop} (h : b_Net_line T ⟨fun ρ => q (.fz .non) (mrg [.ob c0 x0 n0 w0 a0, .fz d1, .fz d2, .fz d3, .fz d4] (selM [true, false, false, false, false] ρ)), fun av ρ => q av (mrg [.ob c0 x0 n0 w0 a0, .fz d1, .fz d2, .fz d3, .fz d4] (selM [true, false, false, false, false] ρ)), fun _ => False, fun _ => False, fun e ρ => x e (mrg [.ob c0 x0 n0 w0 a0, .fz d1, .fz d2, .fz d3, .fz d4] (selM [true, false, false, false, false] ρ))⟩ [some (.ob c0 x0 n0 w0 a0), some (.fz d1), some (.fz d2), some (.fz d3), some (.fz d4), none, none]) : A_Net_line T [.ob c0 x0 n0 w0 a0, .fz d1, .fz d2, .fz d3, .fz d4] q x := ⟨rfl, h⟩
theorem ok_Net_line (T : Tx K mg base) : FnOk P w K mg base (L2.CX P w) 4 T.f_Net_line T.fd_Net_line ["self", "name", "senders", "ears", "wire"] (spM K T.tb (A_Net_line T)) := by
  refine T.F_Net_line.okX sc_Net_line (fun vs H Q E h => spM_len h) (fun cdv A outer s0 H vs Q E hr h => ?_)
  have hst : L2.start ["self", "name", "senders", "ears", "wire", "ends", "one"] vs = vs.map some ++ List.replicate 2 none := by
    unfold L2.start
    rw [spM_len h]
    rfl
  have cl_Net := T.C_Net
  have na_Net_kinds := T.N_Net_kinds
  have na_Net_rows := T.N_Net_rows
  have ox_NoName := T.OX_NoName
  have xn_NoName_name := T.XN_NoName_name
  refine ⟨_, (pss_cons (ps_expr (pe_meS (pv 0) T.C_Net T.m_Net_fresh (ok_Net_fresh T) (hr.mono (by decide)) T.b_Net_fresh .nil (fun σ => passAt (takes_of rfl rfl rfl rfl) σ) (pa_cons (pv 1) (pa_cons pe_bl pa_nil))))
      (pss_cons (ps_for (passes_of rfl) rfl (pi_tupK (K := K) rfl (pe_tup (pa_cons (pv 2) (pa_cons (pv 3) pa_nil)))) (pg_name (i := 5) sc_Net_line.nd rfl (Or.inl rfl))
      (pss_one (ps_if ((pw_or (pt_cmpR op_lt (pe_callB (call_lenK (K := K) rfl) (by rfl) T.z_len bt_len (pa_cons (pv 5) pa_nil)) pe_int (nomark _)) (pw_or (pt_cmpR op_gt (pe_callB (call_lenK (K := K) rfl) (by rfl) T.z_len bt_len (pa_cons (pv 5) pa_nil)) (pe_glob (v := .int 6) (by rfl) T.g_MOST_ENDS ⟨_, rfl⟩) (nomark _)) (pw_or1 (pt_cmpR op_lt (pe_lenSetS (by rfl) (by rfl) T.z_len (by rfl) T.z_set (pv 5)) (pe_callB (call_lenK (K := K) rfl) (by rfl) T.z_len bt_len (pa_cons (pv 5) pa_nil)) (nomark _)))))).pt
      (pss_one (ps_raise0 rfl (takes_of rfl rfl rfl rfl) (pmk_own0 PySem.F.excBase_ValueError T.x_BadEnds T.g_BadEnds T.e_BadEnds.kp T.e_BadEnds.raises (by rfl))))
      pss_nil)))
      (pss_cons (ps_for (passes_of rfl) rfl (pi_tupK (K := K) rfl (pe_tup (pa_cons (pv 2) (pa_cons (pv 3) pa_nil)))) (pg_name (i := 5) sc_Net_line.nd rfl (Or.inl rfl))
      (pss_one (ps_for (passes_of rfl) rfl (pi_tupK (K := K) rfl (pv 5)) (pg_name (i := 6) sc_Net_line.nd rfl (Or.inl rfl))
      (pss_one (ps_if ((pw_or (pt_cmp (pc_dnotin (hu_of hr) (pv 6) (pe_fldK (K := K) rfl (pv 0) rfl))) (pw_or1 (pt_cmp (pc_din (hu_of hr) (pv 6) (pe_fldK (K := K) rfl (pv 0) rfl)))))).pt
      (pss_one (ps_raiseX rfl (takes_of rfl rfl rfl rfl) (pmk_oex T.OX_NoName T.XI_NoName T.XT_NoName (ok_NoName_init T) (hr.mono (by decide)) T.b_NoName_init .nil pass0 (by rfl) T.g_NoName (pa_cons (pv 6) pa_nil))))
      pss_nil)))))
      (pss_cons (ps_expr (pe_callS (ok_check T) (hr.mono (by decide)) (by rfl) T.g_check T.F_check.kp T.b_check (fun σ => passAt (takes_of rfl rfl rfl rfl) σ) (pa_cons (pv 4) (pa_cons pe_int (pa_cons pe_int pa_nil)))))
      (pss_cons (ps_dput (hu_of hr) (pe_fldK (K := K) rfl (pv 0) rfl) (pv 1) pe_str rfl)
      (pss_one (ps_dput (hu_of hr) (pe_fldK (K := K) rfl (pv 0) rfl) (pv 1) (pe_tup (pa_cons (pe_callTy (call_tupleK (K := K) rfl) (by rfl) T.z_tuple bt_tuple (pa_cons (pe_callB (cr_sortS (K := K) rfl) (by rfl) T.z_sorted bt_sorted (pa_cons (pv 2) pa_nil)) pa_nil)) (pa_cons (pe_callTy (call_tupleK (K := K) rfl) (by rfl) T.z_tuple bt_tuple (pa_cons (pe_callB (cr_sortS (K := K) rfl) (by rfl) T.z_sorted bt_sorted (pa_cons (pv 3) pa_nil)) pa_nil)) (pa_cons (pv 4) pa_nil)))) rfl))))))), run_bodyM h hst fun pk pv O M U0 H0 X => ?_⟩
  unfold b_Net_line
  exact (sim_seq (simM_drop (simM_fz (simM_me (fun _ => rfl) (sim_arg sim_var (sim_arg sim_bl sim_args)))))
    (sim_seq (sim_for (sim_itT (sim_tup (sim_cons sim_var (sim_cons sim_var sim_nil)))) (sim_gN rfl)
    (sim_if (sim_or (sim_test (SimE.w (sim_op (op_i0 (fun _ _ _ => rfl)) (SimE.w (sim_cb bu_len (sim_consW (SimE.w sim_var) sim_nilW))) (SimE.w sim_int)))) (sim_or (sim_test (SimE.w (sim_op (op_i0 (fun _ _ _ => rfl)) (SimE.w (sim_cb bu_len (sim_consW (SimE.w sim_var) sim_nilW))) (SimE.w sim_int)))) (sim_test (SimE.w (sim_op (op_i0 (fun _ _ _ => rfl)) (SimE.w (sim_lenSet rfl (SimE.w sim_var))) (SimE.w (sim_cb bu_len (sim_consW (SimE.w sim_var) sim_nilW))))))))
    (sim_raise (fun _ => rfl))
    sim_next))
    (sim_seq (sim_for (sim_itT (sim_tup (sim_cons sim_var (sim_cons sim_var sim_nil)))) (sim_gN rfl)
    (sim_for (sim_itT sim_var) (sim_gN rfl)
    (sim_if (sim_or (sim_test (SimE.w (sim_dNotIn (SimE.w sim_var) (sim_fldS (by assumption) (by assumption))))) (sim_test (SimE.w (sim_dIn (SimE.w sim_var) (sim_fldS (by assumption) (by assumption))))))
    (sim_raiseX1 (by assumption) (by assumption) (fun _ _ _ _ h => h) (sim_cons sim_var sim_nil))
    sim_next)))
    (sim_seq (sim_drop (sim_fz (sim_callS (fun _ => rfl) (sim_arg sim_var (sim_arg sim_int (sim_arg sim_int sim_args))))))
    (sim_seq (sim_dPutF (by assumption) (by assumption) sim_var sim_str)
    (sim_dPutF (by assumption) (by assumption) sim_var (sim_tup (sim_cons (sim_cb bu_tuple (sim_consW (SimE.w (sim_fz (sim_cbO bu_sortS (sim_consW (SimE.w sim_var) sim_nilW)))) sim_nilW)) (sim_cons (sim_cb bu_tuple (sim_consW (SimE.w (sim_fz (sim_cbO bu_sortS (sim_consW (SimE.w sim_var) sim_nilW)))) sim_nilW)) (sim_cons sim_var sim_nil))))))))))
def b_Net_names (T : Tx K mg base) : AS := (aRetO (aCBO oSortD (aCons (aFld T.c_Net "kinds" (aVar 0)) aNil)))
abbrev A_Net_names (T : Tx K mg base) : AF := bodyA [false] 0 (b_Net_names T)
theorem A_Net_names_of (T : Tx K mg base) {d0 : D} {q : AV → Prop} {x : Exn → Prop} (h : b_Net_names T ⟨fun _ => q (.fz .non), fun av _ => q av, fun _ => False, fun _ => False, fun e _ => x e⟩ [some (.fz d0)]) : A_Net_names T [.fz d0] q x := ⟨rfl, h⟩
theorem ok_Net_names (T : Tx K mg base) : FnOk P w K mg base CX0 1 T.f_Net_names T.fd_Net_names ["self"] (spD K T.tb (A_Net_names T)) := by
  refine T.F_Net_names.ok sc_Net_names (fun vs H Q E h => spD_len h) (fun cdv A outer s0 H vs Q E hr h => ?_)
  have hst : L2.start ["self"] vs = vs.map some ++ List.replicate 0 none := by
    unfold L2.start
    rw [spD_len h]
    rfl
  have cl_Net := T.C_Net
  have na_Net_kinds := T.N_Net_kinds
  refine ⟨_, (pss_one (ps_ret (pe_callB (cr_sortD (by rfl)) (by rfl) T.z_sorted bt_sorted (pa_cons (pe_fldK (K := K) rfl (pv 0) rfl) pa_nil)))), run_body h hst fun pk pv O M U0 H0 X => ?_⟩
  unfold b_Net_names
  exact (sim_retO (sim_cbO bu_sortD (sim_consW (SimE.w (sim_fld (by assumption) (by assumption) (SimE.w sim_var))) sim_nilW)))
def b_Net_kind (T : Tx K mg base) : AS := (aSeq (aIf (aTest (aDIn true (aVar 1) (aFld T.c_Net "kinds" (aVar 0))))
    (aRaiseX1 T.c_NoName "name" (aCons (aVar 1) aNil))
    aNext)
    (aRet (aDGet (aFld T.c_Net "kinds" (aVar 0)) (aVar 1))))
abbrev A_Net_kind (T : Tx K mg base) : AF := bodyA [false, false] 0 (b_Net_kind T)
theorem A_Net_kind_of (T : Tx K mg base) {d0 d1 : D} {q : AV → Prop} {x : Exn → Prop} (h : b_Net_kind T ⟨fun _ => q (.fz .non), fun av _ => q av, fun _ => False, fun _ => False, fun e _ => x e⟩ [some (.fz d0), some (.fz d1)]) : A_Net_kind T [.fz d0, .fz d1] q x := ⟨rfl, h⟩
theorem ok_Net_kind (T : Tx K mg base) : FnOk P w K mg base (L2.CX P w) 3 T.f_Net_kind T.fd_Net_kind ["self", "name"] (spD K T.tb (A_Net_kind T)) := by
  refine T.F_Net_kind.okX sc_Net_kind (fun vs H Q E h => spD_len h) (fun cdv A outer s0 H vs Q E hr h => ?_)
  have hst : L2.start ["self", "name"] vs = vs.map some ++ List.replicate 0 none := by
    unfold L2.start
    rw [spD_len h]
    rfl
  have cl_Net := T.C_Net
  have na_Net_kinds := T.N_Net_kinds
  have ox_NoName := T.OX_NoName
  have xn_NoName_name := T.XN_NoName_name
  refine ⟨_, (pss_cons (ps_if (pt_cmp (pc_dnotin (hu_of hr) (pv 1) (pe_fldK (K := K) rfl (pv 0) rfl)))
      (pss_one (ps_raiseX rfl (takes_of rfl rfl rfl rfl) (pmk_oex T.OX_NoName T.XI_NoName T.XT_NoName (ok_NoName_init T) (hr.mono (by decide)) T.b_NoName_init .nil pass0 (by rfl) T.g_NoName (pa_cons (pv 1) pa_nil))))
      pss_nil)
      (pss_one (ps_ret (pe_dget (hu_of hr) (pe_fldK (K := K) rfl (pv 0) rfl) (pv 1) (fun _ _ => rfl))))), run_body h hst fun pk pv O M U0 H0 X => ?_⟩
  unfold b_Net_kind
  exact (sim_seq (sim_if (sim_test (SimE.w (sim_dNotIn (SimE.w sim_var) (SimE.w (sim_fld (by assumption) (by assumption) (SimE.w sim_var))))))
    (sim_raiseX1 (by assumption) (by assumption) (fun _ _ _ _ h => h) (sim_cons sim_var sim_nil))
    sim_next)
    (sim_ret (sim_dGet (SimE.w (sim_fld (by assumption) (by assumption) (SimE.w sim_var))) (SimE.w sim_var))))
def b_Net_ends (T : Tx K mg base) : AS := (aSeq (aIf (aTest (aDIn true (aVar 1) (aFldS 0 T.c_Net "rows")))
    (aRaiseX1 T.c_NoName "name" (aCons (aVar 1) aNil))
    aNext)
    (aRet (aDGet (aFldS 0 T.c_Net "rows") (aVar 1))))
abbrev A_Net_ends (T : Tx K mg base) : AFM := bodyM [6, 0] 0 (b_Net_ends T)
theorem A_Net_ends_of (T : Tx K mg base) (c0 x0 : Addr) (n0 : List Str) (w0 : List V) (a0 : List AV) (d1 : D) {q : AV → List AV → Prop} {x : Exn → List AV → Prop} (h : b_Net_ends T ⟨fun ρ => q (.fz .non) (mrg [.ob c0 x0 n0 w0 a0, .fz d1] (selM [true, false] ρ)), fun av ρ => q av (mrg [.ob c0 x0 n0 w0 a0, .fz d1] (selM [true, false] ρ)), fun _ => False, fun _ => False, fun e ρ => x e (mrg [.ob c0 x0 n0 w0 a0, .fz d1] (selM [true, false] ρ))⟩ [some (.ob c0 x0 n0 w0 a0), some (.fz d1)]) : A_Net_ends T [.ob c0 x0 n0 w0 a0, .fz d1] q x := ⟨rfl, h⟩
theorem ok_Net_ends (T : Tx K mg base) : FnOk P w K mg base (L2.CX P w) 3 T.f_Net_ends T.fd_Net_ends ["self", "name"] (spM K T.tb (A_Net_ends T)) := by
  refine T.F_Net_ends.okX sc_Net_ends (fun vs H Q E h => spM_len h) (fun cdv A outer s0 H vs Q E hr h => ?_)
  have hst : L2.start ["self", "name"] vs = vs.map some ++ List.replicate 0 none := by
    unfold L2.start
    rw [spM_len h]
    rfl
  have cl_Net := T.C_Net
  have na_Net_rows := T.N_Net_rows
  have ox_NoName := T.OX_NoName
  have xn_NoName_name := T.XN_NoName_name
  refine ⟨_, (pss_cons (ps_if (pt_cmp (pc_dnotin (hu_of hr) (pv 1) (pe_fldK (K := K) rfl (pv 0) rfl)))
      (pss_one (ps_raiseX rfl (takes_of rfl rfl rfl rfl) (pmk_oex T.OX_NoName T.XI_NoName T.XT_NoName (ok_NoName_init T) (hr.mono (by decide)) T.b_NoName_init .nil pass0 (by rfl) T.g_NoName (pa_cons (pv 1) pa_nil))))
      pss_nil)
      (pss_one (ps_ret (pe_dget (hu_of hr) (pe_fldK (K := K) rfl (pv 0) rfl) (pv 1) (fun _ _ => rfl))))), run_bodyM h hst fun pk pv O M U0 H0 X => ?_⟩
  unfold b_Net_ends
  exact (sim_seq (sim_if (sim_test (SimE.w (sim_dNotIn (SimE.w sim_var) (sim_fldS (by assumption) (by assumption)))))
    (sim_raiseX1 (by assumption) (by assumption) (fun _ _ _ _ h => h) (sim_cons sim_var sim_nil))
    sim_next)
    (sim_ret (sim_dGet (sim_fldS (by assumption) (by assumption)) (SimE.w sim_var))))
def b_Net_drop (T : Tx K mg base) : AS := (aSeq (aIf (aTest (aDIn true (aVar 1) (aFldS 0 T.c_Net "kinds")))
    (aRaiseX1 T.c_NoName "name" (aCons (aVar 1) aNil))
    aNext)
    (aSeq (aFor (aItL (aFz (aCBO oSortD (aCons (aFldS 0 T.c_Net "rows") aNil)))) (gN 2)
    (aSeq (aAsg (aDGet (aFldS 0 T.c_Net "rows") (aVar 2)) (gT 3 (gsCons (gN 3) (gsCons (gN 4) (gsCons (gN 5) gsNil)))))
    (aIf (aOr (aTest (aOp oIn (aVar 1) (aVar 3))) (aTest (aOp oIn (aVar 1) (aVar 4))))
    (aRaiseX1 T.c_InUse "name" (aCons (aVar 2) aNil))
    aNext)))
    (aSeq (aDPopF 0 T.c_Net "kinds" (aVar 1))
    (aIf (aTest (aDIn false (aVar 1) (aFldS 0 T.c_Net "rows")))
    (aDPopF 0 T.c_Net "rows" (aVar 1))
    aNext))))
abbrev A_Net_drop (T : Tx K mg base) : AFM := bodyM [6, 0] 4 (b_Net_drop T)
theorem A_Net_drop_of (T : Tx K mg base) (c0 x0 : Addr) (n0 : List Str) (w0 : List V) (a0 : List AV) (d1 : D) {q : AV → List AV → Prop} {x : Exn → List AV → Prop} (h : b_Net_drop T ⟨fun ρ => q (.fz .non) (mrg [.ob c0 x0 n0 w0 a0, .fz d1] (selM [true, false] ρ)), fun av ρ => q av (mrg [.ob c0 x0 n0 w0 a0, .fz d1] (selM [true, false] ρ)), fun _ => False, fun _ => False, fun e ρ => x e (mrg [.ob c0 x0 n0 w0 a0, .fz d1] (selM [true, false] ρ))⟩ [some (.ob c0 x0 n0 w0 a0), some (.fz d1), none, none, none, none]) : A_Net_drop T [.ob c0 x0 n0 w0 a0, .fz d1] q x := ⟨rfl, h⟩
theorem ok_Net_drop (T : Tx K mg base) : FnOk P w K mg base (L2.CX P w) 3 T.f_Net_drop T.fd_Net_drop ["self", "name"] (spM K T.tb (A_Net_drop T)) := by
  refine T.F_Net_drop.okX sc_Net_drop (fun vs H Q E h => spM_len h) (fun cdv A outer s0 H vs Q E hr h => ?_)
  have hst : L2.start ["self", "name", "line", "senders", "ears", "wire"] vs = vs.map some ++ List.replicate 4 none := by
    unfold L2.start
    rw [spM_len h]
    rfl
  have cl_Net := T.C_Net
  have na_Net_kinds := T.N_Net_kinds
  have na_Net_rows := T.N_Net_rows
  have ox_InUse := T.OX_InUse
  have xn_InUse_name := T.XN_InUse_name
  have ox_NoName := T.OX_NoName
  have xn_NoName_name := T.XN_NoName_name
  refine ⟨_, (pss_cons (ps_if (pt_cmp (pc_dnotin (hu_of hr) (pv 1) (pe_fldK (K := K) rfl (pv 0) rfl)))
      (pss_one (ps_raiseX rfl (takes_of rfl rfl rfl rfl) (pmk_oex T.OX_NoName T.XI_NoName T.XT_NoName (ok_NoName_init T) (hr.mono (by decide)) T.b_NoName_init .nil pass0 (by rfl) T.g_NoName (pa_cons (pv 1) pa_nil))))
      pss_nil)
      (pss_cons (ps_for (passes_of rfl) rfl (pi_listK (K := K) rfl (pe_callB (cr_sortD (by rfl)) (by rfl) T.z_sorted bt_sorted (pa_cons (pe_fldK (K := K) rfl (pv 0) rfl) pa_nil))) (pg_name (i := 2) sc_Net_drop.nd rfl (Or.inl rfl))
      (pss_cons (ps_asg (pe_dget (hu_of hr) (pe_fldK (K := K) rfl (pv 0) rfl) (pv 2) (fun _ _ => rfl)) (pg_tupK (K := K) (n := 3) rfl (by rfl) (pgs_cons (pg_name (i := 3) sc_Net_drop.nd rfl (Or.inl rfl)) (pgs_cons (pg_name (i := 4) sc_Net_drop.nd rfl (Or.inl rfl)) (pgs_cons (pg_name (i := 5) sc_Net_drop.nd rfl (Or.inl rfl)) pgs_nil)))))
      (pss_one (ps_if ((pw_or (pt_cmpR (op_inK (K := K) rfl) (pv 1) (pv 3) (by with_unfolding_all rfl)) (pw_or1 (pt_cmpR (op_inK (K := K) rfl) (pv 1) (pv 4) (by with_unfolding_all rfl))))).pt
      (pss_one (ps_raiseX rfl (takes_of rfl rfl rfl rfl) (pmk_oex T.OX_InUse T.XI_InUse T.XT_InUse (ok_InUse_init T) (hr.mono (by decide)) T.b_InUse_init .nil pass0 (by rfl) T.g_InUse (pa_cons (pv 2) pa_nil))))
      pss_nil))))
      (pss_cons (ps_expr (pe_dpop1 (pe_fldK (K := K) rfl (pv 0) rfl) (pv 1) ⟨rfl, rfl, rfl, rfl⟩))
      (pss_one (ps_if (pt_cmp (pc_din (hu_of hr) (pv 1) (pe_fldK (K := K) rfl (pv 0) rfl)))
      (pss_one (ps_expr (pe_dpop1 (pe_fldK (K := K) rfl (pv 0) rfl) (pv 1) ⟨rfl, rfl, rfl, rfl⟩)))
      pss_nil))))), run_bodyM h hst fun pk pv O M U0 H0 X => ?_⟩
  unfold b_Net_drop
  exact (sim_seq (sim_if (sim_test (SimE.w (sim_dNotIn (SimE.w sim_var) (sim_fldS (by assumption) (by assumption)))))
    (sim_raiseX1 (by assumption) (by assumption) (fun _ _ _ _ h => h) (sim_cons sim_var sim_nil))
    sim_next)
    (sim_seq (sim_for (sim_itL (sim_fz (sim_cbO bu_sortD (sim_consW (sim_fldS (by assumption) (by assumption)) sim_nilW)))) (sim_gN rfl)
    (sim_seq (sim_asg (sim_dGet (sim_fldS (by assumption) (by assumption)) (SimE.w sim_var)) (sim_gT (sim_gsCons (sim_gN rfl) (sim_gsCons (sim_gN rfl) (sim_gsCons (sim_gN rfl) sim_gsNil)))))
    (sim_if (sim_or (sim_test (SimE.w (sim_op op_inS' (SimE.w sim_var) (SimE.w sim_var)))) (sim_test (SimE.w (sim_op op_inS' (SimE.w sim_var) (SimE.w sim_var)))))
    (sim_raiseX1 (by assumption) (by assumption) (fun _ _ _ _ h => h) (sim_cons sim_var sim_nil))
    sim_next)))
    (sim_seq (sim_dPopF (by assumption) (by assumption) sim_var)
    (sim_if (sim_test (SimE.w (sim_dIn (SimE.w sim_var) (sim_fldS (by assumption) (by assumption)))))
    (sim_dPopF (by assumption) (by assumption) sim_var)
    sim_next))))
def b_Net_len (T : Tx K mg base) : AS := (aRet (aCB oLenD (aCons (aFld T.c_Net "kinds" (aVar 0)) aNil)))
abbrev A_Net_len (T : Tx K mg base) : AF := bodyA [false] 0 (b_Net_len T)
theorem A_Net_len_of (T : Tx K mg base) {d0 : D} {q : AV → Prop} {x : Exn → Prop} (h : b_Net_len T ⟨fun _ => q (.fz .non), fun av _ => q av, fun _ => False, fun _ => False, fun e _ => x e⟩ [some (.fz d0)]) : A_Net_len T [.fz d0] q x := ⟨rfl, h⟩
theorem ok_Net_len (T : Tx K mg base) : FnOk P w K mg base CX0 1 T.f_Net_len T.fd_Net_len ["self"] (spD K T.tb (A_Net_len T)) := by
  refine T.F_Net_len.ok sc_Net_len (fun vs H Q E h => spD_len h) (fun cdv A outer s0 H vs Q E hr h => ?_)
  have hst : L2.start ["self"] vs = vs.map some ++ List.replicate 0 none := by
    unfold L2.start
    rw [spD_len h]
    rfl
  have cl_Net := T.C_Net
  have na_Net_kinds := T.N_Net_kinds
  refine ⟨_, (pss_one (ps_ret (pe_callB call_lenD (by rfl) T.z_len bt_len (pa_cons (pe_fldK (K := K) rfl (pv 0) rfl) pa_nil)))), run_body h hst fun pk pv O M U0 H0 X => ?_⟩
  unfold b_Net_len
  exact (sim_ret (sim_cb bu_lenD (sim_consW (SimE.w (sim_fld (by assumption) (by assumption) (SimE.w sim_var))) sim_nilW)))
def b_law_pick (T : Tx K mg base) : AS := (aRet (aOp oIxL (aVar 1) (aFz (aCall0 (A_law_draw T) (aSlot 0 (aArg (aCB oLen (aCons (aVar 1) aNil)) aArgs))))))
abbrev A_law_pick (T : Tx K mg base) : AF := bodyA [true, false] 0 (b_law_pick T)
theorem A_law_pick_of (T : Tx K mg base) {d1 : D} {q : AV → Prop} {x : Exn → Prop} (h : b_law_pick T ⟨fun _ => q (.fz .non), fun av _ => q av, fun _ => False, fun _ => False, fun e _ => x e⟩ [some (.dr), some (.fz d1)]) : A_law_pick T [.dr, .fz d1] q x := ⟨rfl, h⟩
theorem ok_law_pick (T : Tx K mg base) : FnOk P w K mg base CX0 2 T.f_law_pick T.fd_law_pick ["_law_s", "_law_row_here"] (spD K T.tb (A_law_pick T)) := by
  refine T.F_law_pick.ok sc_law_pick (fun vs H Q E h => spD_len h) (fun cdv A outer s0 H vs Q E hr h => ?_)
  have hst : L2.start ["_law_s", "_law_row_here"] vs = vs.map some ++ List.replicate 0 none := by
    unfold L2.start
    rw [spD_len h]
    rfl
  refine ⟨_, (pss_one (ps_ret (pe_ix (ix_listK (K := K) rfl) (pv 1) (pe_call (ok_law_draw T) (hr.mono (by decide)) (by rfl) T.g_law_draw T.F_law_draw.kp T.b_law_draw .nil pass0 (pa_cons (pv 0) (pa_cons (pe_callB (call_lenK (K := K) rfl) (by rfl) T.z_len bt_len (pa_cons (pv 1) pa_nil)) pa_nil))) (fun _ _ => rfl)))), run_body h hst fun pk pv O M U0 H0 X => ?_⟩
  unfold b_law_pick
  exact (sim_ret (sim_op op_ixL (SimE.w sim_var) (SimE.w (sim_fz (sim_call (sim_slot (sim_arg (sim_cb bu_len (sim_consW (SimE.w sim_var) sim_nilW)) sim_args)))))))
def b_law_name_1 (T : Tx K mg base) : AS := (aSeq (aSet 5 (aBmS oJoin (aC (.str "")) (aCons (aFz (aLc (aRng1 (aCons (aVar 4) aNil)) (gN 6) aYes (aOp oIxS (aVar 2) (aFz (aCall0 (A_law_draw T) (aSlot 0 (aArg (aC (.int 26)) aArgs))))) [6])) aNil)))
    (aIf (aTest (aOp oNotIn (aVar 5) (aVarW 1)))
    (aSeq (aApp 1 (aVar 5))
    (aRet (aVar 5)))
    aNext))
def b_law_name (T : Tx K mg base) : AS := (aSeq (aSet 2 (aC (.str "abcdefghijklmnopqrstuvwxyz")))
    (aSeq (aFor (aRng1 (aCons (aC (.int 4)) aNil)) (gN 3)
    (aSeq (aSet 4 (aOp oAdd (aC (.int 1)) (aFz (aCall0 (A_law_draw T) (aSlot 0 (aArg (aC (.int 3)) aArgs))))))
    (aSeq (aIf (aTest (aOp oEq (aVar 4) (aC (.int 3))))
    (aSet 4 (aOp oAdd (aC (.int 1)) (aFz (aCall0 (A_law_draw T) (aSlot 0 (aArg (aC (.int 8)) aArgs))))))
    aNext)
    (b_law_name_1 T))))
    (aSeq (aFor (aRng1 (aCons (aC (.int 104)) aNil)) (gN 6)
    (aSeq (aSet 5 (aOp oMulS (aOp oIxS (aVar 2) (aOp oMod (aVar 6) (aC (.int 26)))) (aOp oAdd (aC (.int 1)) (aOp oDiv (aVar 6) (aC (.int 26))))))
    (aIf (aTest (aOp oNotIn (aVar 5) (aVarW 1)))
    (aSeq (aApp 1 (aVar 5))
    (aRet (aVar 5)))
    aNext)))
    (aRet (aC (.str "zzzzzzzz"))))))
abbrev A_law_name (T : Tx K mg base) : AFM := bodyM [4, 1] 5 (b_law_name T)
theorem A_law_name_of (T : Tx K mg base) (l1 : List D) {q : AV → List AV → Prop} {x : Exn → List AV → Prop} (h : b_law_name T ⟨fun ρ => q (.fz .non) (mrg [.dr, .ol l1] (selM [true, true] ρ)), fun av ρ => q av (mrg [.dr, .ol l1] (selM [true, true] ρ)), fun _ => False, fun _ => False, fun e ρ => x e (mrg [.dr, .ol l1] (selM [true, true] ρ))⟩ [some (.dr), some (.ol l1), none, none, none, none, none]) : A_law_name T [.dr, .ol l1] q x := ⟨rfl, h⟩
theorem ok_law_name (T : Tx K mg base) : FnOk P w K mg base CX0 2 T.f_law_name T.fd_law_name ["_law_s", "_law_names"] (spM K T.tb (A_law_name T)) := by
  refine T.F_law_name.ok sc_law_name (fun vs H Q E h => spM_len h) (fun cdv A outer s0 H vs Q E hr h => ?_)
  have hst : L2.start ["_law_s", "_law_names", "_law_letters", "_law_turn", "_law_size", "_law_word", "_law_k"] vs = vs.map some ++ List.replicate 5 none := by
    unfold L2.start
    rw [spM_len h]
    rfl
  refine ⟨_, (pss_cons (ps_set (i := 2) sc_law_name.nd rfl (Or.inr rfl) pe_str)
      (pss_cons (ps_for PassesOwn.never rfl (pi_range1 (by rfl) T.z_range (pa_cons pe_int pa_nil)) (pg_name (i := 3) sc_law_name.nd rfl (Or.inl rfl))
      (pss_cons (ps_set (i := 4) sc_law_name.nd rfl (Or.inl rfl) (pe_op op_add pe_int (pe_call (ok_law_draw T) (hr.mono (by decide)) (by rfl) T.g_law_draw T.F_law_draw.kp T.b_law_draw .nil pass0 (pa_cons (pv 0) (pa_cons pe_int pa_nil)))))
      (pss_cons (ps_if (pt_cmpR op_eq (pv 4) pe_int (nomark _))
      (pss_one (ps_set (i := 4) sc_law_name.nd rfl (Or.inl rfl) (pe_op op_add pe_int (pe_call (ok_law_draw T) (hr.mono (by decide)) (by rfl) T.g_law_draw T.F_law_draw.kp T.b_law_draw .nil pass0 (pa_cons (pv 0) (pa_cons pe_int pa_nil))))))
      pss_nil)
      (pss_cons (ps_set (i := 5) sc_law_name.nd rfl (Or.inl rfl) (pe_bm PySem.F.plainAttrs_str PySem.F.slot_str_join PySem.F.type_str_join (mt_joinK (K := K) rfl) pe_str (pa_cons (pe_lc (own := [("_law_k", 6)]) (by rfl) sc_law_name.nd (pi_range1 (by rfl) T.z_range (pa_cons (pv 4) pa_nil)) (blkOk_by (own := [("_law_k", 6)]) (N := ["_law_s", "_law_names", "_law_letters", "_law_turn", "_law_size", "_law_word", "_law_k"]) (sc := defScope s_law_name) (by decide +kernel)) (fun _ _ _ _ _ => (pg_name (i := 6) sc_law_name.nd rfl (Or.inl rfl))) (fun _ _ _ _ _ => pts_nil) (fun _ _ _ _ _ => (pe_ix ix_str (pv 2) (pe_call (ok_law_draw T) (hr.mono (by decide)) (by rfl) T.g_law_draw T.F_law_draw.kp T.b_law_draw .nil pass0 (pa_cons (pv 0) (pa_cons pe_int pa_nil))) (fun _ _ => rfl)))) pa_nil)))
      (pss_one (ps_if (pt_cmpR (op_notInK (K := K) rfl) (pv 5) (pv 1) (by with_unfolding_all rfl))
      (pss_cons (ps_expr (pe_bm PySem.F.plainAttrs_list PySem.F.slot_list_append PySem.F.type_list_append mt_append (pv 1) (pa_cons (pv 5) pa_nil)))
      (pss_one (ps_ret (pv 5))))
      pss_nil))))))
      (pss_cons (ps_for PassesOwn.never rfl (pi_range1 (by rfl) T.z_range (pa_cons pe_int pa_nil)) (pg_name (i := 6) sc_law_name.nd rfl (Or.inl rfl))
      (pss_cons (ps_set (i := 5) sc_law_name.nd rfl (Or.inl rfl) (pe_op op_mulS (pe_ix ix_str (pv 2) (pe_op op_mod (pv 6) pe_int) (fun _ _ => rfl)) (pe_op op_add pe_int (pe_op op_fdiv (pv 6) pe_int))))
      (pss_one (ps_if (pt_cmpR (op_notInK (K := K) rfl) (pv 5) (pv 1) (by with_unfolding_all rfl))
      (pss_cons (ps_expr (pe_bm PySem.F.plainAttrs_list PySem.F.slot_list_append PySem.F.type_list_append mt_append (pv 1) (pa_cons (pv 5) pa_nil)))
      (pss_one (ps_ret (pv 5))))
      pss_nil))))
      (pss_one (ps_ret pe_str))))), run_bodyM h hst fun pk pv O M U0 H0 X => ?_⟩
  unfold b_law_name b_law_name_1
  exact (sim_seq (sim_set rfl sim_str)
    (sim_seq (sim_for (sim_rng1 (sim_consW (SimE.w sim_int) sim_nilW)) (sim_gN rfl)
    (sim_seq (sim_set rfl (sim_op (op_i0 (fun _ _ _ => rfl)) (SimE.w sim_int) (SimE.w (sim_fz (sim_call (sim_slot (sim_arg sim_int sim_args)))))))
    (sim_seq (sim_if (sim_test (SimE.w (sim_op op_eqS (SimE.w sim_var) (SimE.w sim_int))))
    (sim_set rfl (sim_op (op_i0 (fun _ _ _ => rfl)) (SimE.w sim_int) (SimE.w (sim_fz (sim_call (sim_slot (sim_arg sim_int sim_args)))))))
    sim_next)
    (sim_seq (sim_set rfl (sim_bmS mt_joinD (SimE.w sim_str) (sim_consW (SimE.w (sim_fz (sim_lc (SimI.w (sim_rng1 (sim_consW (SimE.w sim_var) sim_nilW))) (sim_gN rfl) sim_yes (sim_op op_ixS (SimE.w sim_var) (SimE.w (sim_fz (sim_call (sim_slot (sim_arg sim_int sim_args)))))) rfl rfl))) sim_nilW)))
    (sim_if (sim_test (SimE.w (sim_op op_notInS' (SimE.w sim_var) sim_varW)))
    (sim_seq (sim_app sim_var)
    (sim_ret sim_var))
    sim_next)))))
    (sim_seq (sim_for (sim_rng1 (sim_consW (SimE.w sim_int) sim_nilW)) (sim_gN rfl)
    (sim_seq (sim_set rfl (sim_op op_mulSD (SimE.w (sim_op op_ixS (SimE.w sim_var) (SimE.w (sim_op (op_ic (fun _ _ _ => rfl)) (SimE.w sim_var) (SimE.w sim_int))))) (SimE.w (sim_op (op_i0 (fun _ _ _ => rfl)) (SimE.w sim_int) (SimE.w (sim_op (op_ic (fun _ _ _ => rfl)) (SimE.w sim_var) (SimE.w sim_int)))))))
    (sim_if (sim_test (SimE.w (sim_op op_notInS' (SimE.w sim_var) sim_varW)))
    (sim_seq (sim_app sim_var)
    (sim_ret sim_var))
    sim_next)))
    (sim_ret sim_str))))
def b_law_hop_1 (T : Tx K mg base) : AS := (aRet (aLnE 2 7 0))
def b_law_hop_2 (T : Tx K mg base) : AS := (aSeq (aIf (aTest (aOp oNotIn (aVar 4) (aLn 2 7 2)))
    (aAppLn 2 7 2 (aVar 4))
    aNext)
    (b_law_hop_1 T))
def b_law_hop (T : Tx K mg base) : AS := (aSeq (aSet 6 (aFz (aLc (aItL (aVarW 2)) (gN 7) (aAnd (aTest (aOp oNotIn (aLn 2 7 0) (aVar 5))) (aOr (aTest (aOp oIn (aVar 3) (aLn 2 7 1))) (aTest (aOp oLt (aCB oLen (aCons (aLn 2 7 1) aNil)) (aC (.int 6)))))) (aVar 7) [7])))
    (aSeq (aSet 6 (aFz (aLc (aItL (aVar 6)) (gN 7) (aOr (aTest (aOp oIn (aVar 4) (aLn 2 7 2))) (aTest (aOp oLt (aCB oLen (aCons (aLn 2 7 2) aNil)) (aC (.int 6))))) (aVar 7) [7])))
    (aSeq (aIf (aAnd (aTest (aOp oLt (aCB oLen (aCons (aVarW 2) aNil)) (aC (.int 14)))) (aOr (aTest (aOp oEq (aCB oLen (aCons (aVar 6) aNil)) (aC (.int 0)))) (aTest (aOp oEq (aFz (aCall0 (A_law_draw T) (aSlot 0 (aArg (aC (.int 3)) aArgs)))) (aC (.int 0))))))
    (aSeq (mAppN 2 (mLstO (mConsO (mUp (mFz (mCall0 (A_law_name T) (aSlot 0 (aSlotO 1 aArgs))))) (mConsO (mO (aLst (aCons (aVar 3) aNil))) (mConsO (mO (aLst (aCons (aVar 4) aNil))) (mConsO (mUp (mE (aFz (aCall0 (A_law_draw T) (aSlot 0 (aArg (aC (.int 4)) aArgs)))))) mNilO))))))
    (aRet (aOnIx 2 (aUn oNeg (aC (.int 1))) 0)))
    aNext)
    (aSeq (aSet 7 (aFz (aCall0 (A_law_pick T) (aSlot 0 (aArg (aVar 6) aArgs)))))
    (aSeq (aIf (aTest (aOp oNotIn (aVar 3) (aLn 2 7 1)))
    (aAppLn 2 7 1 (aVar 3))
    aNext)
    (b_law_hop_2 T))))))
abbrev A_law_hop (T : Tx K mg base) : AFM := bodyM [4, 1, 5, 0, 0, 0] 2 (b_law_hop T)
theorem A_law_hop_of (T : Tx K mg base) (l1 : List D) (w2 : List V) (a2 : List AV) (d3 : D) (d4 : D) (d5 : D) {q : AV → List AV → Prop} {x : Exn → List AV → Prop} (h : b_law_hop T ⟨fun ρ => q (.fz .non) (mrg [.dr, .ol l1, .on w2 a2, .fz d3, .fz d4, .fz d5] (selM [true, true, true, false, false, false] ρ)), fun av ρ => q av (mrg [.dr, .ol l1, .on w2 a2, .fz d3, .fz d4, .fz d5] (selM [true, true, true, false, false, false] ρ)), fun _ => False, fun _ => False, fun e ρ => x e (mrg [.dr, .ol l1, .on w2 a2, .fz d3, .fz d4, .fz d5] (selM [true, true, true, false, false, false] ρ))⟩ [some (.dr), some (.ol l1), some (.on w2 a2), some (.fz d3), some (.fz d4), some (.fz d5), none, none]) : A_law_hop T [.dr, .ol l1, .on w2 a2, .fz d3, .fz d4, .fz d5] q x := ⟨rfl, h⟩
theorem ok_law_hop (T : Tx K mg base) : FnOk P w K mg base CX0 3 T.f_law_hop T.fd_law_hop ["_law_s", "_law_names", "_law_lines", "_law_one", "_law_two", "_law_barred"] (spM K T.tb (A_law_hop T)) := by
  refine T.F_law_hop.ok sc_law_hop (fun vs H Q E h => spM_len h) (fun cdv A outer s0 H vs Q E hr h => ?_)
  have hst : L2.start ["_law_s", "_law_names", "_law_lines", "_law_one", "_law_two", "_law_barred", "_law_fit", "_law_line"] vs = vs.map some ++ List.replicate 2 none := by
    unfold L2.start
    rw [spM_len h]
    rfl
  refine ⟨_, (pss_cons (ps_setLc (i := 6) (own := [("_law_line", 7)]) (by rfl) sc_law_hop.nd rfl rfl (sw_true rfl rfl rfl (by decide +kernel)) (pi_listK (K := K) rfl (pv 2)) (blkOk_by (own := [("_law_line", 7)]) (N := ["_law_s", "_law_names", "_law_lines", "_law_one", "_law_two", "_law_barred", "_law_fit", "_law_line"]) (sc := defScope s_law_hop) (by decide +kernel)) (fun _ _ _ _ _ => (pg_name (i := 7) sc_law_hop.nd rfl (Or.inl rfl))) (fun _ _ _ _ _ => (pts_one ((pw_and (pt_cmpR (op_notInK (K := K) rfl) (pe_ix (ix_listK (K := K) rfl) (pv 7) pe_int (fun _ _ => rfl)) (pv 5) (by with_unfolding_all rfl)) (pw_and1 ((pw_or (pt_cmpR (op_inK (K := K) rfl) (pv 3) (pe_ix (ix_listK (K := K) rfl) (pv 7) pe_int (fun _ _ => rfl)) (by with_unfolding_all rfl)) (pw_or1 (pt_cmpR op_lt (pe_callB (call_lenK (K := K) rfl) (by rfl) T.z_len bt_len (pa_cons (pe_ix (ix_listK (K := K) rfl) (pv 7) pe_int (fun _ _ => rfl)) pa_nil)) pe_int (nomark _))))).pt))).pt)) (fun _ _ _ _ _ => (pv 7)))
      (pss_cons (ps_setLc (i := 6) (own := [("_law_line", 7)]) (by rfl) sc_law_hop.nd rfl rfl (sw_true rfl rfl rfl (by decide +kernel)) (pi_listK (K := K) rfl (pv 6)) (blkOk_by (own := [("_law_line", 7)]) (N := ["_law_s", "_law_names", "_law_lines", "_law_one", "_law_two", "_law_barred", "_law_fit", "_law_line"]) (sc := defScope s_law_hop) (by decide +kernel)) (fun _ _ _ _ _ => (pg_name (i := 7) sc_law_hop.nd rfl (Or.inl rfl))) (fun _ _ _ _ _ => (pts_one ((pw_or (pt_cmpR (op_inK (K := K) rfl) (pv 4) (pe_ix (ix_listK (K := K) rfl) (pv 7) pe_int (fun _ _ => rfl)) (by with_unfolding_all rfl)) (pw_or1 (pt_cmpR op_lt (pe_callB (call_lenK (K := K) rfl) (by rfl) T.z_len bt_len (pa_cons (pe_ix (ix_listK (K := K) rfl) (pv 7) pe_int (fun _ _ => rfl)) pa_nil)) pe_int (nomark _))))).pt)) (fun _ _ _ _ _ => (pv 7)))
      (pss_cons (ps_if ((pw_and (pt_cmpR op_lt (pe_callB (call_lenK (K := K) rfl) (by rfl) T.z_len bt_len (pa_cons (pv 2) pa_nil)) pe_int (nomark _)) (pw_and1 ((pw_or (pt_cmpR op_eq (pe_callB (call_lenK (K := K) rfl) (by rfl) T.z_len bt_len (pa_cons (pv 6) pa_nil)) pe_int (nomark _)) (pw_or1 (pt_cmpR op_eq (pe_call (ok_law_draw T) (hr.mono (by decide)) (by rfl) T.g_law_draw T.F_law_draw.kp T.b_law_draw .nil pass0 (pa_cons (pv 0) (pa_cons pe_int pa_nil))) pe_int (nomark _))))).pt))).pt
      (pss_cons (ps_expr (pe_bm PySem.F.plainAttrs_list PySem.F.slot_list_append PySem.F.type_list_append mt_append (pv 2) (pa_cons (pe_lst (pa_cons (pe_call (ok_law_name T) (hr.mono (by decide)) (by rfl) T.g_law_name T.F_law_name.kp T.b_law_name .nil pass0 (pa_cons (pv 0) (pa_cons (pv 1) pa_nil))) (pa_cons (pe_lst (pa_cons (pv 3) pa_nil)) (pa_cons (pe_lst (pa_cons (pv 4) pa_nil)) (pa_cons (pe_call (ok_law_draw T) (hr.mono (by decide)) (by rfl) T.g_law_draw T.F_law_draw.kp T.b_law_draw .nil pass0 (pa_cons (pv 0) (pa_cons pe_int pa_nil))) pa_nil))))) pa_nil)))
      (pss_one (ps_ret (pe_ix (ix_listK (K := K) rfl) (pe_ix (ix_listK (K := K) rfl) (pv 2) (pe_un un_neg pe_int) (fun _ _ => rfl)) pe_int (fun _ _ => rfl)))))
      pss_nil)
      (pss_cons (ps_set (i := 7) sc_law_hop.nd rfl (Or.inl rfl) (pe_call (ok_law_pick T) (hr.mono (by decide)) (by rfl) T.g_law_pick T.F_law_pick.kp T.b_law_pick .nil pass0 (pa_cons (pv 0) (pa_cons (pv 6) pa_nil))))
      (pss_cons (ps_if (pt_cmpR (op_notInK (K := K) rfl) (pv 3) (pe_ix (ix_listK (K := K) rfl) (pv 7) pe_int (fun _ _ => rfl)) (by with_unfolding_all rfl))
      (pss_one (ps_expr (pe_bm PySem.F.plainAttrs_list PySem.F.slot_list_append PySem.F.type_list_append mt_append (pe_ix (ix_listK (K := K) rfl) (pv 7) pe_int (fun _ _ => rfl)) (pa_cons (pv 3) pa_nil))))
      pss_nil)
      (pss_cons (ps_if (pt_cmpR (op_notInK (K := K) rfl) (pv 4) (pe_ix (ix_listK (K := K) rfl) (pv 7) pe_int (fun _ _ => rfl)) (by with_unfolding_all rfl))
      (pss_one (ps_expr (pe_bm PySem.F.plainAttrs_list PySem.F.slot_list_append PySem.F.type_list_append mt_append (pe_ix (ix_listK (K := K) rfl) (pv 7) pe_int (fun _ _ => rfl)) (pa_cons (pv 4) pa_nil))))
      pss_nil)
      (pss_one (ps_ret (pe_ix (ix_listK (K := K) rfl) (pv 7) pe_int (fun _ _ => rfl)))))))))), run_bodyM h hst fun pk pv O M U0 H0 X => ?_⟩
  unfold b_law_hop b_law_hop_2 b_law_hop_1
  exact (sim_seq (sim_set rfl (sim_fz (sim_lc (sim_itLW sim_varW) (sim_gN rfl) (sim_and (sim_test (SimE.w (sim_op op_notInS' sim_ln (SimE.w sim_var)))) (sim_or (sim_test (SimE.w (sim_op op_inS' (SimE.w sim_var) sim_ln))) (sim_test (SimE.w (sim_op (op_i0 (fun _ _ _ => rfl)) (SimE.w (sim_cb bu_len (sim_consW sim_ln sim_nilW))) (SimE.w sim_int)))))) sim_var rfl rfl)))
    (sim_seq (sim_set rfl (sim_fz (sim_lc (sim_itLW (SimE.w sim_var)) (sim_gN rfl) (sim_or (sim_test (SimE.w (sim_op op_inS' (SimE.w sim_var) sim_ln))) (sim_test (SimE.w (sim_op (op_i0 (fun _ _ _ => rfl)) (SimE.w (sim_cb bu_len (sim_consW sim_ln sim_nilW))) (SimE.w sim_int))))) sim_var rfl rfl)))
    (sim_seq (sim_if (sim_and (sim_test (SimE.w (sim_op (op_i0 (fun _ _ _ => rfl)) (SimE.w (sim_cb bu_len (sim_consW sim_varW sim_nilW))) (SimE.w sim_int)))) (sim_or (sim_test (SimE.w (sim_op op_eqS (SimE.w (sim_cb bu_len (sim_consW (SimE.w sim_var) sim_nilW))) (SimE.w sim_int)))) (sim_test (SimE.w (sim_op op_eqS (SimE.w (sim_fz (sim_call (sim_slot (sim_arg sim_int sim_args))))) (SimE.w sim_int))))))
    (sim_seq (simM_appN (simM_lstO (simM_consO (simM_up (simM_fz (simM_call (sim_slot (sim_slotO sim_args))))) (simM_consO (simM_O (sim_lst (sim_cons sim_var sim_nil))) (simM_consO (simM_O (sim_lst (sim_cons sim_var sim_nil))) (simM_consO (simM_up (simM_E (sim_fz (sim_call (sim_slot (sim_arg sim_int sim_args)))))) simM_nilO))))))
    (sim_ret (sim_onIx (sim_un (un_i fun _ _ => rfl) (SimE.w sim_int)))))
    sim_next)
    (sim_seq (sim_set rfl (sim_fz (sim_call (sim_slot (sim_arg sim_var sim_args)))))
    (sim_seq (sim_if (sim_test (SimE.w (sim_op op_notInS' (SimE.w sim_var) sim_ln)))
    (sim_appLn sim_var)
    sim_next)
    (sim_seq (sim_if (sim_test (SimE.w (sim_op op_notInS' (SimE.w sim_var) sim_ln)))
    (sim_appLn sim_var)
    sim_next)
    (sim_ret sim_lnE)))))))
def b_law_way (T : Tx K mg base) : AS := (aSeq (aSet 7 (aFz (aLc (aItL (aVar 3)) (gN 10) (aTest (aOp oNotIn (aVar 10) (aVar 6))) (aVar 10) [10])))
    (aSeq (aSetO 8 (aLst (aCons (aVar 4) aNil)))
    (aSeq (aFor (aRng1 (aCons (aCB oMin2 (aCons (aFz (aCall0 (A_law_draw T) (aSlot 0 (aArg (aC (.int 3)) aArgs)))) (aCons (aCB oLen (aCons (aVar 7) aNil)) aNil))) aNil)) (gN 9)
    (aSeq (aSet 10 (aFz (aCall0 (A_law_pick T) (aSlot 0 (aArg (aVar 7) aArgs)))))
    (aSeq (aSet 7 (aFz (aLc (aItL (aVar 7)) (gN 11) (aTest (aOp oNe (aVar 11) (aVar 10))) (aVar 11) [11])))
    (aSeq (mApp 8 (mFz (mCall0 (A_law_hop T) (aSlot 0 (aSlotO 1 (aSlotO 2 (aArg (aOp oIxL (aVarW 8) (aUn oNeg (aC (.int 1)))) (aArg (aVar 10) (aArg (aFz (aOpO oCat (aVar 6) (aVarW 8))) aArgs)))))))))
    (aApp 8 (aVar 10))))))
    (aSeq (mApp 8 (mFz (mCall0 (A_law_hop T) (aSlot 0 (aSlotO 1 (aSlotO 2 (aArg (aOp oIxL (aVarW 8) (aUn oNeg (aC (.int 1)))) (aArg (aVar 5) (aArg (aFz (aOpO oCat (aVar 6) (aVarW 8))) aArgs)))))))))
    (aSeq (aApp 8 (aVar 5))
    (aRet (aCB oTuple (aCons (aVarW 8) aNil))))))))
abbrev A_law_way (T : Tx K mg base) : AFM := bodyM [4, 1, 5, 0, 0, 0, 0] 5 (b_law_way T)
theorem A_law_way_of (T : Tx K mg base) (l1 : List D) (w2 : List V) (a2 : List AV) (d3 : D) (d4 : D) (d5 : D) (d6 : D) {q : AV → List AV → Prop} {x : Exn → List AV → Prop} (h : b_law_way T ⟨fun ρ => q (.fz .non) (mrg [.dr, .ol l1, .on w2 a2, .fz d3, .fz d4, .fz d5, .fz d6] (selM [true, true, true, false, false, false, false] ρ)), fun av ρ => q av (mrg [.dr, .ol l1, .on w2 a2, .fz d3, .fz d4, .fz d5, .fz d6] (selM [true, true, true, false, false, false, false] ρ)), fun _ => False, fun _ => False, fun e ρ => x e (mrg [.dr, .ol l1, .on w2 a2, .fz d3, .fz d4, .fz d5, .fz d6] (selM [true, true, true, false, false, false, false] ρ))⟩ [some (.dr), some (.ol l1), some (.on w2 a2), some (.fz d3), some (.fz d4), some (.fz d5), some (.fz d6), none, none, none, none, none]) : A_law_way T [.dr, .ol l1, .on w2 a2, .fz d3, .fz d4, .fz d5, .fz d6] q x := ⟨rfl, h⟩
theorem ok_law_way (T : Tx K mg base) : FnOk P w K mg base CX0 4 T.f_law_way T.fd_law_way ["_law_s", "_law_names", "_law_lines", "_law_gates", "_law_first", "_law_the_last", "_law_barred"] (spM K T.tb (A_law_way T)) := by
  refine T.F_law_way.ok sc_law_way (fun vs H Q E h => spM_len h) (fun cdv A outer s0 H vs Q E hr h => ?_)
  have hst : L2.start ["_law_s", "_law_names", "_law_lines", "_law_gates", "_law_first", "_law_the_last", "_law_barred", "_law_free", "_law_way_here", "_law_k", "_law_gate", "_law_other"] vs = vs.map some ++ List.replicate 5 none := by
    unfold L2.start
    rw [spM_len h]
    rfl
  refine ⟨_, (pss_cons (ps_setLc (i := 7) (own := [("_law_gate", 10)]) (by rfl) sc_law_way.nd rfl rfl (sw_true rfl rfl rfl (by decide +kernel)) (pi_listK (K := K) rfl (pv 3)) (blkOk_by (own := [("_law_gate", 10)]) (N := ["_law_s", "_law_names", "_law_lines", "_law_gates", "_law_first", "_law_the_last", "_law_barred", "_law_free", "_law_way_here", "_law_k", "_law_gate", "_law_other"]) (sc := defScope s_law_way) (by decide +kernel)) (fun _ _ _ _ _ => (pg_name (i := 10) sc_law_way.nd rfl (Or.inl rfl))) (fun _ _ _ _ _ => (pts_one (pt_cmpR (op_notInK (K := K) rfl) (pv 10) (pv 6) (by with_unfolding_all rfl)))) (fun _ _ _ _ _ => (pv 10)))
      (pss_cons (ps_set (i := 8) sc_law_way.nd rfl (Or.inl rfl) (pe_lst (pa_cons (pv 4) pa_nil)))
      (pss_cons (ps_for PassesOwn.never rfl (pi_range1 (by rfl) T.z_range (pa_cons (pe_callB (call_min2 (by rfl)) (by rfl) T.z_min bt_min (pa_cons (pe_call (ok_law_draw T) (hr.mono (by decide)) (by rfl) T.g_law_draw T.F_law_draw.kp T.b_law_draw .nil pass0 (pa_cons (pv 0) (pa_cons pe_int pa_nil))) (pa_cons (pe_callB (call_lenK (K := K) rfl) (by rfl) T.z_len bt_len (pa_cons (pv 7) pa_nil)) pa_nil))) pa_nil)) (pg_name (i := 9) sc_law_way.nd rfl (Or.inl rfl))
      (pss_cons (ps_set (i := 10) sc_law_way.nd rfl (Or.inr rfl) (pe_call (ok_law_pick T) (hr.mono (by decide)) (by rfl) T.g_law_pick T.F_law_pick.kp T.b_law_pick .nil pass0 (pa_cons (pv 0) (pa_cons (pv 7) pa_nil))))
      (pss_cons (ps_setLc (i := 7) (own := [("_law_other", 11)]) (by rfl) sc_law_way.nd rfl rfl (sw_true rfl rfl rfl (by decide +kernel)) (pi_listK (K := K) rfl (pv 7)) (blkOk_by (own := [("_law_other", 11)]) (N := ["_law_s", "_law_names", "_law_lines", "_law_gates", "_law_first", "_law_the_last", "_law_barred", "_law_free", "_law_way_here", "_law_k", "_law_gate", "_law_other"]) (sc := defScope s_law_way) (by decide +kernel)) (fun _ _ _ _ _ => (pg_name (i := 11) sc_law_way.nd rfl (Or.inl rfl))) (fun _ _ _ _ _ => (pts_one (pt_cmpR op_ne (pv 11) (pv 10) (nomark _)))) (fun _ _ _ _ _ => (pv 11)))
      (pss_cons (ps_expr (pe_bm PySem.F.plainAttrs_list PySem.F.slot_list_append PySem.F.type_list_append mt_append (pv 8) (pa_cons (pe_call (ok_law_hop T) (hr.mono (by decide)) (by rfl) T.g_law_hop T.F_law_hop.kp T.b_law_hop .nil pass0 (pa_cons (pv 0) (pa_cons (pv 1) (pa_cons (pv 2) (pa_cons (pe_ix (ix_listK (K := K) rfl) (pv 8) (pe_un un_neg pe_int) (fun _ _ => rfl)) (pa_cons (pv 10) (pa_cons (pe_op op_cat (pv 6) (pv 8)) pa_nil))))))) pa_nil)))
      (pss_one (ps_expr (pe_bm PySem.F.plainAttrs_list PySem.F.slot_list_append PySem.F.type_list_append mt_append (pv 8) (pa_cons (pv 10) pa_nil))))))))
      (pss_cons (ps_expr (pe_bm PySem.F.plainAttrs_list PySem.F.slot_list_append PySem.F.type_list_append mt_append (pv 8) (pa_cons (pe_call (ok_law_hop T) (hr.mono (by decide)) (by rfl) T.g_law_hop T.F_law_hop.kp T.b_law_hop .nil pass0 (pa_cons (pv 0) (pa_cons (pv 1) (pa_cons (pv 2) (pa_cons (pe_ix (ix_listK (K := K) rfl) (pv 8) (pe_un un_neg pe_int) (fun _ _ => rfl)) (pa_cons (pv 5) (pa_cons (pe_op op_cat (pv 6) (pv 8)) pa_nil))))))) pa_nil)))
      (pss_cons (ps_expr (pe_bm PySem.F.plainAttrs_list PySem.F.slot_list_append PySem.F.type_list_append mt_append (pv 8) (pa_cons (pv 5) pa_nil)))
      (pss_one (ps_ret (pe_callTy (call_tupleK (K := K) rfl) (by rfl) T.z_tuple bt_tuple (pa_cons (pv 8) pa_nil))))))))), run_bodyM h hst fun pk pv O M U0 H0 X => ?_⟩
  unfold b_law_way
  exact (sim_seq (sim_set rfl (sim_fz (sim_lc (sim_itLW (SimE.w sim_var)) (sim_gN rfl) (sim_test (SimE.w (sim_op op_notInS' (SimE.w sim_var) (SimE.w sim_var)))) sim_var rfl rfl)))
    (sim_seq (sim_setO rfl (sim_lst (sim_cons sim_var sim_nil)))
    (sim_seq (sim_for (sim_rng1 (sim_consW (SimE.w (sim_cb bu_min2 (sim_consW (SimE.w (sim_fz (sim_call (sim_slot (sim_arg sim_int sim_args))))) (sim_consW (SimE.w (sim_cb bu_len (sim_consW (SimE.w sim_var) sim_nilW))) sim_nilW)))) sim_nilW)) (sim_gN rfl)
    (sim_seq (sim_set rfl (sim_fz (sim_call (sim_slot (sim_arg sim_var sim_args)))))
    (sim_seq (sim_set rfl (sim_fz (sim_lc (sim_itLW (SimE.w sim_var)) (sim_gN rfl) (sim_test (SimE.w (sim_op op_neS (SimE.w sim_var) (SimE.w sim_var)))) sim_var rfl rfl)))
    (sim_seq (simM_app (simM_fz (simM_call (sim_slot (sim_slotO (sim_slotO (sim_arg (sim_op op_ixL sim_varW (SimE.w (sim_un (un_i fun _ _ => rfl) (SimE.w sim_int)))) (sim_arg sim_var (sim_arg (sim_fz (sim_opO op_catD (SimE.w sim_var) sim_varW)) sim_args)))))))))
    (sim_app sim_var)))))
    (sim_seq (simM_app (simM_fz (simM_call (sim_slot (sim_slotO (sim_slotO (sim_arg (sim_op op_ixL sim_varW (SimE.w (sim_un (un_i fun _ _ => rfl) (SimE.w sim_int)))) (sim_arg sim_var (sim_arg (sim_fz (sim_opO op_catD (SimE.w sim_var) sim_varW)) sim_args)))))))))
    (sim_seq (sim_app sim_var)
    (sim_ret (sim_cb bu_tuple (sim_consW sim_varW sim_nilW))))))))
def b_law_need (T : Tx K mg base) : AS := (aSeq (aSet 3 (aC (.int 0)))
    (aSeq (aFor (aItT (aOp oIxT (aVar 0) (aC (.int 1)))) (gN 4)
    (aSeq (aSet 5 (aC (.int 0)))
    (aSeq (aFor (aItL (aVar 1)) (gN 6)
    (aIf (aTest (aOp oIn (aOp oIxL (aVar 6) (aC (.int 0))) (aVar 4)))
    (aSet 5 (aOp oAdd (aOp oAdd (aOp oAdd (aVar 5) (aOp oIxT (aVar 0) (aC (.int 3)))) (aOp oIxL (aVar 6) (aC (.int 3)))) (aVar 2)))
    aNext))
    (aSet 3 (aCB oMax2 (aCons (aVar 3) (aCons (aVar 5) aNil)))))))
    (aRet (aVar 3))))
abbrev A_law_need (T : Tx K mg base) : AF := bodyA [false, false, false] 4 (b_law_need T)
theorem A_law_need_of (T : Tx K mg base) {d0 d1 d2 : D} {q : AV → Prop} {x : Exn → Prop} (h : b_law_need T ⟨fun _ => q (.fz .non), fun av _ => q av, fun _ => False, fun _ => False, fun e _ => x e⟩ [some (.fz d0), some (.fz d1), some (.fz d2), none, none, none, none]) : A_law_need T [.fz d0, .fz d1, .fz d2] q x := ⟨rfl, h⟩
theorem ok_law_need (T : Tx K mg base) : FnOk P w K mg base CX0 1 T.f_law_need T.fd_law_need ["_law_row_here", "_law_lines", "_law_the_slack"] (spD K T.tb (A_law_need T)) := by
  refine T.F_law_need.ok sc_law_need (fun vs H Q E h => spD_len h) (fun cdv A outer s0 H vs Q E hr h => ?_)
  have hst : L2.start ["_law_row_here", "_law_lines", "_law_the_slack", "_law_the_most", "_law_way_here", "_law_sums", "_law_line"] vs = vs.map some ++ List.replicate 4 none := by
    unfold L2.start
    rw [spD_len h]
    rfl
  refine ⟨_, (pss_cons (ps_set (i := 3) sc_law_need.nd rfl (Or.inl rfl) pe_int)
      (pss_cons (ps_for PassesOwn.never rfl (pi_tupK (K := K) rfl (pe_ix (ix_tupK (K := K) rfl) (pv 0) pe_int (fun _ _ => rfl))) (pg_name (i := 4) sc_law_need.nd rfl (Or.inl rfl))
      (pss_cons (ps_set (i := 5) sc_law_need.nd rfl (Or.inl rfl) pe_int)
      (pss_cons (ps_for PassesOwn.never rfl (pi_listK (K := K) rfl (pv 1)) (pg_name (i := 6) sc_law_need.nd rfl (Or.inl rfl))
      (pss_one (ps_if (pt_cmpR (op_inK (K := K) rfl) (pe_ix (ix_listK (K := K) rfl) (pv 6) pe_int (fun _ _ => rfl)) (pv 4) (by with_unfolding_all rfl))
      (pss_one (ps_set (i := 5) sc_law_need.nd rfl (Or.inl rfl) (pe_op op_add (pe_op op_add (pe_op op_add (pv 5) (pe_ix (ix_tupK (K := K) rfl) (pv 0) pe_int (fun _ _ => rfl))) (pe_ix (ix_listK (K := K) rfl) (pv 6) pe_int (fun _ _ => rfl))) (pv 2))))
      pss_nil)))
      (pss_one (ps_set (i := 3) sc_law_need.nd rfl (Or.inl rfl) (pe_callB (call_max2 (by rfl)) (by rfl) T.z_max bt_max (pa_cons (pv 3) (pa_cons (pv 5) pa_nil))))))))
      (pss_one (ps_ret (pv 3))))), run_body h hst fun pk pv O M U0 H0 X => ?_⟩
  unfold b_law_need
  exact (sim_seq (sim_set rfl sim_int)
    (sim_seq (sim_for (sim_itT (sim_op op_ixT (SimE.w sim_var) (SimE.w sim_int))) (sim_gN rfl)
    (sim_seq (sim_set rfl sim_int)
    (sim_seq (sim_for (sim_itL sim_var) (sim_gN rfl)
    (sim_if (sim_test (SimE.w (sim_op op_inS' (SimE.w (sim_op op_ixL (SimE.w sim_var) (SimE.w sim_int))) (SimE.w sim_var))))
    (sim_set rfl (sim_op (op_i0 (fun _ _ _ => rfl)) (SimE.w (sim_op (op_i0 (fun _ _ _ => rfl)) (SimE.w (sim_op (op_i0 (fun _ _ _ => rfl)) (SimE.w sim_var) (SimE.w (sim_op op_ixT (SimE.w sim_var) (SimE.w sim_int))))) (SimE.w (sim_op op_ixL (SimE.w sim_var) (SimE.w sim_int))))) (SimE.w sim_var)))
    sim_next))
    (sim_set rfl (sim_cb bu_max2 (sim_consW (SimE.w sim_var) (sim_consW (SimE.w sim_var) sim_nilW)))))))
    (sim_ret sim_var)))
def b_law_row_1 (T : Tx K mg base) : AS := (aSeq (aSet 10 (aOp oIxL (aFz (aLst (aCons (aC (.int 12)) (aCons (aC (.int 8)) (aCons (aC (.int 20)) (aCons (aC (.int 24)) (aCons (aC (.int 10)) (aCons (aC (.int 30)) (aCons (aC (.int 15)) (aCons (aC (.int 40)) (aCons (aC (.int 60)) (aCons (aC (.int 12)) (aCons (aC (.int 120)) aNil))))))))))))) (aFz (aCall0 (A_law_draw T) (aSlot 0 (aArg (aC (.int 11)) aArgs))))))
    (aSeq (aSet 11 (aOp oAdd (aC (.int 1)) (aFz (aCall0 (A_law_draw T) (aSlot 0 (aArg (aCB oMin2 (aCons (aC (.int 4)) (aCons (aOp oSub (aVar 10) (aVar 5)) aNil))) aArgs))))))
    (aSeq (mSet 12 (mTup (mCons (mFz (mCall0 (A_law_name T) (aSlot 0 (aSlotO 1 aArgs)))) (mCons (mE (aCB oTuple (aCons (aVarW 9) aNil))) (mCons (mE (aVar 10)) (mCons (mE (aVar 11)) (mCons (mE (aFz (aCall0 (A_law_draw T) (aSlot 0 (aArg (aVar 10) aArgs))))) (mCons (mE (aC (.int 0))) mNil))))))))
    (aSeq (aSet 13 (aOp oIxL (aFz (aLst (aCons (aC (.int 0)) (aCons (aC (.int 1)) (aCons (aC (.int 2)) (aCons (aOp oDiv (aVar 10) (aC (.int 2))) (aCons (aC (.int 3)) (aCons (aOp oSub (aVar 10) (aC (.int 1))) (aCons (aC (.int 6)) aNil))))))))) (aFz (aCall0 (A_law_draw T) (aSlot 0 (aArg (aC (.int 7)) aArgs))))))
    (aRet (aOp oCatT (aSl oSlT (aVar 12) aNoPart (aPart (aC (.int 5)))) (aTup (aCons (aOp oAdd (aCallF (A_law_need T) (aArg (aVar 12) (aSlotO 2 (aArg (aVar 5) aArgs)))) (aVar 13)) aNil))))))))
def b_law_row (T : Tx K mg base) : AS := (aSeq (aSet 6 (aFz (aCall0 (A_law_draw T) (aSlot 0 (aArg (aCB oLen (aCons (aVar 3) aNil)) aArgs)))))
    (aSeq (aSet 7 (aOp oIxL (aVar 3) (aVar 6)))
    (aSeq (aSet 8 (aOp oIxL (aVar 3) (aOp oMod (aOp oAdd (aOp oAdd (aVar 6) (aC (.int 1))) (aFz (aCall0 (A_law_draw T) (aSlot 0 (aArg (aOp oSub (aCB oLen (aCons (aVar 3) aNil)) (aC (.int 1))) aArgs))))) (aCB oLen (aCons (aVar 3) aNil)))))
    (aSeq (mSetO 9 (mLst (mCons (mFz (mCall0 (A_law_way T) (aSlot 0 (aSlotO 1 (aSlotO 2 (aArg (aVar 4) (aArg (aVar 7) (aArg (aVar 8) (aArg (aFz (aLst aNil)) aArgs))))))))) mNil)))
    (aSeq (aIf (aTest (aOp oEq (aFz (aCall0 (A_law_draw T) (aSlot 0 (aArg (aC (.int 4)) aArgs)))) (aC (.int 1))))
    (mApp 9 (mFz (mCall0 (A_law_way T) (aSlot 0 (aSlotO 1 (aSlotO 2 (aArg (aVar 4) (aArg (aVar 7) (aArg (aVar 8) (aArg (aFz (aCBO oList (aCons (aSl oSlT (aOp oIxL (aVarW 9) (aC (.int 0))) (aPart (aC (.int 1))) (aPart (aUn oNeg (aC (.int 1))))) aNil))) aArgs))))))))))
    aNext)
    (b_law_row_1 T))))))
abbrev A_law_row (T : Tx K mg base) : AFM := bodyM [4, 1, 5, 0, 0, 0] 8 (b_law_row T)
theorem A_law_row_of (T : Tx K mg base) (l1 : List D) (w2 : List V) (a2 : List AV) (d3 : D) (d4 : D) (d5 : D) {q : AV → List AV → Prop} {x : Exn → List AV → Prop} (h : b_law_row T ⟨fun ρ => q (.fz .non) (mrg [.dr, .ol l1, .on w2 a2, .fz d3, .fz d4, .fz d5] (selM [true, true, true, false, false, false] ρ)), fun av ρ => q av (mrg [.dr, .ol l1, .on w2 a2, .fz d3, .fz d4, .fz d5] (selM [true, true, true, false, false, false] ρ)), fun _ => False, fun _ => False, fun e ρ => x e (mrg [.dr, .ol l1, .on w2 a2, .fz d3, .fz d4, .fz d5] (selM [true, true, true, false, false, false] ρ))⟩ [some (.dr), some (.ol l1), some (.on w2 a2), some (.fz d3), some (.fz d4), some (.fz d5), none, none, none, none, none, none, none, none]) : A_law_row T [.dr, .ol l1, .on w2 a2, .fz d3, .fz d4, .fz d5] q x := ⟨rfl, h⟩
theorem ok_law_row (T : Tx K mg base) : FnOk P w K mg base CX0 5 T.f_law_row T.fd_law_row ["_law_s", "_law_names", "_law_lines", "_law_houses", "_law_gates", "_law_the_slack"] (spM K T.tb (A_law_row T)) := by
  refine T.F_law_row.ok sc_law_row (fun vs H Q E h => spM_len h) (fun cdv A outer s0 H vs Q E hr h => ?_)
  have hst : L2.start ["_law_s", "_law_names", "_law_lines", "_law_houses", "_law_gates", "_law_the_slack", "_law_at", "_law_first", "_law_the_last", "_law_ways", "_law_the_every", "_law_the_long", "_law_row_here", "_law_spare"] vs = vs.map some ++ List.replicate 8 none := by
    unfold L2.start
    rw [spM_len h]
    rfl
  refine ⟨_, (pss_cons (ps_set (i := 6) sc_law_row.nd rfl (Or.inl rfl) (pe_call (ok_law_draw T) (hr.mono (by decide)) (by rfl) T.g_law_draw T.F_law_draw.kp T.b_law_draw .nil pass0 (pa_cons (pv 0) (pa_cons (pe_callB (call_lenK (K := K) rfl) (by rfl) T.z_len bt_len (pa_cons (pv 3) pa_nil)) pa_nil))))
      (pss_cons (ps_set (i := 7) sc_law_row.nd rfl (Or.inl rfl) (pe_ix (ix_listK (K := K) rfl) (pv 3) (pv 6) (fun _ _ => rfl)))
      (pss_cons (ps_set (i := 8) sc_law_row.nd rfl (Or.inl rfl) (pe_ix (ix_listK (K := K) rfl) (pv 3) (pe_op op_mod (pe_op op_add (pe_op op_add (pv 6) pe_int) (pe_call (ok_law_draw T) (hr.mono (by decide)) (by rfl) T.g_law_draw T.F_law_draw.kp T.b_law_draw .nil pass0 (pa_cons (pv 0) (pa_cons (pe_op op_sub (pe_callB (call_lenK (K := K) rfl) (by rfl) T.z_len bt_len (pa_cons (pv 3) pa_nil)) pe_int) pa_nil)))) (pe_callB (call_lenK (K := K) rfl) (by rfl) T.z_len bt_len (pa_cons (pv 3) pa_nil))) (fun _ _ => rfl)))
      (pss_cons (ps_set (i := 9) sc_law_row.nd rfl (Or.inl rfl) (pe_lst (pa_cons (pe_call (ok_law_way T) (hr.mono (by decide)) (by rfl) T.g_law_way T.F_law_way.kp T.b_law_way .nil pass0 (pa_cons (pv 0) (pa_cons (pv 1) (pa_cons (pv 2) (pa_cons (pv 4) (pa_cons (pv 7) (pa_cons (pv 8) (pa_cons (pe_lst pa_nil) pa_nil)))))))) pa_nil)))
      (pss_cons (ps_if (pt_cmpR op_eq (pe_call (ok_law_draw T) (hr.mono (by decide)) (by rfl) T.g_law_draw T.F_law_draw.kp T.b_law_draw .nil pass0 (pa_cons (pv 0) (pa_cons pe_int pa_nil))) pe_int (nomark _))
      (pss_one (ps_expr (pe_bm PySem.F.plainAttrs_list PySem.F.slot_list_append PySem.F.type_list_append mt_append (pv 9) (pa_cons (pe_call (ok_law_way T) (hr.mono (by decide)) (by rfl) T.g_law_way T.F_law_way.kp T.b_law_way .nil pass0 (pa_cons (pv 0) (pa_cons (pv 1) (pa_cons (pv 2) (pa_cons (pv 4) (pa_cons (pv 7) (pa_cons (pv 8) (pa_cons (pe_callTy (call_listK (K := K) rfl) (by rfl) T.z_list bt_list (pa_cons (pe_slice (sl_tupAK (K := K) rfl) (pe_ix (ix_listK (K := K) rfl) (pv 9) pe_int (fun _ _ => rfl)) (po_some pe_int) (po_some (pe_un un_neg pe_int))) pa_nil)) pa_nil)))))))) pa_nil))))
      pss_nil)
      (pss_cons (ps_set (i := 10) sc_law_row.nd rfl (Or.inl rfl) (pe_ix (ix_listK (K := K) rfl) (pe_lst (pa_cons pe_int (pa_cons pe_int (pa_cons pe_int (pa_cons pe_int (pa_cons pe_int (pa_cons pe_int (pa_cons pe_int (pa_cons pe_int (pa_cons pe_int (pa_cons pe_int (pa_cons pe_int pa_nil)))))))))))) (pe_call (ok_law_draw T) (hr.mono (by decide)) (by rfl) T.g_law_draw T.F_law_draw.kp T.b_law_draw .nil pass0 (pa_cons (pv 0) (pa_cons pe_int pa_nil))) (fun _ _ => rfl)))
      (pss_cons (ps_set (i := 11) sc_law_row.nd rfl (Or.inl rfl) (pe_op op_add pe_int (pe_call (ok_law_draw T) (hr.mono (by decide)) (by rfl) T.g_law_draw T.F_law_draw.kp T.b_law_draw .nil pass0 (pa_cons (pv 0) (pa_cons (pe_callB (call_min2 (by rfl)) (by rfl) T.z_min bt_min (pa_cons pe_int (pa_cons (pe_op op_sub (pv 10) (pv 5)) pa_nil))) pa_nil)))))
      (pss_cons (ps_set (i := 12) sc_law_row.nd rfl (Or.inl rfl) (pe_tup (pa_cons (pe_call (ok_law_name T) (hr.mono (by decide)) (by rfl) T.g_law_name T.F_law_name.kp T.b_law_name .nil pass0 (pa_cons (pv 0) (pa_cons (pv 1) pa_nil))) (pa_cons (pe_callTy (call_tupleK (K := K) rfl) (by rfl) T.z_tuple bt_tuple (pa_cons (pv 9) pa_nil)) (pa_cons (pv 10) (pa_cons (pv 11) (pa_cons (pe_call (ok_law_draw T) (hr.mono (by decide)) (by rfl) T.g_law_draw T.F_law_draw.kp T.b_law_draw .nil pass0 (pa_cons (pv 0) (pa_cons (pv 10) pa_nil))) (pa_cons pe_int pa_nil))))))))
      (pss_cons (ps_set (i := 13) sc_law_row.nd rfl (Or.inl rfl) (pe_ix (ix_listK (K := K) rfl) (pe_lst (pa_cons pe_int (pa_cons pe_int (pa_cons pe_int (pa_cons (pe_op op_fdiv (pv 10) pe_int) (pa_cons pe_int (pa_cons (pe_op op_sub (pv 10) pe_int) (pa_cons pe_int pa_nil)))))))) (pe_call (ok_law_draw T) (hr.mono (by decide)) (by rfl) T.g_law_draw T.F_law_draw.kp T.b_law_draw .nil pass0 (pa_cons (pv 0) (pa_cons pe_int pa_nil))) (fun _ _ => rfl)))
      (pss_one (ps_ret (pe_op (op_catAK (K := K) rfl) (pe_slice (sl_tupAK (K := K) rfl) (pv 12) po_none (po_some pe_int)) (pe_tup (pa_cons (pe_op op_add (pe_call (ok_law_need T) (hr.mono (by decide)) (by rfl) T.g_law_need T.F_law_need.kp T.b_law_need .nil pass0 (pa_cons (pv 12) (pa_cons (pv 2) (pa_cons (pv 5) pa_nil)))) (pv 13)) pa_nil)))))))))))))), run_bodyM h hst fun pk pv O M U0 H0 X => ?_⟩
  unfold b_law_row b_law_row_1
  exact (sim_seq (sim_set rfl (sim_fz (sim_call (sim_slot (sim_arg (sim_cb bu_len (sim_consW (SimE.w sim_var) sim_nilW)) sim_args)))))
    (sim_seq (sim_set rfl (sim_op op_ixL (SimE.w sim_var) (SimE.w sim_var)))
    (sim_seq (sim_set rfl (sim_op op_ixL (SimE.w sim_var) (SimE.w (sim_op (op_ic (fun _ _ _ => rfl)) (SimE.w (sim_op (op_i0 (fun _ _ _ => rfl)) (SimE.w (sim_op (op_i0 (fun _ _ _ => rfl)) (SimE.w sim_var) (SimE.w sim_int))) (SimE.w (sim_fz (sim_call (sim_slot (sim_arg (sim_op (op_i0 (fun _ _ _ => rfl)) (SimE.w (sim_cb bu_len (sim_consW (SimE.w sim_var) sim_nilW))) (SimE.w sim_int)) sim_args))))))) (SimE.w (sim_cb bu_len (sim_consW (SimE.w sim_var) sim_nilW)))))))
    (sim_seq (simM_setO rfl (simM_lst (simM_cons (simM_fz (simM_call (sim_slot (sim_slotO (sim_slotO (sim_arg sim_var (sim_arg sim_var (sim_arg sim_var (sim_arg (sim_fz (sim_lst sim_nil)) sim_args))))))))) simM_nil)))
    (sim_seq (sim_if (sim_test (SimE.w (sim_op op_eqS (SimE.w (sim_fz (sim_call (sim_slot (sim_arg sim_int sim_args))))) (SimE.w sim_int))))
    (simM_app (simM_fz (simM_call (sim_slot (sim_slotO (sim_slotO (sim_arg sim_var (sim_arg sim_var (sim_arg sim_var (sim_arg (sim_fz (sim_cbO bu_list (sim_consW (SimE.w (sim_sl sl_tD (SimE.w (sim_op op_ixL sim_varW (SimE.w sim_int))) (sim_part (SimE.w sim_int)) (sim_part (SimE.w (sim_un (un_i fun _ _ => rfl) (SimE.w sim_int)))))) sim_nilW))) sim_args))))))))))
    sim_next)
    (sim_seq (sim_set rfl (sim_op op_ixL (SimE.w (sim_fz (sim_lst (sim_cons sim_int (sim_cons sim_int (sim_cons sim_int (sim_cons sim_int (sim_cons sim_int (sim_cons sim_int (sim_cons sim_int (sim_cons sim_int (sim_cons sim_int (sim_cons sim_int (sim_cons sim_int sim_nil)))))))))))))) (SimE.w (sim_fz (sim_call (sim_slot (sim_arg sim_int sim_args)))))))
    (sim_seq (sim_set rfl (sim_op (op_i0 (fun _ _ _ => rfl)) (SimE.w sim_int) (SimE.w (sim_fz (sim_call (sim_slot (sim_arg (sim_cb bu_min2 (sim_consW (SimE.w sim_int) (sim_consW (SimE.w (sim_op (op_i0 (fun _ _ _ => rfl)) (SimE.w sim_var) (SimE.w sim_var))) sim_nilW))) sim_args)))))))
    (sim_seq (simM_set rfl (simM_tup (simM_cons (simM_fz (simM_call (sim_slot (sim_slotO sim_args)))) (simM_cons (simM_E (sim_cb bu_tuple (sim_consW sim_varW sim_nilW))) (simM_cons (simM_E sim_var) (simM_cons (simM_E sim_var) (simM_cons (simM_E (sim_fz (sim_call (sim_slot (sim_arg sim_var sim_args))))) (simM_cons (simM_E sim_int) simM_nil))))))))
    (sim_seq (sim_set rfl (sim_op op_ixL (SimE.w (sim_fz (sim_lst (sim_cons sim_int (sim_cons sim_int (sim_cons sim_int (sim_cons (sim_op (op_ic (fun _ _ _ => rfl)) (SimE.w sim_var) (SimE.w sim_int)) (sim_cons sim_int (sim_cons (sim_op (op_i0 (fun _ _ _ => rfl)) (SimE.w sim_var) (SimE.w sim_int)) (sim_cons sim_int sim_nil)))))))))) (SimE.w (sim_fz (sim_call (sim_slot (sim_arg sim_int sim_args)))))))
    (sim_ret (sim_op op_catTD (SimE.w (sim_sl sl_tD (SimE.w sim_var) sim_noPart (sim_part (SimE.w sim_int)))) (SimE.w (sim_tup (sim_cons (sim_op (op_i0 (fun _ _ _ => rfl)) (SimE.w (sim_callF (sim_arg sim_var (sim_slotO (sim_arg sim_var sim_args))))) (SimE.w sim_var)) sim_nil))))))))))))))
def b_law_world (T : Tx K mg base) : AS := (aSeq (aSetO 2 (aLst aNil))
    (aSeq (mSet 3 (mFz (mLc (aRng1 (aCons (aOp oAdd (aC (.int 2)) (aFz (aCall0 (A_law_draw T) (aSlot 0 (aArg (aC (.int 3)) aArgs))))) aNil)) (gN 8) (mFz (mCall0 (A_law_name T) (aSlot 0 (aSlotO 2 aArgs)))) [8])))
    (aSeq (mSet 4 (mFz (mLc (aRng1 (aCons (aFz (aCall0 (A_law_draw T) (aSlot 0 (aArg (aC (.int 4)) aArgs)))) aNil)) (gN 8) (mFz (mCall0 (A_law_name T) (aSlot 0 (aSlotO 2 aArgs)))) [8])))
    (aSeq (aSet 5 (aOp oIxL (aFz (aLst (aCons (aC (.int 0)) (aCons (aC (.int 1)) (aCons (aC (.int 2)) (aCons (aC (.int 0)) (aCons (aC (.int 3)) (aCons (aC (.int 1)) (aCons (aC (.int 5)) (aCons (aC (.int 7)) aNil)))))))))) (aFz (aCall0 (A_law_draw T) (aSlot 0 (aArg (aC (.int 8)) aArgs))))))
    (aSeq (mSetO 6 (mLstO mNilO))
    (aSeq (mSet 7 (mFz (mLc (aRng1 (aCons (aOp oAdd (aC (.int 1)) (aFz (aCall0 (A_law_draw T) (aSlot 0 (aArg (aVar 1) aArgs))))) aNil)) (gN 8) (mFz (mCall0 (A_law_row T) (aSlot 0 (aSlotO 2 (aSlotO 6 (aArg (aVar 3) (aArg (aVar 4) (aArg (aVar 5) aArgs)))))))) [8])))
    (aSeal 6 (aRetU (aCons (aVar 3) (aCons (aVar 4) (aCons (aVar 6) (aCons (aVar 7) (aCons (aVar 5) aNil))))) 2))))))))
abbrev A_law_world (T : Tx K mg base) : AF := bodyA [true, false] 7 (b_law_world T)
theorem A_law_world_of (T : Tx K mg base) {d1 : D} {q : AV → Prop} {x : Exn → Prop} (h : b_law_world T ⟨fun _ => q (.fz .non), fun av _ => q av, fun _ => False, fun _ => False, fun e _ => x e⟩ [some (.dr), some (.fz d1), none, none, none, none, none, none, none]) : A_law_world T [.dr, .fz d1] q x := ⟨rfl, h⟩
theorem ok_law_world (T : Tx K mg base) : FnOk P w K mg base CX0 6 T.f_law_world T.fd_law_world ["_law_s", "_law_the_most"] (spD K T.tb (A_law_world T)) := by
  refine T.F_law_world.ok sc_law_world (fun vs H Q E h => spD_len h) (fun cdv A outer s0 H vs Q E hr h => ?_)
  have hst : L2.start ["_law_s", "_law_the_most", "_law_names", "_law_houses", "_law_gates", "_law_the_slack", "_law_lines", "_law_rows", "_law_k"] vs = vs.map some ++ List.replicate 7 none := by
    unfold L2.start
    rw [spD_len h]
    rfl
  refine ⟨_, (pss_cons (ps_set (i := 2) sc_law_world.nd rfl (Or.inr rfl) (pe_lst pa_nil))
      (pss_cons (ps_set (i := 3) sc_law_world.nd rfl (Or.inr rfl) (pe_lc (own := [("_law_k", 8)]) (by rfl) sc_law_world.nd (pi_range1 (by rfl) T.z_range (pa_cons (pe_op op_add pe_int (pe_call (ok_law_draw T) (hr.mono (by decide)) (by rfl) T.g_law_draw T.F_law_draw.kp T.b_law_draw .nil pass0 (pa_cons (pv 0) (pa_cons pe_int pa_nil)))) pa_nil)) (blkOk_by (own := [("_law_k", 8)]) (N := ["_law_s", "_law_the_most", "_law_names", "_law_houses", "_law_gates", "_law_the_slack", "_law_lines", "_law_rows", "_law_k"]) (sc := defScope s_law_world) (by decide +kernel)) (fun _ _ _ _ _ => (pg_name (i := 8) sc_law_world.nd rfl (Or.inl rfl))) (fun _ _ _ _ _ => pts_nil) (fun _ _ _ _ _ => (pe_call (ok_law_name T) (hr.mono (by decide)) (by rfl) T.g_law_name T.F_law_name.kp T.b_law_name .nil pass0 (pa_cons (pv 0) (pa_cons (pv 2) pa_nil))))))
      (pss_cons (ps_set (i := 4) sc_law_world.nd rfl (Or.inr rfl) (pe_lc (own := [("_law_k", 8)]) (by rfl) sc_law_world.nd (pi_range1 (by rfl) T.z_range (pa_cons (pe_call (ok_law_draw T) (hr.mono (by decide)) (by rfl) T.g_law_draw T.F_law_draw.kp T.b_law_draw .nil pass0 (pa_cons (pv 0) (pa_cons pe_int pa_nil))) pa_nil)) (blkOk_by (own := [("_law_k", 8)]) (N := ["_law_s", "_law_the_most", "_law_names", "_law_houses", "_law_gates", "_law_the_slack", "_law_lines", "_law_rows", "_law_k"]) (sc := defScope s_law_world) (by decide +kernel)) (fun _ _ _ _ _ => (pg_name (i := 8) sc_law_world.nd rfl (Or.inl rfl))) (fun _ _ _ _ _ => pts_nil) (fun _ _ _ _ _ => (pe_call (ok_law_name T) (hr.mono (by decide)) (by rfl) T.g_law_name T.F_law_name.kp T.b_law_name .nil pass0 (pa_cons (pv 0) (pa_cons (pv 2) pa_nil))))))
      (pss_cons (ps_set (i := 5) sc_law_world.nd rfl (Or.inr rfl) (pe_ix (ix_listK (K := K) rfl) (pe_lst (pa_cons pe_int (pa_cons pe_int (pa_cons pe_int (pa_cons pe_int (pa_cons pe_int (pa_cons pe_int (pa_cons pe_int (pa_cons pe_int pa_nil))))))))) (pe_call (ok_law_draw T) (hr.mono (by decide)) (by rfl) T.g_law_draw T.F_law_draw.kp T.b_law_draw .nil pass0 (pa_cons (pv 0) (pa_cons pe_int pa_nil))) (fun _ _ => rfl)))
      (pss_cons (ps_set (i := 6) sc_law_world.nd rfl (Or.inr rfl) (pe_lst pa_nil))
      (pss_cons (ps_setLc (i := 7) (own := [("_law_k", 8)]) (by rfl) sc_law_world.nd rfl rfl (sw_true rfl rfl rfl (by decide +kernel)) (pi_range1 (by rfl) T.z_range (pa_cons (pe_op op_add pe_int (pe_call (ok_law_draw T) (hr.mono (by decide)) (by rfl) T.g_law_draw T.F_law_draw.kp T.b_law_draw .nil pass0 (pa_cons (pv 0) (pa_cons (pv 1) pa_nil)))) pa_nil)) (blkOk_by (own := [("_law_k", 8)]) (N := ["_law_s", "_law_the_most", "_law_names", "_law_houses", "_law_gates", "_law_the_slack", "_law_lines", "_law_rows", "_law_k"]) (sc := defScope s_law_world) (by decide +kernel)) (fun _ _ _ _ _ => (pg_name (i := 8) sc_law_world.nd rfl (Or.inl rfl))) (fun _ _ _ _ _ => pts_nil) (fun _ _ _ _ _ => (pe_call (ok_law_row T) (hr.mono (by decide)) (by rfl) T.g_law_row T.F_law_row.kp T.b_law_row .nil pass0 (pa_cons (pv 0) (pa_cons (pv 2) (pa_cons (pv 6) (pa_cons (pv 3) (pa_cons (pv 4) (pa_cons (pv 5) pa_nil)))))))))
      (pss_one (ps_ret (pe_tup (pa_cons (pv 3) (pa_cons (pv 4) (pa_cons (pv 6) (pa_cons (pv 7) (pa_cons (pv 5) (pa_cons (pv 2) pa_nil))))))))))))))), run_body h hst fun pk pv O M U0 H0 X => ?_⟩
  unfold b_law_world
  exact (sim_seq (sim_setO rfl (sim_lst sim_nil))
    (sim_seq (simM_set rfl (simM_fz (simM_lc (sim_rng1 (sim_consW (SimE.w (sim_op (op_i0 (fun _ _ _ => rfl)) (SimE.w sim_int) (SimE.w (sim_fz (sim_call (sim_slot (sim_arg sim_int sim_args))))))) sim_nilW)) (sim_gN rfl) (simM_fz (simM_call (sim_slot (sim_slotO sim_args)))) rfl rfl)))
    (sim_seq (simM_set rfl (simM_fz (simM_lc (sim_rng1 (sim_consW (SimE.w (sim_fz (sim_call (sim_slot (sim_arg sim_int sim_args))))) sim_nilW)) (sim_gN rfl) (simM_fz (simM_call (sim_slot (sim_slotO sim_args)))) rfl rfl)))
    (sim_seq (sim_set rfl (sim_op op_ixL (SimE.w (sim_fz (sim_lst (sim_cons sim_int (sim_cons sim_int (sim_cons sim_int (sim_cons sim_int (sim_cons sim_int (sim_cons sim_int (sim_cons sim_int (sim_cons sim_int sim_nil))))))))))) (SimE.w (sim_fz (sim_call (sim_slot (sim_arg sim_int sim_args)))))))
    (sim_seq (simM_setO rfl (simM_lstO simM_nilO))
    (sim_seq (simM_set rfl (simM_fz (simM_lc (sim_rng1 (sim_consW (SimE.w (sim_op (op_i0 (fun _ _ _ => rfl)) (SimE.w sim_int) (SimE.w (sim_fz (sim_call (sim_slot (sim_arg sim_var sim_args))))))) sim_nilW)) (sim_gN rfl) (simM_fz (simM_call (sim_slot (sim_slotO (sim_slotO (sim_arg sim_var (sim_arg sim_var (sim_arg sim_var sim_args)))))))) rfl rfl)))
    (sim_seal rfl (sim_retU rfl (sim_uCons sim_var (sim_uCons sim_var (sim_uCons sim_var (sim_uCons sim_var (sim_uCons sim_var sim_uNil)))))))))))))
def errs1 (T : Tx K mg base) : List (Str × Addr) := [("BadName", T.c_BadName), ("BadNumber", T.c_BadNumber), ("BadWay", T.c_BadWay), ("BadEnds", T.c_BadEnds), ("BadLine", T.c_BadLine), ("Taken", T.c_Taken), ("NoName", T.c_NoName), ("InUse", T.c_InUse), ("Full", T.c_Full)]
def errs2 (T : Tx K mg base) : List (Str × Addr) := [("Tight", T.c_Tight), ("Late", T.c_Late), ("Heavy", T.c_Heavy), ("NoPlan", T.c_NoPlan), ("NoRoom", T.c_NoRoom), ("NoStep", T.c_NoStep), ("TooFew", T.c_TooFew), ("BadPage", T.c_BadPage)]
/-- D is the class of that name -/
def IsErr (T : Tx K mg base) (nm : Str) (D : Addr) : Prop := (nm, D) ∈ errs1 T ++ errs2 T
theorem IsErr.ok {T : Tx K mg base} {nm : Str} {D : Addr} (h : IsErr T nm D) : ErrC K D T.c_NetError ∧ D ≠ T.c_NetError := by
  have nd := T.k_nd
  have hn : ∀ x, x ∈ [T.c_BadName, T.c_BadNumber, T.c_BadWay, T.c_BadEnds, T.c_BadLine, T.c_Taken, T.c_NoName, T.c_InUse, T.c_Full, T.c_Tight, T.c_Late, T.c_Heavy, T.c_NoPlan, T.c_NoRoom, T.c_NoStep, T.c_TooFew, T.c_BadPage] → x ≠ T.c_NetError := fun x hx z => (List.nodup_cons.mp nd).1 (z ▸ hx)
  unfold IsErr errs1 errs2 at h
  simp only [List.cons_append, List.nil_append, List.mem_cons, List.not_mem_nil, or_false, Prod.mk.injEq] at h
  rcases h with ⟨rfl, rfl⟩ | ⟨rfl, rfl⟩ | ⟨rfl, rfl⟩ | ⟨rfl, rfl⟩ | ⟨rfl, rfl⟩ | ⟨rfl, rfl⟩ | ⟨rfl, rfl⟩ | ⟨rfl, rfl⟩ | ⟨rfl, rfl⟩ | ⟨rfl, rfl⟩ | ⟨rfl, rfl⟩ | ⟨rfl, rfl⟩ | ⟨rfl, rfl⟩ | ⟨rfl, rfl⟩ | ⟨rfl, rfl⟩ | ⟨rfl, rfl⟩ | ⟨rfl, rfl⟩
  · exact ⟨T.e_BadName, hn _ (by simp)⟩
  · exact ⟨T.e_BadNumber, hn _ (by simp)⟩
  · exact ⟨T.e_BadWay, hn _ (by simp)⟩
  · exact ⟨T.e_BadEnds, hn _ (by simp)⟩
  · exact ⟨T.e_BadLine, hn _ (by simp)⟩
  · exact ⟨T.e_Taken, hn _ (by simp)⟩
  · exact ⟨T.e_NoName, hn _ (by simp)⟩
  · exact ⟨T.e_InUse, hn _ (by simp)⟩
  · exact ⟨T.e_Full, hn _ (by simp)⟩
  · exact ⟨T.e_Tight, hn _ (by simp)⟩
  · exact ⟨T.e_Late, hn _ (by simp)⟩
  · exact ⟨T.e_Heavy, hn _ (by simp)⟩
  · exact ⟨T.e_NoPlan, hn _ (by simp)⟩
  · exact ⟨T.e_NoRoom, hn _ (by simp)⟩
  · exact ⟨T.e_NoStep, hn _ (by simp)⟩
  · exact ⟨T.e_TooFew, hn _ (by simp)⟩
  · exact ⟨T.e_BadPage, hn _ (by simp)⟩
theorem kit_at {T : Tx K mg base} {nm nm' : Str} {D C : Addr} (h : IsErr T nm D) (g : IsErr T nm' C) : PySem.W.kitOne K (.ref D) (.ref C) = some (decide (C = D)) := h.ok.1.kit g.ok.1 h.ok.2 g.ok.2
def tag (D : Addr) (L : List (Str × Addr)) : List V := (L.filter fun x => decide (x.2 = D)).map fun x => .str x.1
theorem tag_nil (D : Addr) : tag D [] = [] := rfl
theorem tag_cons (D : Addr) (x : Str × Addr) (L : List (Str × Addr)) : tag D (x :: L) = (if decide (x.2 = D) = true then [V.str x.1] else []) ++ tag D L := by
  unfold tag
  by_cases h : x.2 = D
  · simp [h]
  · simp [h]
theorem tag_none {D : Addr} : ∀ {L : List (Str × Addr)}, (∀ x ∈ L, x.2 ≠ D) → tag D L = []
  | [], _ => rfl
  | x :: r, h => by
    rw [tag_cons, decide_eq_false (h x List.mem_cons_self), if_neg Bool.false_ne_true, tag_none fun y hy => h y (List.mem_cons_of_mem _ hy)]
    rfl
theorem tag_one {D : Addr} {nm : Str} : ∀ {L : List (Str × Addr)}, (L.map (·.2)).Nodup → (nm, D) ∈ L → tag D L = [.str nm]
  | [], _, h => by cases h
  | x :: r, nd, h => by
    rw [List.map_cons, List.nodup_cons] at nd
    rw [tag_cons]
    rcases List.mem_cons.mp h with e | e
    · subst e
      rw [decide_eq_true rfl, if_pos rfl, tag_none fun y hy z => nd.1 (List.mem_map.mpr ⟨y, hy, z⟩)]
      rfl
    · have hx : x.2 ≠ D := fun z => nd.1 (List.mem_map.mpr ⟨(nm, D), e, z.symm⟩)
      rw [decide_eq_false hx, if_neg Bool.false_ne_true, tag_one nd.2 e]
      rfl
theorem tag_app (D : Addr) (L M : List (Str × Addr)) : tag D (L ++ M) = tag D L ++ tag D M := by
  unfold tag
  rw [List.filter_append, List.map_append]
/-- if isinstance(e, C): kinds.append(name) -/
theorem k_step {a p C : Addr} {cls : Value} {d : Option Addr} {nm : Str} {acc : List V} {b : Bool} {H : Hp} {σ : L2.St} {n bk ct : L2.St → Hp → Prop} {rt : VK} (h0 : σ[0]? = some (some (.ref a))) (h1 : σ[1]? = some (some (.ref p))) (hp : H p = some (.lst acc)) (hk : PySem.W.kitOne K cls (.ref C) = some b)
    (hd : ∀ dd, d = some dd → ∃ fs, H dd = some (.xd fs)) (hl : acc.length ≤ 100) (q : n σ (upd H p (.lst (acc ++ (if b = true then [.str nm] else []))))) :
    tIfS (tB (tCB (rIsW K a cls d) (tCons (tVar 0) (tCons (tC (.ref C)) tNil)))) (tDrop (tBM K "list" rAppend (tVar 1) (tCons (tC (.str nm)) tNil))) tNext ⟨n, rt, bk, ct⟩ σ H := by
  refine ⟨.ref a, h0, .ref C, .ref C, b, rfl, .own C, hk, hd, b, rfl, ?_⟩
  cases b with
  | true =>
    refine i_itT ⟨.ref p, h1, .inl ⟨rfl, _, SqL.of hp⟩, p, acc, _, rfl, rfl, hp, small1000 (by omega), q⟩
  | false =>
    refine i_itF ?_
    rw [if_neg Bool.false_ne_true, List.append_nil, ← upd_id (H := H) (H' := H) hp (fun _ _ => rfl)] at q
    exact q
def spKinds (T : Tx K mg base) (L : List (Str × Addr)) : SpW := fun a cls d vs H Q _ => ∃ (nm : Str) (D : Addr), vs = [.ref a] ∧ cls = .ref D ∧ IsErr T nm D ∧ (∀ dd, d = some dd → ∃ fs, H dd = some (.xd fs)) ∧ ∀ p, H p = none → Q (.ref p) (upd H p (.lst (tag D L)))
theorem ok_law_kinds_one (T : Tx K mg base) : FnW P w K mg base 1 T.f_law_kinds_one T.fd_law_kinds_one ["_law_e"] (spKinds T (errs1 T)) := by
  refine fun_okW T.F_law_kinds_one sc_law_kinds_one (fun a cls d vs H Q E h => ?_) (fun cdv A outer s H vs Q E p cls d hr hz hf h => ?_)
  · obtain ⟨nm, D, rfl, _⟩ := h
    rfl
  · obtain ⟨nm, D, rfl, rfl, hE, hdd, q⟩ := h
    have eD := hE.ok.1
    refine ⟨_, (pss_cons (ps_set (i := 1) sc_law_kinds_one.nd rfl (Or.inl rfl) (pe_lst pa_nil))
      (pss_cons (ps_if (pt_val (pe_callB (call_isW (K := K) rfl (List.mem_singleton.mpr rfl) eD T.k_get T.k_tak hz hf) (by rfl) T.z_isinstance bt_isinstance (pa_cons (pv 0) (pa_cons (pe_glob (v := .ref T.c_BadName) (by rfl) T.g_BadName rfl) pa_nil))))
      (pss_one (ps_expr (pe_bm PySem.F.plainAttrs_list PySem.F.slot_list_append PySem.F.type_list_append mt_append (pv 1) (pa_cons pe_str pa_nil))))
      pss_nil)
      (pss_cons (ps_if (pt_val (pe_callB (call_isW (K := K) rfl (List.mem_singleton.mpr rfl) eD T.k_get T.k_tak hz hf) (by rfl) T.z_isinstance bt_isinstance (pa_cons (pv 0) (pa_cons (pe_glob (v := .ref T.c_BadNumber) (by rfl) T.g_BadNumber rfl) pa_nil))))
      (pss_one (ps_expr (pe_bm PySem.F.plainAttrs_list PySem.F.slot_list_append PySem.F.type_list_append mt_append (pv 1) (pa_cons pe_str pa_nil))))
      pss_nil)
      (pss_cons (ps_if (pt_val (pe_callB (call_isW (K := K) rfl (List.mem_singleton.mpr rfl) eD T.k_get T.k_tak hz hf) (by rfl) T.z_isinstance bt_isinstance (pa_cons (pv 0) (pa_cons (pe_glob (v := .ref T.c_BadWay) (by rfl) T.g_BadWay rfl) pa_nil))))
      (pss_one (ps_expr (pe_bm PySem.F.plainAttrs_list PySem.F.slot_list_append PySem.F.type_list_append mt_append (pv 1) (pa_cons pe_str pa_nil))))
      pss_nil)
      (pss_cons (ps_if (pt_val (pe_callB (call_isW (K := K) rfl (List.mem_singleton.mpr rfl) eD T.k_get T.k_tak hz hf) (by rfl) T.z_isinstance bt_isinstance (pa_cons (pv 0) (pa_cons (pe_glob (v := .ref T.c_BadEnds) (by rfl) T.g_BadEnds rfl) pa_nil))))
      (pss_one (ps_expr (pe_bm PySem.F.plainAttrs_list PySem.F.slot_list_append PySem.F.type_list_append mt_append (pv 1) (pa_cons pe_str pa_nil))))
      pss_nil)
      (pss_cons (ps_if (pt_val (pe_callB (call_isW (K := K) rfl (List.mem_singleton.mpr rfl) eD T.k_get T.k_tak hz hf) (by rfl) T.z_isinstance bt_isinstance (pa_cons (pv 0) (pa_cons (pe_glob (v := .ref T.c_BadLine) (by rfl) T.g_BadLine rfl) pa_nil))))
      (pss_one (ps_expr (pe_bm PySem.F.plainAttrs_list PySem.F.slot_list_append PySem.F.type_list_append mt_append (pv 1) (pa_cons pe_str pa_nil))))
      pss_nil)
      (pss_cons (ps_if (pt_val (pe_callB (call_isW (K := K) rfl (List.mem_singleton.mpr rfl) eD T.k_get T.k_tak hz hf) (by rfl) T.z_isinstance bt_isinstance (pa_cons (pv 0) (pa_cons (pe_glob (v := .ref T.c_Taken) (by rfl) T.g_Taken rfl) pa_nil))))
      (pss_one (ps_expr (pe_bm PySem.F.plainAttrs_list PySem.F.slot_list_append PySem.F.type_list_append mt_append (pv 1) (pa_cons pe_str pa_nil))))
      pss_nil)
      (pss_cons (ps_if (pt_val (pe_callB (call_isW (K := K) rfl (List.mem_singleton.mpr rfl) eD T.k_get T.k_tak hz hf) (by rfl) T.z_isinstance bt_isinstance (pa_cons (pv 0) (pa_cons (pe_glob (v := .ref T.c_NoName) (by rfl) T.g_NoName rfl) pa_nil))))
      (pss_one (ps_expr (pe_bm PySem.F.plainAttrs_list PySem.F.slot_list_append PySem.F.type_list_append mt_append (pv 1) (pa_cons pe_str pa_nil))))
      pss_nil)
      (pss_cons (ps_if (pt_val (pe_callB (call_isW (K := K) rfl (List.mem_singleton.mpr rfl) eD T.k_get T.k_tak hz hf) (by rfl) T.z_isinstance bt_isinstance (pa_cons (pv 0) (pa_cons (pe_glob (v := .ref T.c_InUse) (by rfl) T.g_InUse rfl) pa_nil))))
      (pss_one (ps_expr (pe_bm PySem.F.plainAttrs_list PySem.F.slot_list_append PySem.F.type_list_append mt_append (pv 1) (pa_cons pe_str pa_nil))))
      pss_nil)
      (pss_cons (ps_if (pt_val (pe_callB (call_isW (K := K) rfl (List.mem_singleton.mpr rfl) eD T.k_get T.k_tak hz hf) (by rfl) T.z_isinstance bt_isinstance (pa_cons (pv 0) (pa_cons (pe_glob (v := .ref T.c_Full) (by rfl) T.g_Full rfl) pa_nil))))
      (pss_one (ps_expr (pe_bm PySem.F.plainAttrs_list PySem.F.slot_list_append PySem.F.type_list_append mt_append (pv 1) (pa_cons pe_str pa_nil))))
      pss_nil)
      (pss_one (ps_ret (pv 1))))))))))))), ?_⟩
    walk_at "sw"
    intro k nk
    have hd0 : ∀ (acc : List V) (dd : Addr), d = some dd → ∃ fs, (upd H k (.lst acc)) dd = some (.xd fs) := fun acc dd z => by
      obtain ⟨fs, z⟩ := hdd dd z
      exact ⟨fs, upd_get nk z⟩
    have hup : ∀ acc acc' : List V, upd (upd H k (.lst acc)) k (.lst acc') = upd H k (.lst acc') := fun _ _ => upd_upd
    have hl1 : ∀ (acc : List V) (b : Bool) (v : V) (m : Nat), acc.length ≤ m → (acc ++ (if b = true then [v] else [])).length ≤ m + 1 := fun acc b v m h => by
      cases b <;> simp <;> omega
    have l0 : ([] : List V).length ≤ 0 := Nat.zero_le _
    refine i_seq (k_step rfl rfl upd_same (kit_at hE (nm' := "BadName") (C := T.c_BadName) (by simp [IsErr, errs1, errs2])) (hd0 _) (Nat.le_trans l0 (by decide)) ?_)
    rw [hup]
    have l1 := hl1 _ (decide (T.c_BadName = D)) (.str "BadName") _ l0
    refine i_seq (k_step rfl rfl upd_same (kit_at hE (nm' := "BadNumber") (C := T.c_BadNumber) (by simp [IsErr, errs1, errs2])) (hd0 _) (Nat.le_trans l1 (by decide)) ?_)
    rw [hup]
    have l2 := hl1 _ (decide (T.c_BadNumber = D)) (.str "BadNumber") _ l1
    refine i_seq (k_step rfl rfl upd_same (kit_at hE (nm' := "BadWay") (C := T.c_BadWay) (by simp [IsErr, errs1, errs2])) (hd0 _) (Nat.le_trans l2 (by decide)) ?_)
    rw [hup]
    have l3 := hl1 _ (decide (T.c_BadWay = D)) (.str "BadWay") _ l2
    refine i_seq (k_step rfl rfl upd_same (kit_at hE (nm' := "BadEnds") (C := T.c_BadEnds) (by simp [IsErr, errs1, errs2])) (hd0 _) (Nat.le_trans l3 (by decide)) ?_)
    rw [hup]
    have l4 := hl1 _ (decide (T.c_BadEnds = D)) (.str "BadEnds") _ l3
    refine i_seq (k_step rfl rfl upd_same (kit_at hE (nm' := "BadLine") (C := T.c_BadLine) (by simp [IsErr, errs1, errs2])) (hd0 _) (Nat.le_trans l4 (by decide)) ?_)
    rw [hup]
    have l5 := hl1 _ (decide (T.c_BadLine = D)) (.str "BadLine") _ l4
    refine i_seq (k_step rfl rfl upd_same (kit_at hE (nm' := "Taken") (C := T.c_Taken) (by simp [IsErr, errs1, errs2])) (hd0 _) (Nat.le_trans l5 (by decide)) ?_)
    rw [hup]
    have l6 := hl1 _ (decide (T.c_Taken = D)) (.str "Taken") _ l5
    refine i_seq (k_step rfl rfl upd_same (kit_at hE (nm' := "NoName") (C := T.c_NoName) (by simp [IsErr, errs1, errs2])) (hd0 _) (Nat.le_trans l6 (by decide)) ?_)
    rw [hup]
    have l7 := hl1 _ (decide (T.c_NoName = D)) (.str "NoName") _ l6
    refine i_seq (k_step rfl rfl upd_same (kit_at hE (nm' := "InUse") (C := T.c_InUse) (by simp [IsErr, errs1, errs2])) (hd0 _) (Nat.le_trans l7 (by decide)) ?_)
    rw [hup]
    have l8 := hl1 _ (decide (T.c_InUse = D)) (.str "InUse") _ l7
    refine i_seq (k_step rfl rfl upd_same (kit_at hE (nm' := "Full") (C := T.c_Full) (by simp [IsErr, errs1, errs2])) (hd0 _) (Nat.le_trans l8 (by decide)) ?_)
    rw [hup]
    walk_at "sw"
    have := q k nk
    simp only [errs1, tag_cons, tag_nil, List.append_nil, List.nil_append, List.append_assoc] at this
    simp only [List.nil_append, List.append_assoc]
    exact this
theorem ok_law_kinds_two (T : Tx K mg base) : FnW P w K mg base 1 T.f_law_kinds_two T.fd_law_kinds_two ["_law_e"] (spKinds T (errs2 T)) := by
  refine fun_okW T.F_law_kinds_two sc_law_kinds_two (fun a cls d vs H Q E h => ?_) (fun cdv A outer s H vs Q E p cls d hr hz hf h => ?_)
  · obtain ⟨nm, D, rfl, _⟩ := h
    rfl
  · obtain ⟨nm, D, rfl, rfl, hE, hdd, q⟩ := h
    have eD := hE.ok.1
    refine ⟨_, (pss_cons (ps_set (i := 1) sc_law_kinds_two.nd rfl (Or.inl rfl) (pe_lst pa_nil))
      (pss_cons (ps_if (pt_val (pe_callB (call_isW (K := K) rfl (List.mem_singleton.mpr rfl) eD T.k_get T.k_tak hz hf) (by rfl) T.z_isinstance bt_isinstance (pa_cons (pv 0) (pa_cons (pe_glob (v := .ref T.c_Tight) (by rfl) T.g_Tight rfl) pa_nil))))
      (pss_one (ps_expr (pe_bm PySem.F.plainAttrs_list PySem.F.slot_list_append PySem.F.type_list_append mt_append (pv 1) (pa_cons pe_str pa_nil))))
      pss_nil)
      (pss_cons (ps_if (pt_val (pe_callB (call_isW (K := K) rfl (List.mem_singleton.mpr rfl) eD T.k_get T.k_tak hz hf) (by rfl) T.z_isinstance bt_isinstance (pa_cons (pv 0) (pa_cons (pe_glob (v := .ref T.c_Late) (by rfl) T.g_Late rfl) pa_nil))))
      (pss_one (ps_expr (pe_bm PySem.F.plainAttrs_list PySem.F.slot_list_append PySem.F.type_list_append mt_append (pv 1) (pa_cons pe_str pa_nil))))
      pss_nil)
      (pss_cons (ps_if (pt_val (pe_callB (call_isW (K := K) rfl (List.mem_singleton.mpr rfl) eD T.k_get T.k_tak hz hf) (by rfl) T.z_isinstance bt_isinstance (pa_cons (pv 0) (pa_cons (pe_glob (v := .ref T.c_Heavy) (by rfl) T.g_Heavy rfl) pa_nil))))
      (pss_one (ps_expr (pe_bm PySem.F.plainAttrs_list PySem.F.slot_list_append PySem.F.type_list_append mt_append (pv 1) (pa_cons pe_str pa_nil))))
      pss_nil)
      (pss_cons (ps_if (pt_val (pe_callB (call_isW (K := K) rfl (List.mem_singleton.mpr rfl) eD T.k_get T.k_tak hz hf) (by rfl) T.z_isinstance bt_isinstance (pa_cons (pv 0) (pa_cons (pe_glob (v := .ref T.c_NoPlan) (by rfl) T.g_NoPlan rfl) pa_nil))))
      (pss_one (ps_expr (pe_bm PySem.F.plainAttrs_list PySem.F.slot_list_append PySem.F.type_list_append mt_append (pv 1) (pa_cons pe_str pa_nil))))
      pss_nil)
      (pss_cons (ps_if (pt_val (pe_callB (call_isW (K := K) rfl (List.mem_singleton.mpr rfl) eD T.k_get T.k_tak hz hf) (by rfl) T.z_isinstance bt_isinstance (pa_cons (pv 0) (pa_cons (pe_glob (v := .ref T.c_NoRoom) (by rfl) T.g_NoRoom rfl) pa_nil))))
      (pss_one (ps_expr (pe_bm PySem.F.plainAttrs_list PySem.F.slot_list_append PySem.F.type_list_append mt_append (pv 1) (pa_cons pe_str pa_nil))))
      pss_nil)
      (pss_cons (ps_if (pt_val (pe_callB (call_isW (K := K) rfl (List.mem_singleton.mpr rfl) eD T.k_get T.k_tak hz hf) (by rfl) T.z_isinstance bt_isinstance (pa_cons (pv 0) (pa_cons (pe_glob (v := .ref T.c_NoStep) (by rfl) T.g_NoStep rfl) pa_nil))))
      (pss_one (ps_expr (pe_bm PySem.F.plainAttrs_list PySem.F.slot_list_append PySem.F.type_list_append mt_append (pv 1) (pa_cons pe_str pa_nil))))
      pss_nil)
      (pss_cons (ps_if (pt_val (pe_callB (call_isW (K := K) rfl (List.mem_singleton.mpr rfl) eD T.k_get T.k_tak hz hf) (by rfl) T.z_isinstance bt_isinstance (pa_cons (pv 0) (pa_cons (pe_glob (v := .ref T.c_TooFew) (by rfl) T.g_TooFew rfl) pa_nil))))
      (pss_one (ps_expr (pe_bm PySem.F.plainAttrs_list PySem.F.slot_list_append PySem.F.type_list_append mt_append (pv 1) (pa_cons pe_str pa_nil))))
      pss_nil)
      (pss_cons (ps_if (pt_val (pe_callB (call_isW (K := K) rfl (List.mem_singleton.mpr rfl) eD T.k_get T.k_tak hz hf) (by rfl) T.z_isinstance bt_isinstance (pa_cons (pv 0) (pa_cons (pe_glob (v := .ref T.c_BadPage) (by rfl) T.g_BadPage rfl) pa_nil))))
      (pss_one (ps_expr (pe_bm PySem.F.plainAttrs_list PySem.F.slot_list_append PySem.F.type_list_append mt_append (pv 1) (pa_cons pe_str pa_nil))))
      pss_nil)
      (pss_one (ps_ret (pv 1)))))))))))), ?_⟩
    walk_at "sw"
    intro k nk
    have hd0 : ∀ (acc : List V) (dd : Addr), d = some dd → ∃ fs, (upd H k (.lst acc)) dd = some (.xd fs) := fun acc dd z => by
      obtain ⟨fs, z⟩ := hdd dd z
      exact ⟨fs, upd_get nk z⟩
    have hup : ∀ acc acc' : List V, upd (upd H k (.lst acc)) k (.lst acc') = upd H k (.lst acc') := fun _ _ => upd_upd
    have hl1 : ∀ (acc : List V) (b : Bool) (v : V) (m : Nat), acc.length ≤ m → (acc ++ (if b = true then [v] else [])).length ≤ m + 1 := fun acc b v m h => by
      cases b <;> simp <;> omega
    have l0 : ([] : List V).length ≤ 0 := Nat.zero_le _
    refine i_seq (k_step rfl rfl upd_same (kit_at hE (nm' := "Tight") (C := T.c_Tight) (by simp [IsErr, errs1, errs2])) (hd0 _) (Nat.le_trans l0 (by decide)) ?_)
    rw [hup]
    have l1 := hl1 _ (decide (T.c_Tight = D)) (.str "Tight") _ l0
    refine i_seq (k_step rfl rfl upd_same (kit_at hE (nm' := "Late") (C := T.c_Late) (by simp [IsErr, errs1, errs2])) (hd0 _) (Nat.le_trans l1 (by decide)) ?_)
    rw [hup]
    have l2 := hl1 _ (decide (T.c_Late = D)) (.str "Late") _ l1
    refine i_seq (k_step rfl rfl upd_same (kit_at hE (nm' := "Heavy") (C := T.c_Heavy) (by simp [IsErr, errs1, errs2])) (hd0 _) (Nat.le_trans l2 (by decide)) ?_)
    rw [hup]
    have l3 := hl1 _ (decide (T.c_Heavy = D)) (.str "Heavy") _ l2
    refine i_seq (k_step rfl rfl upd_same (kit_at hE (nm' := "NoPlan") (C := T.c_NoPlan) (by simp [IsErr, errs1, errs2])) (hd0 _) (Nat.le_trans l3 (by decide)) ?_)
    rw [hup]
    have l4 := hl1 _ (decide (T.c_NoPlan = D)) (.str "NoPlan") _ l3
    refine i_seq (k_step rfl rfl upd_same (kit_at hE (nm' := "NoRoom") (C := T.c_NoRoom) (by simp [IsErr, errs1, errs2])) (hd0 _) (Nat.le_trans l4 (by decide)) ?_)
    rw [hup]
    have l5 := hl1 _ (decide (T.c_NoRoom = D)) (.str "NoRoom") _ l4
    refine i_seq (k_step rfl rfl upd_same (kit_at hE (nm' := "NoStep") (C := T.c_NoStep) (by simp [IsErr, errs1, errs2])) (hd0 _) (Nat.le_trans l5 (by decide)) ?_)
    rw [hup]
    have l6 := hl1 _ (decide (T.c_NoStep = D)) (.str "NoStep") _ l5
    refine i_seq (k_step rfl rfl upd_same (kit_at hE (nm' := "TooFew") (C := T.c_TooFew) (by simp [IsErr, errs1, errs2])) (hd0 _) (Nat.le_trans l6 (by decide)) ?_)
    rw [hup]
    have l7 := hl1 _ (decide (T.c_TooFew = D)) (.str "TooFew") _ l6
    refine i_seq (k_step rfl rfl upd_same (kit_at hE (nm' := "BadPage") (C := T.c_BadPage) (by simp [IsErr, errs1, errs2])) (hd0 _) (Nat.le_trans l7 (by decide)) ?_)
    rw [hup]
    walk_at "sw"
    have := q k nk
    simp only [errs2, tag_cons, tag_nil, List.append_nil, List.nil_append, List.append_assoc] at this
    simp only [List.nil_append, List.append_assoc]
    exact this
def spKind (T : Tx K mg base) : SpW := fun a cls d vs H Q _ => ∃ (nm : Str) (D : Addr), vs = [.ref a] ∧ cls = .ref D ∧ IsErr T nm D ∧ (∀ dd, d = some dd → ∃ fs, H dd = some (.xd fs)) ∧ ∀ H', Same H H' → Q (.str nm) H'
theorem ok_law_kind (T : Tx K mg base) : FnW P w K mg base 2 T.f_law_kind T.fd_law_kind ["_law_e"] (spKind T) := by
  refine fun_okW T.F_law_kind sc_law_kind (fun a cls d vs H Q E h => ?_) (fun cdv A outer s H vs Q E p cls d hr hz hf h => ?_)
  · obtain ⟨nm, D, rfl, _⟩ := h
    rfl
  · obtain ⟨nm, D, rfl, rfl, hE, hdd, q⟩ := h
    have eD := hE.ok.1
    refine ⟨_, (pss_cons (ps_set (i := 1) sc_law_kind.nd rfl (Or.inl rfl) (pe_op op_cat (pe_callW (ok_law_kinds_one T) (L2H.RoomH.mono hr (by decide)) (List.mem_singleton.mpr rfl) hz hf (by rfl) T.g_law_kinds_one T.F_law_kinds_one.kp T.b_law_kinds_one (pa_cons (pv 0) pa_nil)) (pe_callW (ok_law_kinds_two T) (L2H.RoomH.mono hr (by decide)) (List.mem_singleton.mpr rfl) hz hf (by rfl) T.g_law_kinds_two T.F_law_kinds_two.kp T.b_law_kinds_two (pa_cons (pv 0) pa_nil))))
      (pss_cons (ps_if ((pw_and (pt_cmpR op_eq (pe_callB (call_lenK (K := K) rfl) (by rfl) T.z_len bt_len (pa_cons (pv 1) pa_nil)) pe_int (nomark _)) (pw_and1 (pt_val (pe_callB (call_isW (K := K) rfl (List.mem_singleton.mpr rfl) eD T.k_get T.k_tak hz hf) (by rfl) T.z_isinstance bt_isinstance (pa_cons (pv 0) (pa_cons (pe_bltn (v := .ty "ValueError") (by rfl) T.z_ValueError bt_ValueError rfl) pa_nil))))))).pt
      (pss_one (ps_ret (pe_ix (ix_listK (K := K) rfl) (pv 1) pe_int (fun _ _ => rfl))))
      pss_nil)
      (pss_one (ps_ret pe_str)))), ?_⟩
    walk_at "sw"
    refine ⟨nm, D, rfl, rfl, hE, hdd, fun p1 np1 => ?_⟩
    have hd1 : ∀ dd, d = some dd → ∃ fs, (upd H p1 (.lst (tag D (errs1 T)))) dd = some (.xd fs) := fun dd z => by
      obtain ⟨fs, z⟩ := hdd dd z
      exact ⟨fs, upd_get np1 z⟩
    walk_at "sw"
    refine ⟨nm, D, rfl, rfl, hE, hd1, fun p2 np2 => ?_⟩
    have nd := (List.nodup_cons.mp T.k_nd).2
    have one : tag D (errs1 T) ++ tag D (errs2 T) = [.str nm] := by
      rw [← tag_app]
      exact tag_one nd hE
    have l1 : (tag D (errs1 T)).length ≤ 20 := Nat.le_trans (by unfold tag; rw [List.length_map]; exact List.length_filter_le _ _) (by show 9 ≤ 20; decide)
    have l2 : (tag D (errs2 T)).length ≤ 20 := Nat.le_trans (by unfold tag; rw [List.length_map]; exact List.length_filter_le _ _) (by show 8 ≤ 20; decide)
    refine ⟨p1, p2, _, _, rfl, rfl, upd_get np2 upd_same, upd_same, Nat.le_trans (Nat.add_le_add l1 l2) (by decide), fun p3 np3 => ?_⟩
    rw [one]
    have hs : Same H (upd (upd (upd H p1 (.lst (tag D (errs1 T)))) p2 (.lst (tag D (errs2 T)))) p3 (.lst [.str nm])) := ((same_new np1).trans (same_new np2)).trans (same_new np3)
    walk_at "sw"
    refine i_ite (fun _ => ?_) (fun h => absurd rfl h)
    walk_at "sw"
    refine ⟨.ty "ValueError", .type "ValueError", true, rfl, .ty _, eD.kitVE, fun dd z => ?_, ?_⟩
    · obtain ⟨fs, z⟩ := hdd dd z
      exact ⟨fs, hs _ _ z⟩
    · walk_at "sw"
      exact q _ hs
theorem gr_same {U H H' : Hp} (h : Same U H) (s : Same H H') (nd : ∀ a, H a ≠ none → H' a ≠ none) : Gr [] U H U H' := ⟨Same.refl _, h.trans s, fun a o _ _ e => s a o e, nd, fun _ e _ => e, fun P t => by
  obtain ⟨ps, h1, h2, h3⟩ := t
  exact ⟨ps, s _ _ h1, h2, fun pos cv z => by
    obtain ⟨c, e1, e2⟩ := h3 pos cv z
    exact ⟨c, e1, s _ _ e2⟩⟩, id⟩
theorem same_dom {H H' : Hp} (s : Same H H') (a : Addr) (h : H a ≠ none) : H' a ≠ none := fun z => by
  cases e : H a with
  | none => exact h e
  | some o => rw [s _ _ e] at z; cases z
def aKind (T : Tx K mg base) (a D' : Addr) (o : Option Addr) (e : AE) : AE := fun ρ Q X => e ρ (fun d => match d with
  | .exn a' _ o' _ _ => a' = a ∧ o' = o ∧ ∃ nm, IsErr T nm D' ∧ Q (.str nm)
  | _ => False) X
theorem sim_kind (T : Tx K mg base) {c : DC} (hK : c.K = K) {a D' : Addr} {o : Option Addr} {t : TE} {e : AE} (he : SimE c t e) : SimE c (tCallW (spKind T) a (.ref D') o (tCons t tNil)) (aKind T a D' o e) := fun U H σ ρ Q q I z k => he U H σ ρ _ _ I z fun U1 H1 d v g1 I1 r1 z1 => by
  cases d with
  | exn a' C' o' ns ds =>
    obtain ⟨rfl, rfl, nm, hn, z2⟩ := z1
    obtain ⟨rfl, r2⟩ := r1
    refine ⟨nm, D', rfl, rfl, hn, fun dd ed => ?_, fun H' s => ?_⟩
    · rcases r2 with ⟨_, e1⟩ | ⟨d2, xs, e1, e2, _, _⟩
      · rw [e1] at ed; cases ed
      · rw [e1] at ed
        cases ed
        exact ⟨_, I1.vh _ _ e2⟩
    · have g2 : Gr [] U1 H1 U1 H' := gr_same I1.vh s (same_dom s)
      exact k U1 H' (.str nm) _ (g1.trans g2.any) (I1.grow g2) rfl z2
  | _ => exact z1.elim
theorem w_kind (T : Tx K mg base) {a D' C2 : Addr} {o : Option Addr} {i : Nat} {ns : List Str} {ds : List D} {ρ : Env} {Q : D → Prop} {X : Exn → Prop} {nm : Str} (h1 : ρ[i]? = some (some (.fz (.exn a C2 o ns ds)))) (hn : IsErr T nm D') (q : Q (.str nm)) : aKind T a D' o (aVar i) ρ Q X := by
  unfold aKind aVar
  rw [h1]
  exact ⟨rfl, rfl, nm, hn, q⟩
def b_law_net (T : Tx K mg base) : AS := (aSeq (aSetO 1 (aMk00 T.c_Net (A_Net_init T)))
    (aSeq (aFor (aItL (aOp oIxT (aVar 0) (aC (.int 0)))) (gN 2)
    (mDrop (mFz (mMe0 T.c_Net "house" (A_Net_house T) 1 (aArg (aVar 2) aArgs)))))
    (aSeq (aFor (aItL (aOp oIxT (aVar 0) (aC (.int 1)))) (gN 2)
    (mDrop (mFz (mMe0 T.c_Net "gate" (A_Net_gate T) 1 (aArg (aVar 2) aArgs)))))
    (aSeq (aFor (aItL (aOp oIxT (aVar 0) (aC (.int 2)))) (gL 4 (gsCons (gN 2) (gsCons (gN 3) (gsCons (gN 4) (gsCons (gN 5) gsNil)))))
    (mDrop (mFz (mMeN0 T.c_Net "line" 3 1 (A_Net_line T) [.kw 0] 1 (aCons (aVar 2) (aCons (aCB oTuple (aCons (aVar 3) aNil)) (aCons (aCB oTuple (aCons (aVar 4) aNil)) aNil))) (aCons (aVar 5) aNil)))))
    (aRetV 1)))))
abbrev A_law_net (T : Tx K mg base) : AF := bodyA [false] 5 (b_law_net T)
theorem A_law_net_of (T : Tx K mg base) {d0 : D} {q : AV → Prop} {x : Exn → Prop} (h : b_law_net T ⟨fun _ => q (.fz .non), fun av _ => q av, fun _ => False, fun _ => False, fun e _ => x e⟩ [some (.fz d0), none, none, none, none, none]) : A_law_net T [.fz d0] q x := ⟨rfl, h⟩
theorem ok_law_net (T : Tx K mg base) : FnOk P w K mg base CX0 5 T.f_law_net T.fd_law_net ["_law_world_here"] (spD K T.tb (A_law_net T)) := by
  refine T.F_law_net.ok sc_law_net (fun vs H Q E h => spD_len h) (fun cdv A outer s0 H vs Q E hr h => ?_)
  have hst : L2.start ["_law_world_here", "_law_net_here", "_law_name_here", "_law_senders", "_law_ears", "_law_the_wire"] vs = vs.map some ++ List.replicate 5 none := by
    unfold L2.start
    rw [spD_len h]
    rfl
  obtain ⟨mv_kb_Net_line_wire, hkb_Net_line_wire⟩ := kb_Net_line_wire T
  have cl_Net := T.C_Net
  refine ⟨_, (pss_cons (ps_set (i := 1) sc_law_net.nd rfl (Or.inl rfl) (pe_mkS0 T.M_Net (ok_Net_init T) (hr.mono (by decide)) (by rfl) T.g_Net T.b_Net_init .nil coldAt))
      (pss_cons (ps_for PassesOwn.never rfl (pi_listK (K := K) rfl (pe_ix (ix_tupK (K := K) rfl) (pv 0) pe_int (fun _ _ => rfl))) (pg_name (i := 2) sc_law_net.nd rfl (Or.inl rfl))
      (pss_one (ps_expr (pe_meS (pv 1) T.C_Net T.m_Net_house (ok_Net_house T) (hr.mono (by decide)) T.b_Net_house .nil coldAt (pa_cons (pv 2) pa_nil)))))
      (pss_cons (ps_for PassesOwn.never rfl (pi_listK (K := K) rfl (pe_ix (ix_tupK (K := K) rfl) (pv 0) pe_int (fun _ _ => rfl))) (pg_name (i := 2) sc_law_net.nd rfl (Or.inl rfl))
      (pss_one (ps_expr (pe_meS (pv 1) T.C_Net T.m_Net_gate (ok_Net_gate T) (hr.mono (by decide)) T.b_Net_gate .nil coldAt (pa_cons (pv 2) pa_nil)))))
      (pss_cons (ps_for PassesOwn.never rfl (pi_listK (K := K) rfl (pe_ix (ix_tupK (K := K) rfl) (pv 0) pe_int (fun _ _ => rfl))) (pg_lstK (K := K) (n := 4) rfl (by rfl) (pgs_cons (pg_name (i := 2) sc_law_net.nd rfl (Or.inl rfl)) (pgs_cons (pg_name (i := 3) sc_law_net.nd rfl (Or.inl rfl)) (pgs_cons (pg_name (i := 4) sc_law_net.nd rfl (Or.inl rfl)) (pgs_cons (pg_name (i := 5) sc_law_net.nd rfl (Or.inl rfl)) pgs_nil)))))
      (pss_one (ps_expr (pe_meNS (pv 1) T.C_Net T.m_Net_line (ok_Net_line T) (hr.mono (by decide)) hkb_Net_line_wire coldAt (pa_cons (pv 2) (pa_cons (pe_callTy (call_tupleK (K := K) rfl) (by rfl) T.z_tuple bt_tuple (pa_cons (pv 3) pa_nil)) (pa_cons (pe_callTy (call_tupleK (K := K) rfl) (by rfl) T.z_tuple bt_tuple (pa_cons (pv 4) pa_nil)) pa_nil))) (pk_cons (pv 5) pk_nil)))))
      (pss_one (ps_ret (pv 1))))))), run_body h hst fun pk pv O M U0 H0 X => ?_⟩
  unfold b_law_net
  exact (sim_seq (sim_setO rfl sim_mk00)
    (sim_seq (sim_for (sim_itL (sim_op op_ixT (SimE.w sim_var) (SimE.w sim_int))) (sim_gN rfl)
    (simM_drop (simM_fz (simM_me0 (sim_arg sim_var sim_args)))))
    (sim_seq (sim_for (sim_itL (sim_op op_ixT (SimE.w sim_var) (SimE.w sim_int))) (sim_gN rfl)
    (simM_drop (simM_fz (simM_me0 (sim_arg sim_var sim_args)))))
    (sim_seq (sim_for (sim_itL (sim_op op_ixT (SimE.w sim_var) (SimE.w sim_int))) (sim_gL (sim_gsCons (sim_gN rfl) (sim_gsCons (sim_gN rfl) (sim_gsCons (sim_gN rfl) (sim_gsCons (sim_gN rfl) sim_gsNil)))))
    (simM_drop (simM_fz (simM_meN0 rfl (by walk_at "arr") (sim_cons sim_var (sim_cons (sim_cb bu_tuple (sim_consW (SimE.w sim_var) sim_nilW)) (sim_cons (sim_cb bu_tuple (sim_consW (SimE.w sim_var) sim_nilW)) sim_nil))) (sim_cons sim_var sim_nil)))))
    (sim_retV rfl)))))
def b_law_drop (T : Tx K mg base) : AS := (aSeq (aTry K false [true, true, false] [⟨T.c_InUse, some 2, fun a D o => (aRet (aTup (aCons (aC (.str "InUse")) (aCons (aXF a D o T.c_InUse "name" (aVar 2)) aNil))))⟩, ⟨T.c_NoName, some 2, fun a D o => (aRet (aTup (aCons (aC (.str "NoName")) (aCons (aXF a D o T.c_NoName "name" (aVar 2)) aNil))))⟩]
    (mDrop (mFz (mMe T.c_Net "drop" (A_Net_drop T) 0 (aArg (aVar 1) aArgs)))))
    (aRet (aTup (aCons (aC (.str "done")) (aCons (aVar 1) aNil)))))
abbrev A_law_drop (T : Tx K mg base) : AFM := bodyM [6, 0] 1 (b_law_drop T)
theorem A_law_drop_of (T : Tx K mg base) (c0 x0 : Addr) (n0 : List Str) (w0 : List V) (a0 : List AV) (d1 : D) {q : AV → List AV → Prop} {x : Exn → List AV → Prop} (h : b_law_drop T ⟨fun ρ => q (.fz .non) (mrg [.ob c0 x0 n0 w0 a0, .fz d1] (selM [true, false] ρ)), fun av ρ => q av (mrg [.ob c0 x0 n0 w0 a0, .fz d1] (selM [true, false] ρ)), fun _ => False, fun _ => False, fun e ρ => x e (mrg [.ob c0 x0 n0 w0 a0, .fz d1] (selM [true, false] ρ))⟩ [some (.ob c0 x0 n0 w0 a0), some (.fz d1), none]) : A_law_drop T [.ob c0 x0 n0 w0 a0, .fz d1] q x := ⟨rfl, h⟩
theorem ok_law_drop (T : Tx K mg base) : FnOk P w K mg base CX0 4 T.f_law_drop T.fd_law_drop ["_law_net_here", "_law_name_here"] (spM K T.tb (A_law_drop T)) := by
  refine T.F_law_drop.ok sc_law_drop (fun vs H Q E h => spM_len h) (fun cdv A outer s0 H vs Q E hr h => ?_)
  have hst : L2.start ["_law_net_here", "_law_name_here", "_law_e"] vs = vs.map some ++ List.replicate 1 none := by
    unfold L2.start
    rw [spM_len h]
    rfl
  have cl_Net := T.C_Net
  refine ⟨_, (pss_cons (ps_try_hs rfl rfl sc_law_drop.nd takes0 (fun W pn xe tk po =>
      (pss_one (ps_expr (pe_meS (pv 0) T.C_Net T.m_Net_drop (ok_Net_drop T) (hr.mono (by decide)) T.b_Net_drop .nil (fun σ => passAt tk σ) (pa_cons (pv 1) pa_nil))))) (.named ⟨rfl, by decide, .inl T.g_InUse⟩ (i := 2) rfl rfl (fun a oe cls d pn hz hf =>
      (pss_one (ps_ret (pe_tup (pa_cons pe_str (pa_cons (pe_xf (C := T.c_InUse) T.XF_InUse T.XN_InUse_name hz hf (pv 2)) pa_nil)))))) (.named ⟨rfl, by decide, .inl T.g_NoName⟩ (i := 2) rfl rfl (fun a oe cls d pn hz hf =>
      (pss_one (ps_ret (pe_tup (pa_cons pe_str (pa_cons (pe_xf (C := T.c_NoName) T.XF_NoName T.XN_NoName_name hz hf (pv 2)) pa_nil)))))) .nil)))
      (pss_one (ps_ret (pe_tup (pa_cons pe_str (pa_cons (pv 1) pa_nil)))))), run_bodyM h hst fun pk pv O M U0 H0 X => ?_⟩
  unfold b_law_drop
  exact (sim_seq (sim_try (zf := false) rfl (fun z => nomatch z) (HndsR.named rfl rfl (fun a D o => (sim_ret (sim_tup (sim_cons sim_str (sim_cons (sim_xf sim_var) sim_nil))))) (HndsR.named rfl rfl (fun a D o => (sim_ret (sim_tup (sim_cons sim_str (sim_cons (sim_xf sim_var) sim_nil))))) HndsR.nil)) (fun W pk pv O M U0 H0 X => (simM_drop (simM_fz (simM_me (fun _ => rfl) (sim_arg sim_var sim_args))))))
    (sim_ret (sim_tup (sim_cons sim_str (sim_cons sim_var sim_nil)))))
def b_law_gone (T : Tx K mg base) : AS := (aSeq (aSetO 2 (aLst aNil))
    (aSeq (aTry K false [true, true, true, false] [⟨T.c_NoName, some 3, fun a D o => (aApp 2 (aXF a D o T.c_NoName "name" (aVar 3)))⟩]
    (aDrop (aFz (aMeFX T.c_Net "kind" (A_Net_kind T) 0 (aArg (aVar 1) aArgs)))))
    (aSeq (aTry K false [true, true, true, false] [⟨T.c_NoName, some 3, fun a D o => (aApp 2 (aXF a D o T.c_NoName "name" (aVar 3)))⟩]
    (mDrop (mFz (mMe T.c_Net "ends" (A_Net_ends T) 0 (aArg (aVar 1) aArgs)))))
    (aRetV 2))))
abbrev A_law_gone (T : Tx K mg base) : AFM := bodyM [6, 0] 2 (b_law_gone T)
theorem A_law_gone_of (T : Tx K mg base) (c0 x0 : Addr) (n0 : List Str) (w0 : List V) (a0 : List AV) (d1 : D) {q : AV → List AV → Prop} {x : Exn → List AV → Prop} (h : b_law_gone T ⟨fun ρ => q (.fz .non) (mrg [.ob c0 x0 n0 w0 a0, .fz d1] (selM [true, false] ρ)), fun av ρ => q av (mrg [.ob c0 x0 n0 w0 a0, .fz d1] (selM [true, false] ρ)), fun _ => False, fun _ => False, fun e ρ => x e (mrg [.ob c0 x0 n0 w0 a0, .fz d1] (selM [true, false] ρ))⟩ [some (.ob c0 x0 n0 w0 a0), some (.fz d1), none, none]) : A_law_gone T [.ob c0 x0 n0 w0 a0, .fz d1] q x := ⟨rfl, h⟩
theorem ok_law_gone (T : Tx K mg base) : FnOk P w K mg base CX0 4 T.f_law_gone T.fd_law_gone ["_law_net_here", "_law_name_here"] (spM K T.tb (A_law_gone T)) := by
  refine T.F_law_gone.ok sc_law_gone (fun vs H Q E h => spM_len h) (fun cdv A outer s0 H vs Q E hr h => ?_)
  have hst : L2.start ["_law_net_here", "_law_name_here", "_law_got", "_law_e"] vs = vs.map some ++ List.replicate 2 none := by
    unfold L2.start
    rw [spM_len h]
    rfl
  have cl_Net := T.C_Net
  refine ⟨_, (pss_cons (ps_set (i := 2) sc_law_gone.nd rfl (Or.inl rfl) (pe_lst pa_nil))
      (pss_cons (ps_try_hs rfl rfl sc_law_gone.nd takes0 (fun W pn xe tk po =>
      (pss_one (ps_expr (pe_meS (pv 0) T.C_Net T.m_Net_kind (ok_Net_kind T) (hr.mono (by decide)) T.b_Net_kind .nil (fun σ => passAt tk σ) (pa_cons (pv 1) pa_nil))))) (.named ⟨rfl, by decide, .inl T.g_NoName⟩ (i := 3) rfl rfl (fun a oe cls d pn hz hf =>
      (pss_one (ps_expr (pe_bmK (K := K) rfl (pe_bm PySem.F.plainAttrs_list PySem.F.slot_list_append PySem.F.type_list_append mt_append (pv 2) (pa_cons (pe_xf (C := T.c_NoName) T.XF_NoName T.XN_NoName_name hz hf (pv 3)) pa_nil)))))) .nil))
      (pss_cons (ps_try_hs rfl rfl sc_law_gone.nd takes0 (fun W pn xe tk po =>
      (pss_one (ps_expr (pe_meS (pv 0) T.C_Net T.m_Net_ends (ok_Net_ends T) (hr.mono (by decide)) T.b_Net_ends .nil (fun σ => passAt tk σ) (pa_cons (pv 1) pa_nil))))) (.named ⟨rfl, by decide, .inl T.g_NoName⟩ (i := 3) rfl rfl (fun a oe cls d pn hz hf =>
      (pss_one (ps_expr (pe_bmK (K := K) rfl (pe_bm PySem.F.plainAttrs_list PySem.F.slot_list_append PySem.F.type_list_append mt_append (pv 2) (pa_cons (pe_xf (C := T.c_NoName) T.XF_NoName T.XN_NoName_name hz hf (pv 3)) pa_nil)))))) .nil))
      (pss_one (ps_ret (pv 2)))))), run_bodyM h hst fun pk pv O M U0 H0 X => ?_⟩
  unfold b_law_gone
  exact (sim_seq (sim_setO rfl (sim_lst sim_nil))
    (sim_seq (sim_try (zf := false) rfl (fun z => nomatch z) (HndsR.named rfl rfl (fun a D o => (sim_app (sim_xf sim_var))) HndsR.nil) (fun W pk pv O M U0 H0 X => (sim_drop (sim_fz (sim_meFX (fun _ => rfl) (sim_arg sim_var sim_args))))))
    (sim_seq (sim_try (zf := false) rfl (fun z => nomatch z) (HndsR.named rfl rfl (fun a D o => (sim_app (sim_xf sim_var))) HndsR.nil) (fun W pk pv O M U0 H0 X => (simM_drop (simM_fz (simM_me (fun _ => rfl) (sim_arg sim_var sim_args))))))
    (sim_retV rfl))))
def b_law_fill (T : Tx K mg base) : AS := (aSeq (aSet 4 (aC (.str "none")))
    (aSeq (aFor (aRng1 (aCons (aVar 3) aNil)) (gN 5)
    (aTry K false [true, true, true, true, true, true, false] [⟨T.c_NetError, some 6, fun a D o => (aSet 4 (aOp oCatS (aOp oCatS (aOp oCatS (aVar 4) (aC (.str " "))) (aCB oStr (aCons (aVar 5) aNil))) (aKind T a D o (aVar 6))))⟩]
    (aIf (aTest (aOp oEq (aOp oMod (aVar 5) (aC (.int 2))) (aC (.int 0))))
    (mDrop (mFz (mMeM T.c_Net "house" (A_Net_house T) 0 (mCons (mFz (mCall0 (A_law_name T) (aSlot 2 (aSlotO 1 aArgs)))) mNil))))
    (mDrop (mFz (mMeM T.c_Net "gate" (A_Net_gate T) 0 (mCons (mFz (mCall0 (A_law_name T) (aSlot 2 (aSlotO 1 aArgs)))) mNil)))))))
    (aRet (aVar 4))))
abbrev A_law_fill (T : Tx K mg base) : AFM := bodyM [6, 1, 4, 0] 3 (b_law_fill T)
theorem A_law_fill_of (T : Tx K mg base) (c0 x0 : Addr) (n0 : List Str) (w0 : List V) (a0 : List AV) (l1 : List D) (d3 : D) {q : AV → List AV → Prop} {x : Exn → List AV → Prop} (h : b_law_fill T ⟨fun ρ => q (.fz .non) (mrg [.ob c0 x0 n0 w0 a0, .ol l1, .dr, .fz d3] (selM [true, true, true, false] ρ)), fun av ρ => q av (mrg [.ob c0 x0 n0 w0 a0, .ol l1, .dr, .fz d3] (selM [true, true, true, false] ρ)), fun _ => False, fun _ => False, fun e ρ => x e (mrg [.ob c0 x0 n0 w0 a0, .ol l1, .dr, .fz d3] (selM [true, true, true, false] ρ))⟩ [some (.ob c0 x0 n0 w0 a0), some (.ol l1), some (.dr), some (.fz d3), none, none, none]) : A_law_fill T [.ob c0 x0 n0 w0 a0, .ol l1, .dr, .fz d3] q x := ⟨rfl, h⟩
theorem ok_law_fill (T : Tx K mg base) : FnOk P w K mg base CX0 5 T.f_law_fill T.fd_law_fill ["_law_net_here", "_law_names", "_law_s", "_law_many"] (spM K T.tb (A_law_fill T)) := by
  refine T.F_law_fill.ok sc_law_fill (fun vs H Q E h => spM_len h) (fun cdv A outer s0 H vs Q E hr h => ?_)
  have hst : L2.start ["_law_net_here", "_law_names", "_law_s", "_law_many", "_law_got", "_law_k", "_law_e"] vs = vs.map some ++ List.replicate 3 none := by
    unfold L2.start
    rw [spM_len h]
    rfl
  have cl_Net := T.C_Net
  refine ⟨_, (pss_cons (ps_set (i := 4) sc_law_fill.nd rfl (Or.inl rfl) pe_str)
      (pss_cons (ps_for PassesOwn.never rfl (pi_range1 (by rfl) T.z_range (pa_cons (pv 3) pa_nil)) (pg_name (i := 5) sc_law_fill.nd rfl (Or.inl rfl))
      (pss_one (ps_try_hs rfl rfl sc_law_fill.nd takes0 (fun W pn xe tk po =>
      (pss_one (ps_if (pt_cmpR op_eq (pe_op op_mod (pv 5) pe_int) pe_int (nomark _))
      (pss_one (ps_expr (pe_meS (pv 0) T.C_Net T.m_Net_house (ok_Net_house T) (hr.mono (by decide)) T.b_Net_house .nil (fun σ => passAt tk σ) (pa_cons (pe_call (ok_law_name T) (hr.mono (by decide)) (by rfl) T.g_law_name T.F_law_name.kp T.b_law_name .nil pass0 (pa_cons (pv 2) (pa_cons (pv 1) pa_nil))) pa_nil))))
      (pss_one (ps_expr (pe_meS (pv 0) T.C_Net T.m_Net_gate (ok_Net_gate T) (hr.mono (by decide)) T.b_Net_gate .nil (fun σ => passAt tk σ) (pa_cons (pe_call (ok_law_name T) (hr.mono (by decide)) (by rfl) T.g_law_name T.F_law_name.kp T.b_law_name .nil pass0 (pa_cons (pv 2) (pa_cons (pv 1) pa_nil))) pa_nil))))))) (.named ⟨rfl, by decide, .inl T.g_NetError⟩ (i := 6) rfl rfl (fun a oe cls d pn hz hf =>
      (pss_one (ps_set (i := 4) sc_law_fill.nd rfl (Or.inl rfl) (pe_op op_catS (pe_op op_catS (pe_op op_catS (pv 4) pe_str) (pe_callTy call_str_int (by rfl) T.z_str bt_str (pa_cons (pv 5) pa_nil))) (pe_callA a oe cls d (ok_law_kind T) (roomW (hr.mono (by decide))) List.mem_cons_self hz hf (by rfl) T.g_law_kind T.F_law_kind.kp T.b_law_kind (pa_cons (pv 6) pa_nil)))))) .nil))))
      (pss_one (ps_ret (pv 4))))), run_bodyM h hst fun pk pv O M U0 H0 X => ?_⟩
  unfold b_law_fill
  exact (sim_seq (sim_set rfl sim_str)
    (sim_seq (sim_for (sim_rng1 (sim_consW (SimE.w sim_var) sim_nilW)) (sim_gN rfl)
    (sim_try (zf := false) rfl (fun z => nomatch z) (HndsR.named rfl rfl (fun a D o => (sim_set rfl (sim_op op_catSD (SimE.w (sim_op op_catSD (SimE.w (sim_op op_catSD (SimE.w sim_var) (SimE.w sim_str))) (SimE.w (sim_cb bu_str (sim_consW (SimE.w sim_var) sim_nilW))))) (SimE.w (sim_kind T rfl sim_var))))) HndsR.nil) (fun W pk pv O M U0 H0 X => (sim_if (sim_test (SimE.w (sim_op op_eqS (SimE.w (sim_op (op_ic (fun _ _ _ => rfl)) (SimE.w sim_var) (SimE.w sim_int))) (SimE.w sim_int))))
    (simM_drop (simM_fz (simM_meM (fun _ => rfl) (simM_cons (simM_fz (simM_call (sim_slot (sim_slotO sim_args)))) simM_nil))))
    (simM_drop (simM_fz (simM_meM (fun _ => rfl) (simM_cons (simM_fz (simM_call (sim_slot (sim_slotO sim_args)))) simM_nil))))))))
    (sim_ret sim_var)))
def b_law_filled (T : Tx K mg base) : AS := (aSeq (aSet 3 (aFz (aLc (aItL (aFz (aMeF0 T.c_Net "names" (A_Net_names T) 2 aArgs))) (gN 8) (aTest (aOp oNe (aFz (aMeF0 T.c_Net "kind" (A_Net_kind T) 2 (aArg (aVar 8) aArgs))) (aC (.str "line")))) (aVar 8) [8])))
    (aSeq (aSet 4 (aFz (aLc (aItL (aFz (aMeF0 T.c_Net "names" (A_Net_names T) 2 aArgs))) (gN 8) (aTest (aOp oEq (aFz (aMeF0 T.c_Net "kind" (A_Net_kind T) 2 (aArg (aVar 8) aArgs))) (aC (.str "line")))) (aVar 8) [8])))
    (aSeq (mSet 5 (mFz (mCallW (A_law_fill T) 2 1 5 0 (aOp oSub (aC (.int 17)) (aCB oLen (aCons (aVar 3) aNil))))))
    (aSeq (aIf (aTest (aOp oNeD (aVarW 5) (aOp oCatS (aOp oCatS (aC (.str "none ")) (aCB oStr (aCons (aOp oSub (aC (.int 16)) (aCB oLen (aCons (aVar 3) aNil))) aNil))) (aC (.str "Full")))))
    (aRet (aC (.bl false)))
    aNext)
    (aSeq (aSet 6 (aCB oTuple (aCons (aFz (aSlO oSlL (aFz (aLc (aItL (aFz (aMeF0 T.c_Net "names" (A_Net_names T) 2 aArgs))) (gN 8) (aTest (aOp oNe (aFz (aMeF0 T.c_Net "kind" (A_Net_kind T) 2 (aArg (aVar 8) aArgs))) (aC (.str "line")))) (aVar 8) [8])) aNoPart (aPart (aC (.int 6))))) aNil)))
    (aSeq (aFor (aRng1 (aCons (aOp oSub (aC (.int 16)) (aCB oLen (aCons (aVar 4) aNil))) aNil)) (gN 7)
    (mDrop (mFz (mMeNM0 T.c_Net "line" 3 1 (A_Net_line T) [.kw 0] 2 (mCons (mFz (mCallU (A_law_name T) 0 1 5)) (mCons (mE (aVar 6)) (mCons (mE (aSl oSlT (aVar 6) aNoPart (aPart (aOp oAdd (aC (.int 1)) (aOp oMod (aVar 7) (aC (.int 6))))))) mNil))) (aCons (aOp oMod (aVar 7) (aC (.int 31))) aNil)))))
    (aSeq (aSetO 5 (aLst aNil))
    (aSeq (mFor (mItL (mFz (mLst (mCons (mFz (mCallU (A_law_name T) 0 1 5)) (mCons (mE (aC (.str "A"))) (mCons (mE (aOp oIxT (aVar 6) (aC (.int 0)))) (mCons (mE (aC (.str ""))) mNil))))))) (gN 8)
    (aFor (aItL (aFz (aLst (aCons (aC (.bl false)) (aCons (aC (.bl true)) aNil))))) (gN 9)
    (aTry K false [true, true, true, true, true, true, true, false, true, true, false, false] [⟨T.c_NetError, some 10, fun a D o => (aApp 5 (aKind T a D o (aVar 10)))⟩]
    (aIf (aTest (aVar 9))
    (mDrop (mFz (mMeD T.c_Net "line" (A_Net_line T) [1] 2 (aCons (aVar 8) (aCons (aTup aNil) (aCons (aVar 6) aNil))))))
    (mDrop (mFz (mMe T.c_Net "house" (A_Net_house T) 2 (aArg (aVar 8) aArgs))))))))
    (aSeq (aSet 11 (aFz (aLst (aCons (aC (.str "Full")) (aCons (aC (.str "Full")) (aCons (aC (.str "BadName")) (aCons (aC (.str "BadName")) (aCons (aC (.str "Taken")) (aCons (aC (.str "Taken")) (aCons (aC (.str "BadName")) (aCons (aC (.str "BadName")) aNil)))))))))))
    (aRet (aAndV (aOp oEqD (aVarW 5) (aVar 11)) (aOp oEq (aLenF T.c_Net (A_Net_len T) 2) (aC (.int 32))))))))))))))
abbrev A_law_filled (T : Tx K mg base) : AFM := bodyM [4, 7, 6] 9 (b_law_filled T)
theorem A_law_filled_of (T : Tx K mg base) (w1 : List V) (a1 : List AV) (c2 x2 : Addr) (n2 : List Str) (w2 : List V) (a2 : List AV) {q : AV → List AV → Prop} {x : Exn → List AV → Prop} (h : b_law_filled T ⟨fun ρ => q (.fz .non) (mrg [.dr, .ut w1 a1, .ob c2 x2 n2 w2 a2] (selM [true, true, true] ρ)), fun av ρ => q av (mrg [.dr, .ut w1 a1, .ob c2 x2 n2 w2 a2] (selM [true, true, true] ρ)), fun _ => False, fun _ => False, fun e ρ => x e (mrg [.dr, .ut w1 a1, .ob c2 x2 n2 w2 a2] (selM [true, true, true] ρ))⟩ [some (.dr), some (.ut w1 a1), some (.ob c2 x2 n2 w2 a2), none, none, none, none, none, none, none, none, none]) : A_law_filled T [.dr, .ut w1 a1, .ob c2 x2 n2 w2 a2] q x := ⟨rfl, h⟩
theorem ok_law_filled (T : Tx K mg base) : FnOk P w K mg base CX0 6 T.f_law_filled T.fd_law_filled ["_law_s", "_law_world_here", "_law_net_here"] (spM K T.tb (A_law_filled T)) := by
  refine T.F_law_filled.ok sc_law_filled (fun vs H Q E h => spM_len h) (fun cdv A outer s0 H vs Q E hr h => ?_)
  have hst : L2.start ["_law_s", "_law_world_here", "_law_net_here", "_law_nodes", "_law_left", "_law_got", "_law_ends", "_law_k", "_law_name_here", "_law_lined", "_law_e", "_law_due"] vs = vs.map some ++ List.replicate 9 none := by
    unfold L2.start
    rw [spM_len h]
    rfl
  obtain ⟨mv_kb_Net_line_wire, hkb_Net_line_wire⟩ := kb_Net_line_wire T
  obtain ⟨ds_Net_line, vd_Net_line, bd_Net_line⟩ := kb_Net_line T
  have cl_Net := T.C_Net
  refine ⟨_, (pss_cons (ps_setLc (i := 3) (own := [("_law_name_here", 8)]) (by rfl) sc_law_filled.nd rfl rfl (sw_true rfl rfl rfl (by decide +kernel)) (pi_listK (K := K) rfl (pe_meth0 (pv 2) T.C_Net T.m_Net_names (ok_Net_names T) (hr.mono (by decide)) T.b_Net_names .nil pass0)) (blkOk_by (own := [("_law_name_here", 8)]) (N := ["_law_s", "_law_world_here", "_law_net_here", "_law_nodes", "_law_left", "_law_got", "_law_ends", "_law_k", "_law_name_here", "_law_lined", "_law_e", "_law_due"]) (sc := defScope s_law_filled) (by decide +kernel)) (fun _ _ _ _ _ => (pg_name (i := 8) sc_law_filled.nd rfl (Or.inl rfl))) (fun _ _ _ _ _ => (pts_one (pt_cmpR op_ne (pe_meS (pv 2) T.C_Net T.m_Net_kind (ok_Net_kind T) (hr.mono (by decide)) T.b_Net_kind .nil coldAt (pa_cons (pv 8) pa_nil)) pe_str (nomark _)))) (fun _ _ _ _ _ => (pv 8)))
      (pss_cons (ps_setLc (i := 4) (own := [("_law_name_here", 8)]) (by rfl) sc_law_filled.nd rfl rfl (sw_true rfl rfl rfl (by decide +kernel)) (pi_listK (K := K) rfl (pe_meth0 (pv 2) T.C_Net T.m_Net_names (ok_Net_names T) (hr.mono (by decide)) T.b_Net_names .nil pass0)) (blkOk_by (own := [("_law_name_here", 8)]) (N := ["_law_s", "_law_world_here", "_law_net_here", "_law_nodes", "_law_left", "_law_got", "_law_ends", "_law_k", "_law_name_here", "_law_lined", "_law_e", "_law_due"]) (sc := defScope s_law_filled) (by decide +kernel)) (fun _ _ _ _ _ => (pg_name (i := 8) sc_law_filled.nd rfl (Or.inl rfl))) (fun _ _ _ _ _ => (pts_one (pt_cmpR op_eq (pe_meS (pv 2) T.C_Net T.m_Net_kind (ok_Net_kind T) (hr.mono (by decide)) T.b_Net_kind .nil coldAt (pa_cons (pv 8) pa_nil)) pe_str (nomark _)))) (fun _ _ _ _ _ => (pv 8)))
      (pss_cons (ps_set (i := 5) sc_law_filled.nd rfl (Or.inl rfl) (pe_call (ok_law_fill T) (hr.mono (by decide)) (by rfl) T.g_law_fill T.F_law_fill.kp T.b_law_fill .nil pass0 (pa_cons (pv 2) (pa_cons (pe_ix (ix_tupK (K := K) rfl) (pv 1) pe_int (fun _ _ => rfl)) (pa_cons (pv 0) (pa_cons (pe_op op_sub pe_int (pe_callB (call_lenK (K := K) rfl) (by rfl) T.z_len bt_len (pa_cons (pv 3) pa_nil))) pa_nil))))))
      (pss_cons (ps_if (pt_cmpR (op_neDK (K := K) rfl hr.units) (pv 5) (pe_op op_catS (pe_op op_catS pe_str (pe_callTy call_str_int (by rfl) T.z_str bt_str (pa_cons (pe_op op_sub pe_int (pe_callB (call_lenK (K := K) rfl) (by rfl) T.z_len bt_len (pa_cons (pv 3) pa_nil))) pa_nil))) pe_str) (nomark _))
      (pss_one (ps_ret pe_bl))
      pss_nil)
      (pss_cons (ps_set (i := 6) sc_law_filled.nd rfl (Or.inl rfl) (pe_callTy (call_tupleK (K := K) rfl) (by rfl) T.z_tuple bt_tuple (pa_cons (pe_slice (sl_listK (K := K) rfl) (pe_lc (own := [("_law_name_here", 8)]) (by rfl) sc_law_filled.nd (pi_listK (K := K) rfl (pe_meth0 (pv 2) T.C_Net T.m_Net_names (ok_Net_names T) (hr.mono (by decide)) T.b_Net_names .nil pass0)) (blkOk_by (own := [("_law_name_here", 8)]) (N := ["_law_s", "_law_world_here", "_law_net_here", "_law_nodes", "_law_left", "_law_got", "_law_ends", "_law_k", "_law_name_here", "_law_lined", "_law_e", "_law_due"]) (sc := defScope s_law_filled) (by decide +kernel)) (fun _ _ _ _ _ => (pg_name (i := 8) sc_law_filled.nd rfl (Or.inl rfl))) (fun _ _ _ _ _ => (pts_one (pt_cmpR op_ne (pe_meS (pv 2) T.C_Net T.m_Net_kind (ok_Net_kind T) (hr.mono (by decide)) T.b_Net_kind .nil coldAt (pa_cons (pv 8) pa_nil)) pe_str (nomark _)))) (fun _ _ _ _ _ => (pv 8))) po_none (po_some pe_int)) pa_nil)))
      (pss_cons (ps_for PassesOwn.never rfl (pi_range1 (by rfl) T.z_range (pa_cons (pe_op op_sub pe_int (pe_callB (call_lenK (K := K) rfl) (by rfl) T.z_len bt_len (pa_cons (pv 4) pa_nil))) pa_nil)) (pg_name (i := 7) sc_law_filled.nd rfl (Or.inl rfl))
      (pss_one (ps_expr (pe_meNS (pv 2) T.C_Net T.m_Net_line (ok_Net_line T) (hr.mono (by decide)) hkb_Net_line_wire coldAt (pa_cons (pe_call (ok_law_name T) (hr.mono (by decide)) (by rfl) T.g_law_name T.F_law_name.kp T.b_law_name .nil pass0 (pa_cons (pv 0) (pa_cons (pe_ix (ix_tupK (K := K) rfl) (pv 1) pe_int (fun _ _ => rfl)) pa_nil))) (pa_cons (pv 6) (pa_cons (pe_slice (sl_tupAK (K := K) rfl) (pv 6) po_none (po_some (pe_op op_add pe_int (pe_op op_mod (pv 7) pe_int)))) pa_nil))) (pk_cons (pe_op op_mod (pv 7) pe_int) pk_nil)))))
      (pss_cons (ps_set (i := 5) sc_law_filled.nd rfl (Or.inl rfl) (pe_lst pa_nil))
      (pss_cons (ps_for PassesOwn.never rfl (pi_listK (K := K) rfl (pe_lst (pa_cons (pe_call (ok_law_name T) (hr.mono (by decide)) (by rfl) T.g_law_name T.F_law_name.kp T.b_law_name .nil pass0 (pa_cons (pv 0) (pa_cons (pe_ix (ix_tupK (K := K) rfl) (pv 1) pe_int (fun _ _ => rfl)) pa_nil))) (pa_cons pe_str (pa_cons (pe_ix (ix_tupK (K := K) rfl) (pv 6) pe_int (fun _ _ => rfl)) (pa_cons pe_str pa_nil)))))) (pg_name (i := 8) sc_law_filled.nd rfl (Or.inl rfl))
      (pss_one (ps_for PassesOwn.never rfl (pi_listK (K := K) rfl (pe_lst (pa_cons pe_bl (pa_cons pe_bl pa_nil)))) (pg_name (i := 9) sc_law_filled.nd rfl (Or.inl rfl))
      (pss_one (ps_try_hs rfl rfl sc_law_filled.nd takes0 (fun W pn xe tk po =>
      (pss_one (ps_if (pt_val (pv 9))
      (pss_one (ps_expr (pe_meS (pv 2) T.C_Net T.m_Net_line (ok_Net_line T) (hr.mono (by decide)) bd_Net_line vd_Net_line (fun σ => passAt tk σ) (pa_cons (pv 8) (pa_cons (pe_tup pa_nil) (pa_cons (pv 6) pa_nil))))))
      (pss_one (ps_expr (pe_meS (pv 2) T.C_Net T.m_Net_house (ok_Net_house T) (hr.mono (by decide)) T.b_Net_house .nil (fun σ => passAt tk σ) (pa_cons (pv 8) pa_nil))))))) (.named ⟨rfl, by decide, .inl T.g_NetError⟩ (i := 10) rfl rfl (fun a oe cls d pn hz hf =>
      (pss_one (ps_expr (pe_bmK (K := K) rfl (pe_bm PySem.F.plainAttrs_list PySem.F.slot_list_append PySem.F.type_list_append mt_append (pv 5) (pa_cons (pe_callA a oe cls d (ok_law_kind T) (roomW (hr.mono (by decide))) List.mem_cons_self hz hf (by rfl) T.g_law_kind T.F_law_kind.kp T.b_law_kind (pa_cons (pv 10) pa_nil)) pa_nil)))))) .nil))))))
      (pss_cons (ps_set (i := 11) sc_law_filled.nd rfl (Or.inl rfl) (pe_lst (pa_cons pe_str (pa_cons pe_str (pa_cons pe_str (pa_cons pe_str (pa_cons pe_str (pa_cons pe_str (pa_cons pe_str (pa_cons pe_str pa_nil))))))))))
      (pss_one (ps_ret (pe_and (pe_cmpR (op_eqDK (K := K) rfl hr.units) (pv 5) (pv 11) (nomark _)) (pe_one (pe_cmpR op_eq (pe_callB (cr_lenOwn (ok_Net_len T) (hr.mono (by decide)) T.m_Net_len T.b_Net_len pass0) (by rfl) T.z_len bt_len (pa_cons (pv 2) pa_nil)) pe_int (nomark _))))))))))))))), run_bodyM h hst fun pk pv O M U0 H0 X => ?_⟩
  unfold b_law_filled
  exact (sim_seq (sim_set rfl (sim_fz (sim_lc (sim_itLW (SimE.w (sim_fz (sim_meF0 sim_args)))) (sim_gN rfl) (sim_test (SimE.w (sim_op op_neS (SimE.w (sim_fz (sim_meFS0 (sim_arg sim_var sim_args)))) (SimE.w sim_str)))) sim_var rfl rfl)))
    (sim_seq (sim_set rfl (sim_fz (sim_lc (sim_itLW (SimE.w (sim_fz (sim_meF0 sim_args)))) (sim_gN rfl) (sim_test (SimE.w (sim_op op_eqS (SimE.w (sim_fz (sim_meFS0 (sim_arg sim_var sim_args)))) (SimE.w sim_str)))) sim_var rfl rfl)))
    (sim_seq (simM_set rfl (simM_fz (simM_callW (k := 5) (sim_op (op_i0 (fun _ _ _ => rfl)) (SimE.w sim_int) (SimE.w (sim_cb bu_len (sim_consW (SimE.w sim_var) sim_nilW)))))))
    (sim_seq (sim_if (sim_test (SimE.w (sim_op op_neDD sim_varW (SimE.w (sim_op op_catSD (SimE.w (sim_op op_catSD (SimE.w sim_str) (SimE.w (sim_cb bu_str (sim_consW (SimE.w (sim_op (op_i0 (fun _ _ _ => rfl)) (SimE.w sim_int) (SimE.w (sim_cb bu_len (sim_consW (SimE.w sim_var) sim_nilW))))) sim_nilW))))) (SimE.w sim_str))))))
    (sim_ret sim_bl)
    sim_next)
    (sim_seq (sim_set rfl (sim_cb bu_tuple (sim_consW (SimE.w (sim_fz (sim_slO sl_lD (SimE.w (sim_fz (sim_lc (sim_itLW (SimE.w (sim_fz (sim_meF0 sim_args)))) (sim_gN rfl) (sim_test (SimE.w (sim_op op_neS (SimE.w (sim_fz (sim_meFS0 (sim_arg sim_var sim_args)))) (SimE.w sim_str)))) sim_var rfl rfl))) sim_noPart (sim_part (SimE.w sim_int))))) sim_nilW)))
    (sim_seq (sim_for (sim_rng1 (sim_consW (SimE.w (sim_op (op_i0 (fun _ _ _ => rfl)) (SimE.w sim_int) (SimE.w (sim_cb bu_len (sim_consW (SimE.w sim_var) sim_nilW))))) sim_nilW)) (sim_gN rfl)
    (simM_drop (simM_fz (simM_meNM0 rfl (by walk_at "arr") (simM_cons (simM_fz (simM_callU (k := 5))) (simM_cons (simM_E sim_var) (simM_cons (simM_E (sim_sl sl_tD (SimE.w sim_var) sim_noPart (sim_part (SimE.w (sim_op (op_i0 (fun _ _ _ => rfl)) (SimE.w sim_int) (SimE.w (sim_op (op_ic (fun _ _ _ => rfl)) (SimE.w sim_var) (SimE.w sim_int)))))))) simM_nil))) (sim_cons (sim_op (op_ic (fun _ _ _ => rfl)) (SimE.w sim_var) (SimE.w sim_int)) sim_nil)))))
    (sim_seq (sim_setO rfl (sim_lst sim_nil))
    (sim_seq (sim_mFor (sim_mItL (simM_fz (simM_lst (simM_cons (simM_fz (simM_callU (k := 5))) (simM_cons (simM_E sim_str) (simM_cons (simM_E (sim_op op_ixT (SimE.w sim_var) (SimE.w sim_int))) (simM_cons (simM_E sim_str) simM_nil))))))) (sim_gN rfl)
    (sim_for (sim_itL (sim_fz (sim_lst (sim_cons sim_bl (sim_cons sim_bl sim_nil))))) (sim_gN rfl)
    (sim_try (zf := false) rfl (fun z => nomatch z) (HndsR.named rfl rfl (fun a D o => (sim_app (sim_kind T rfl sim_var))) HndsR.nil) (fun W pk pv O M U0 H0 X => (sim_if (sim_test (SimE.w sim_var))
    (simM_drop (simM_fz (simM_meD (fun _ => rfl) rfl (sim_cons sim_var (sim_cons (sim_tup sim_nil) (sim_cons sim_var sim_nil))))))
    (simM_drop (simM_fz (simM_me (fun _ => rfl) (sim_arg sim_var sim_args)))))))))
    (sim_seq (sim_set rfl (sim_fz (sim_lst (sim_cons sim_str (sim_cons sim_str (sim_cons sim_str (sim_cons sim_str (sim_cons sim_str (sim_cons sim_str (sim_cons sim_str (sim_cons sim_str sim_nil)))))))))))
    (sim_ret (sim_andV (SimE.w (sim_op op_eqDD sim_varW (SimE.w sim_var))) (sim_op op_eqS (SimE.w sim_lenF) (SimE.w sim_int)))))))))))))
def b_law_1 (T : Tx K mg base) : AS := (aSeq (mIf (mTest (mOpL oNeD (mFz (mCall0 (A_law_gone T) (aSlotO 3 (aArg (aVar 8) aArgs)))) (aFz (aSlO oSlL (aFz (aLst (aCons (aVar 8) (aCons (aVar 8) aNil)))) aNoPart (aPart (aOp oSub (aC (.int 2)) (aCB oMin2 (aCons (aC (.int 1)) (aCons (aCB oLen (aCons (aVar 9) aNil)) aNil)))))))))
    (aRet (aC (.bl false)))
    aNext)
    (aSet 4 (aFz (aLc (aItL (aVar 4)) (gN 11) (aTest (aOp oNe (aOp oIxT (aVar 11) (aC (.int 0))) (aVar 8))) (aVar 11) [11]))))
def b_law (T : Tx K mg base) : AS := (aSeq (aSetO 2 (aCall0 (A_law_world T) (aSlot 1 (aArg (aC (.int 5)) aArgs))))
    (aSeq (aSetO 3 (aCall0 (A_law_net T) (aArg (aTupE (aVarW 2)) aArgs)))
    (aSeq (aSet 4 (aFz (aCBO oSortA (aCons (aFz (aLc (aItL (aOp oIxT (aVarW 2) (aC (.int 2)))) (gN 11) aYes (aCB oTuple (aCons (aVar 11) aNil)) [11])) aNil))))
    (aSeq (aSet 5 (aFz (aCall0 (A_law_draw T) (aSlot 1 (aArg (aC (.int 9)) aArgs)))))
    (aSeq (aSet 6 (aFz (aMeF0 T.c_Net "names" (A_Net_names T) 3 aArgs)))
    (aSeq (aFor (aRng1 (aCons (aCB oLen (aCons (aVar 6) aNil)) aNil)) (gN 7)
    (aSeq (aSet 8 (aOp oIxL (aVar 6) (aOp oMod (aOp oAdd (aOp oMul (aVar 7) (aC (.int 7))) (aVar 5)) (aCB oLen (aCons (aVar 6) aNil)))))
    (aSeq (aSet 9 (aFz (aLc (aItL (aVar 4)) (gN 11) (aOr (aTest (aOp oIn (aVar 8) (aOp oIxT (aVar 11) (aC (.int 1))))) (aTest (aOp oIn (aVar 8) (aOp oIxT (aVar 11) (aC (.int 2)))))) (aOp oIxT (aVar 11) (aC (.int 0))) [11])))
    (aSeq (mSet 10 (mFz (mCall0 (A_law_drop T) (aSlotO 3 (aArg (aVar 8) aArgs)))))
    (aSeq (aIf (aTest (aOp oGt (aCB oLen (aCons (aVar 9) aNil)) (aC (.int 0))))
    (aIf (aOr (aTest (aOp oNeD (aVar 10) (aTup (aCons (aC (.str "InUse")) (aCons (aOp oIxL (aVar 9) (aC (.int 0))) aNil))))) (aTest (aOp oNotIn (aVar 8) (aFz (aMeF0 T.c_Net "names" (A_Net_names T) 3 aArgs)))))
    (aRet (aC (.bl false)))
    aNext)
    (mIf (mOr (mT (aAnd (aTest (aOp oNeD (aVar 10) (aTup (aCons (aC (.str "done")) (aCons (aVar 8) aNil))))) (aTest (aOp oIn (aVar 8) (aFz (aMeF0 T.c_Net "names" (A_Net_names T) 3 aArgs)))))) (mTest (mOpL oNeD (mFz (mCall0 (A_law_drop T) (aSlotO 3 (aArg (aVar 8) aArgs)))) (aTup (aCons (aC (.str "NoName")) (aCons (aVar 8) aNil))))))
    (aRet (aC (.bl false)))
    aNext))
    (b_law_1 T))))))
    (aSeq (aIf (aTest (aOp oNeD (aFz (aLc (aItL (aFz (aMeF0 T.c_Net "names" (A_Net_names T) 3 aArgs))) (gN 8) (aTest (aOp oEq (aFz (aMeF0 T.c_Net "kind" (A_Net_kind T) 3 (aArg (aVar 8) aArgs))) (aC (.str "line")))) (aVar 8) [8])) (aFz (aLc (aItL (aVar 4)) (gN 11) aYes (aOp oIxT (aVar 11) (aC (.int 0))) [11]))))
    (aRet (aC (.bl false)))
    aNext)
    (mRetO (mCall0 (A_law_filled T) (aSlot 1 (aSlotO 2 (aSlotO 3 aArgs))))))))))))
theorem nodup_sub_len {α : Type} [DecidableEq α] : ∀ {l m : List α}, l.Nodup → (∀ x ∈ l, x ∈ m) → l.length ≤ m.length
  | [], m, _, _ => Nat.zero_le _
  | x :: l, m, nd, h => by
    obtain ⟨h1, h2⟩ := List.nodup_cons.mp nd
    have hx := h x List.mem_cons_self
    have := nodup_sub_len (m := m.erase x) h2 fun y hy => (List.mem_erase_of_ne fun z => h1 (by rw [← z]; exact hy)).mpr (h y (List.mem_cons_of_mem _ hy))
    rw [List.length_erase_of_mem hx] at this
    have hp : 0 < m.length := List.length_pos_of_mem hx
    rw [List.length_cons]
    omega
def GoodN (w : Str) : Prop := 1 ≤ w.length ∧ w.length ≤ 8 ∧ ∀ c ∈ w.cps.toList, 97 ≤ c ∧ c ≤ 122
theorem joinL1 : ∀ cs : List Nat, TL.joinL [] (cs.map fun c => [c]) = cs
  | [] => rfl
  | [c] => rfl
  | c :: d :: r => by
    have ih := joinL1 (d :: r)
    show [c] ++ ([] ++ TL.joinL [] ((d :: r).map fun c => [c])) = _
    rw [ih]
    rfl
theorem join1 (cs : List Nat) : Txt.join (Str.ofString "") (cs.map fun c => (⟨#[c]⟩ : Str)) = ⟨cs.toArray⟩ := by
  have := SX.join_S [] (cs.map fun c => [c])
  rw [joinL1, List.map_map] at this
  exact this
theorem inF_str {w : Str} : ∀ {ns : List Str}, inF (.str w) (ns.map .str) = decide (w ∈ ns)
  | [] => by simp [inF]
  | n :: ns => by
    have ih := inF_str (w := w) (ns := ns)
    unfold inF at ih ⊢
    rw [List.map_cons, List.any_cons, ih]
    show ((n == w) || decide (w ∈ ns)) = _
    by_cases h : n = w
    · subst h
      simp
    · have h' : ¬ w = n := fun z => h z.symm
      simp [h, h']
theorem flats_str : ∀ (ns : List Str), (ns.map D.str).all flatD = true
  | [] => rfl
  | n :: ns => by
    rw [List.map_cons, List.all_cons, flats_str ns]
    rfl
theorem letters_at {r : Int} (h0 : 0 ≤ r) (h1 : r < 26) : atI (Str.ofString "abcdefghijklmnopqrstuvwxyz").cps.toList r = some (97 + r.toNat) := by
  have key : ∀ n : Fin 26, atI (Str.ofString "abcdefghijklmnopqrstuvwxyz").cps.toList ((n.val : Nat) : Int) = some (97 + n.val) := by decide +kernel
  obtain ⟨n, rfl⟩ := Int.eq_ofNat_of_zero_le h0
  have := key ⟨n, by omega⟩
  rw [Int.toNat_natCast]
  exact this
def wordK (k : Nat) : Str := Txt.mul ⟨#[97 + k % 26]⟩ (1 + ((k / 26 : Nat) : Int))
theorem wordK_nd : ((List.range 104).map wordK).Nodup := by decide +kernel
theorem wordK_good : ∀ k : Fin 104, (1 ≤ (wordK k.val).length ∧ (wordK k.val).length ≤ 8) ∧ (wordK k.val).cps.toList.all (fun c => decide (97 ≤ c) && decide (c ≤ 122)) = true := by decide +kernel
theorem wordK_ok {k : Nat} (h : k < 104) : GoodN (wordK k) := by
  obtain ⟨⟨h1, h2⟩, h3⟩ := wordK_good ⟨k, h⟩
  refine ⟨h1, h2, fun c hc => ?_⟩
  have := List.all_eq_true.mp h3 c hc
  rw [Bool.and_eq_true] at this
  exact ⟨of_decide_eq_true this.1, of_decide_eq_true this.2⟩
theorem pick_A (T : Tx K mg base) {ds : List D} {q : AV → Prop} {x : Exn → Prop} (h0 : 0 < ds.length) (h1 : ds.length ≤ 1000000) (h : ∀ d ∈ ds, q (.fz d)) : A_law_pick T [.dr, .fz (.lst ds)] q x := by
  refine A_law_pick_of T ?_
  unfold b_law_pick
  walk_at "aw"
  refine w_draw (by omega) (by omega) fun r r0 r1 => ?_
  walk_at "aw"
  obtain ⟨n, rfl⟩ := Int.eq_ofNat_of_zero_le r0
  have hn : n < ds.length := by omega
  refine w_ixL (atI_nat (List.getElem?_eq_getElem hn)) ?_
  exact h _ (List.getElem_mem hn)
theorem name_A (T : Tx K mg base) {ns : List Str} {q : AV → List AV → Prop} {x : Exn → List AV → Prop} (hl : ns.length < 104) (h : ∀ w, GoodN w → w ∉ ns → q (.fz (.str w)) [.dr, .ol ((ns ++ [w]).map .str)]) : A_law_name T [.dr, .ol (ns.map .str)] q x := by
  refine A_law_name_of T _ ?_
  have put : ∀ w : Str, ns.map D.str ++ [.str w] = (ns ++ [w]).map .str := fun w => by rw [List.map_append]; rfl
  have ll : (ns.map D.str).length < 1000000 := by rw [List.length_map]; omega
  unfold b_law_name
  walk_at "aw"
  refine ⟨⟨by omega, by omega⟩, ?_⟩
  refine loop_rng (fun i ρ => ∃ v3 v4 v5 v6 : Option AV, ρ = [some .dr, some (.ol (ns.map .str)), some (.fz (.str "abcdefghijklmnopqrstuvwxyz")), v3, v4, v5, v6]) ⟨none, none, none, none, rfl⟩ ?_ ?_
  · rintro i ρ K' hi ⟨v3, v4, v5, v6, rfl⟩ hK
    have tail : ∀ sz : Int, 1 ≤ sz → sz ≤ 8 → ∀ (v3 v5 v6 : Option AV) (N : AEnds), (∀ ρ, N.nx ρ = K' ρ) → (∀ av ρ, N.rt av ρ = q av (mrg [.dr, .ol (ns.map .str)] (selM [true, true] ρ))) → b_law_name_1 T N [some .dr, some (.ol (ns.map .str)), some (.fz (.str "abcdefghijklmnopqrstuvwxyz")), v3, some (.fz (.int sz)), v5, v6] := fun sz h1 h8 v3 v5 v6 N hn hr => by
      obtain ⟨nx, rt, bk, ct, ex⟩ := N
      obtain ⟨n, rfl⟩ := Int.eq_ofNat_of_zero_le (show 0 ≤ sz by omega)
      unfold b_law_name_1
      walk_at "aw"
      refine ⟨⟨by omega, by omega⟩, ?_⟩
      rw [Int.toNat_natCast]
      refine comp_rel (fun _ y => ∃ c : Nat, y = .str ⟨#[c]⟩ ∧ 97 ≤ c ∧ c ≤ 122) (by rw [rngD_len]; show 0 + _ ≤ _; omega) (fun d hd Q' k => ?_) fun ys hys => ?_
      · walk_at "aw"
        refine w_draw (by omega) (by omega) fun r r0 r1 => ?_
        walk_at "aw"
        refine w_ixS (by decide) (letters_at r0 r1) ?_
        exact k _ ⟨_, rfl, by omega, by omega⟩
      · obtain ⟨cs, rfl, lc, gc⟩ : ∃ cs : List Nat, ys = (cs.map fun c => (⟨#[c]⟩ : Str)).map .str ∧ cs.length = n ∧ ∀ c ∈ cs, 97 ≤ c ∧ c ≤ 122 := by
          have go : ∀ {xs : List D} {ys : List D}, Paired (fun _ y => ∃ c : Nat, y = .str ⟨#[c]⟩ ∧ 97 ≤ c ∧ c ≤ 122) xs ys → ∃ cs : List Nat, ys = (cs.map fun c => (⟨#[c]⟩ : Str)).map .str ∧ cs.length = xs.length ∧ ∀ c ∈ cs, 97 ≤ c ∧ c ≤ 122 := by
            intro xs ys hp
            induction hp with
            | nil => exact ⟨[], rfl, rfl, fun c hc => by cases hc⟩
            | cons h t ih =>
              obtain ⟨c, e, g⟩ := h
              obtain ⟨cs, e1, e2, e3⟩ := ih
              refine ⟨c :: cs, by rw [e, e1]; rfl, by rw [List.length_cons, List.length_cons, e2], fun d hd => ?_⟩
              rcases List.mem_cons.mp hd with rfl | hd
              · exact g
              · exact e3 d hd
          obtain ⟨cs, e1, e2, e3⟩ := go hys
          exact ⟨cs, e1, by rw [e2, rngD_len], e3⟩
        have sm : (((cs.map fun c => (⟨#[c]⟩ : Str)).map (·.length)).sum + (cs.map fun c => (⟨#[c]⟩ : Str)).length * (Str.ofString "").length) ≤ 1000000 := by
          have : ∀ l : List Nat, ((l.map fun c => (⟨#[c]⟩ : Str)).map (·.length)).sum = l.length := fun l => by
            induction l with
            | nil => rfl
            | cons c l ih =>
              rw [List.map_cons, List.map_cons, List.sum_cons, ih, List.length_cons]
              show 1 + l.length = _
              omega
          rw [this, List.length_map]
          have : (Str.ofString "").length = 0 := by decide
          rw [this]
          omega
        walk_at "aw"
        refine w_join sm ?_
        rw [join1]
        walk_at "aw"
        refine w_ninL rfl (flats_str ns) ?_
        rw [inF_str]
        walk_at "aw"
        refine cond_dec (fun hc => ?_) (fun hc => ?_)
        · walk_at "aw"
          rw [show nx _ = K' _ from hn _]
          exact hK _ ⟨_, _, _, _, rfl⟩
        · walk_at "aw"
          refine ⟨ll, ?_⟩
          walk_at "aw"
          rw [show rt _ _ = q _ _ from hr _ _, put]
          refine h _ ⟨?_, ?_, ?_⟩ hc
          · show 1 ≤ cs.toArray.size
            rw [List.size_toArray]
            omega
          · show cs.toArray.size ≤ 8
            rw [List.size_toArray]
            omega
          · show ∀ c ∈ cs.toArray.toList, _
            rw [List.toList_toArray]
            exact gc
    walk_at "aw"
    refine w_draw (by omega) (by omega) fun r r0 r1 => ?_
    walk_at "aw"
    refine cond_dec (fun hc => ?_) (fun hc => ?_)
    · walk_at "aw"
      refine w_draw (by omega) (by omega) fun r' r0' r1' => ?_
      walk_at "aw"
      exact tail _ (by omega) (by omega) _ _ _ _ (fun _ => rfl) (fun _ _ => rfl)
    · walk_at "aw"
      exact tail _ (by omega) (by omega) _ _ _ _ (fun _ => rfl) (fun _ _ => rfl)
  · rintro ρ ⟨v3, v4, v5, v6, rfl⟩
    walk_at "aw"
    refine ⟨⟨by omega, by omega⟩, ?_⟩
    refine loop_rng (fun i ρ => (∃ v3 v4 v5 v6 : Option AV, ρ = [some .dr, some (.ol (ns.map .str)), some (.fz (.str "abcdefghijklmnopqrstuvwxyz")), v3, v4, v5, v6]) ∧ ∀ j, j < i → wordK j ∈ ns) ⟨⟨_, _, _, _, rfl⟩, fun j hj => by omega⟩ ?_ ?_
    · rintro i ρ K' hi ⟨⟨v3, v4, v5, v6, rfl⟩, hj⟩ hK
      have hi' : i < 104 := hi
      have ei : (0 : Int) + (i : Nat) = (i : Nat) := by omega
      rw [ei]
      walk_at "aw"
      refine w_ixS (by decide) (letters_at (by omega) (by omega)) ?_
      walk_at "aw"
      have ew : Txt.mul (⟨#[97 + ((i : Int) % 26).toNat]⟩ : Str) (1 + (i : Int) / 26) = wordK i := by
        unfold wordK
        rw [show ((i : Int) % 26).toNat = i % 26 by omega, show (i : Int) / 26 = ((i / 26 : Nat) : Int) by omega]
      refine w_mulS ⟨by omega, by omega, ?_⟩ ?_
      · show 1 * _ ≤ _
        omega
      rw [ew]
      walk_at "aw"
      refine w_ninL rfl (flats_str ns) ?_
      rw [inF_str]
      walk_at "aw"
      refine cond_dec (fun hc => ?_) (fun hc => ?_)
      · walk_at "aw"
        refine hK _ ⟨⟨_, _, _, _, rfl⟩, fun j hj' => ?_⟩
        by_cases e : j = i
        · rw [e]
          exact hc
        · exact hj j (by omega)
      · walk_at "aw"
        refine ⟨ll, ?_⟩
        walk_at "aw"
        rw [put]
        exact h _ (wordK_ok hi') hc
    · rintro ρ ⟨_, hj⟩
      have := nodup_sub_len (m := ns) wordK_nd fun w hw => by
        obtain ⟨j, hj', rfl⟩ := List.mem_map.mp hw
        exact hj j (by have := List.mem_range.mp hj'; exact this)
      rw [List.length_map, List.length_range] at this
      omega
structure Ln where
  n : Str
  f : List Str
  t : List Str
  w : Int
abbrev LE := Addr × List V × Ln
def Ln.av (vs : List V) (l : Ln) : AV := .on vs [.fz (.str l.n), .ol (l.f.map .str), .ol (l.t.map .str), .fz (.int l.w)]
def lnsAV (es : List LE) : AV := .on (es.map fun e => .ref e.1) (es.map fun e => e.2.2.av e.2.1)
theorem lns_seens : ∀ (es : List LE), seens (es.map fun e => e.2.2.av e.2.1) (es.map fun e => V.ref e.1) = es.map fun e => .adr e.1
  | [] => rfl
  | e :: es => by
    show D.adr e.1 :: seens (es.map fun e => e.2.2.av e.2.1) (es.map fun e => V.ref e.1) = _
    rw [lns_seens es]
    rfl
theorem lnIx_of : ∀ {es : List LE} {m : Nat} {e : LE}, (es.map (·.1)).Nodup → es[m]? = some e → lnIx (es.map fun e => V.ref e.1) e.1 = some m
  | [], m, e, _, h => by simp at h
  | a :: es, 0, e, nd, h => by
    cases h
    show (if a.1 = a.1 then some 0 else _) = _
    rw [if_pos rfl]
  | a :: es, m + 1, e, nd, h => by
    have h' : es[m]? = some e := h
    obtain ⟨n1, n2⟩ := List.nodup_cons.mp (show (a.1 :: es.map (·.1)).Nodup from nd)
    have ne : a.1 ≠ e.1 := fun z => n1 (by rw [z]; exact List.mem_map.mpr ⟨e, List.mem_of_getElem? h', rfl⟩)
    show (if a.1 = e.1 then some 0 else (lnIx (es.map fun e => V.ref e.1) e.1).map (· + 1)) = _
    rw [if_neg ne, lnIx_of n2 h']
    rfl
section
variable {ρ : Env} {es : List LE} {m j ln : Nat} {e : LE} {Q : D → Prop} {X : Exn → Prop} {nx : Env → Prop} {rt : AV → Env → Prop} {bk ct : Env → Prop} {ex : Exn → Env → Prop}
theorem lns_at (he : es[m]? = some e) : (es.map fun e => e.2.2.av e.2.1)[m]? = some (e.2.2.av e.2.1) := by rw [List.getElem?_map, he]; rfl
theorem w_ln0 (nd : (es.map (·.1)).Nodup) (he : es[m]? = some e) (h1 : ρ[j]? = some (some (lnsAV es))) (h2 : ρ[ln]? = some (some (.fz (.adr e.1)))) (q : Q (.str e.2.2.n)) : aLn j ln 0 ρ Q X := w_lnQ h1 h2 (lnIx_of nd he) (lns_at he) q
theorem w_ln1 (nd : (es.map (·.1)).Nodup) (he : es[m]? = some e) (h1 : ρ[j]? = some (some (lnsAV es))) (h2 : ρ[ln]? = some (some (.fz (.adr e.1)))) (q : Q (.lst (e.2.2.f.map .str))) : aLn j ln 1 ρ Q X := w_lnQ h1 h2 (lnIx_of nd he) (lns_at he) q
theorem w_ln2 (nd : (es.map (·.1)).Nodup) (he : es[m]? = some e) (h1 : ρ[j]? = some (some (lnsAV es))) (h2 : ρ[ln]? = some (some (.fz (.adr e.1)))) (q : Q (.lst (e.2.2.t.map .str))) : aLn j ln 2 ρ Q X := w_lnQ h1 h2 (lnIx_of nd he) (lns_at he) q
theorem w_lnE0 (nd : (es.map (·.1)).Nodup) (he : es[m]? = some e) (h1 : ρ[j]? = some (some (lnsAV es))) (h2 : ρ[ln]? = some (some (.fz (.adr e.1)))) (q : Q (.str e.2.2.n)) : aLnE j ln 0 ρ Q X := w_lnQ h1 h2 (lnIx_of nd he) (lns_at he) q
theorem lns_set {m : Nat} {e : LE} {l : Ln} (he : es[m]? = some e) : lnsAV (es.set m (e.1, e.2.1, l)) = .on (es.map fun e => .ref e.1) ((es.map fun e => e.2.2.av e.2.1).set m (l.av e.2.1)) := by
  unfold lnsAV
  rw [List.map_set, List.map_set]
  congr 1
  apply List.ext_getElem?
  intro k
  rw [List.getElem?_set, List.getElem?_map]
  by_cases hk : m = k
  · subst hk
    rw [he, if_pos rfl, List.length_map, if_pos (List.getElem?_eq_some_iff.mp he).1]
    rfl
  · rw [if_neg hk]
theorem w_appLn1 {k : Nat} {y : Str} (nd : (es.map (·.1)).Nodup) (he : es[m]? = some e) (h1 : ρ[j]? = some (some (lnsAV es))) (h2 : ρ[ln]? = some (some (.fz (.adr e.1)))) (h3 : ρ[k]? = some (some (.fz (.str y)))) (hl : e.2.2.f.length < 1000000)
    (q : nx (ρ.set j (some (lnsAV (es.set m (e.1, e.2.1, { e.2.2 with f := e.2.2.f ++ [y] })))))) : aAppLn j ln 1 (aVar k) ⟨nx, rt, bk, ct, ex⟩ ρ := by
  refine w_lnQ h1 h2 (lnIx_of nd he) (lns_at he) ?_
  refine w_var (X := fun x => ex x ρ) h3 ⟨by rw [List.length_map]; exact hl, ?_⟩
  rw [lns_set he] at q
  have e' : e.2.2.f.map D.str ++ [.str y] = (e.2.2.f ++ [y]).map .str := by rw [List.map_append]; rfl
  rw [e']
  exact q
theorem w_appLn2 {k : Nat} {y : Str} (nd : (es.map (·.1)).Nodup) (he : es[m]? = some e) (h1 : ρ[j]? = some (some (lnsAV es))) (h2 : ρ[ln]? = some (some (.fz (.adr e.1)))) (h3 : ρ[k]? = some (some (.fz (.str y)))) (hl : e.2.2.t.length < 1000000)
    (q : nx (ρ.set j (some (lnsAV (es.set m (e.1, e.2.1, { e.2.2 with t := e.2.2.t ++ [y] })))))) : aAppLn j ln 2 (aVar k) ⟨nx, rt, bk, ct, ex⟩ ρ := by
  refine w_lnQ h1 h2 (lnIx_of nd he) (lns_at he) ?_
  refine w_var (X := fun x => ex x ρ) h3 ⟨by rw [List.length_map]; exact hl, ?_⟩
  rw [lns_set he] at q
  have e' : e.2.2.t.map D.str ++ [.str y] = (e.2.2.t ++ [y]).map .str := by rw [List.map_append]; rfl
  rw [e']
  exact q
end
/-- a comprehension with a test, over a row of things of one kind -/
theorem comp_filt {α : Type} {g : AG} {tt : AT} {te : AE} {ρ : Env} {X : Exn → Prop} {Q : List D → Prop} {fd : α → D} {xs : List α} {acc : List D} (p : α → Bool) (f : α → D) (hl : acc.length + xs.length ≤ 1000000)
    (h : ∀ (x : α), x ∈ xs → ∀ (Q : D → Prop) (A : Prop), (p x = true → Q (f x)) → (p x = false → A) → g (fd x) ρ (fun ρ2 => tt ρ2 (fun b => cond b (te ρ2 Q X) A) X)) (q : Q (acc ++ (xs.filter p).map f)) : aComp g tt te ρ X (xs.map fd) acc Q := by
  induction xs generalizing acc with
  | nil => rwa [List.filter_nil, List.map_nil, List.append_nil] at q
  | cons d ds ih =>
    rw [List.length_cons] at hl
    refine h d List.mem_cons_self _ _ (fun hp => ⟨by omega, ih (by rw [List.length_append]; show acc.length + 1 + _ ≤ _; omega) (fun e he => h e (List.mem_cons_of_mem _ he)) ?_⟩) (fun hp => ih (by omega) (fun e he => h e (List.mem_cons_of_mem _ he)) ?_)
    · rw [List.filter_cons_of_pos hp, List.map_cons] at q
      rwa [List.append_assoc]
    · rwa [List.filter_cons_of_neg (by rw [hp]; exact Bool.false_ne_true)] at q
structure LnOk (nodes : List Str) (l : Ln) : Prop where
  f0 : l.f ≠ []
  fn : l.f.Nodup
  fi : ∀ x ∈ l.f, x ∈ nodes
  f6 : l.f.length ≤ 6
  t0 : l.t ≠ []
  tn : l.t.Nodup
  ti : ∀ x ∈ l.t, x ∈ nodes
  t6 : l.t.length ≤ 6
  w0 : 0 ≤ l.w
  w4 : l.w < 4
def mu (e : LE) : Nat := max e.2.2.f.length e.2.2.t.length
structure Wld (nodes ns : List Str) (es : List LE) (h : Nat) (k : List Str) : Prop where
  nd : ns.Nodup
  good : ∀ w ∈ ns, GoodN w
  nn : ∀ x ∈ nodes, x ∈ ns
  ad : (es.map (·.1)).Nodup
  ln : (es.map (·.2.2.n)).Nodup
  li : ∀ e ∈ es, e.2.2.n ∈ ns ∧ e.2.2.n ∉ nodes
  le : es.length ≤ 14
  ok : ∀ e ∈ es, LnOk nodes e.2.2
  cn : (es.map mu).sum ≤ h
  ct : ns.length = nodes.length + es.length + k.length
  rs : ∀ y ∈ k, y ∈ ns ∧ y ∉ nodes
  rl : ∀ e ∈ es, e.2.2.n ∉ k
  rd : k.Nodup
structure LnExt (l l' : Ln) : Prop where
  n : l'.n = l.n
  w : l'.w = l.w
  f : ∀ x ∈ l.f, x ∈ l'.f
  t : ∀ x ∈ l.t, x ∈ l'.t
theorem LnExt.refl (l : Ln) : LnExt l l := ⟨rfl, rfl, fun _ h => h, fun _ h => h⟩
theorem LnExt.trans {a b c : Ln} (h : LnExt a b) (k : LnExt b c) : LnExt a c := ⟨k.n.trans h.n, k.w.trans h.w, fun x hx => k.f x (h.f x hx), fun x hx => k.t x (h.t x hx)⟩
def EsExt (es es' : List LE) : Prop := ∀ e ∈ es, ∃ e' ∈ es', LnExt e.2.2 e'.2.2
theorem EsExt.refl (es : List LE) : EsExt es es := fun e he => ⟨e, he, .refl _⟩
theorem EsExt.trans {a b c : List LE} (h : EsExt a b) (k : EsExt b c) : EsExt a c := fun e he => by
  obtain ⟨e1, h1, h2⟩ := h e he
  obtain ⟨e2, h3, h4⟩ := k e1 h1
  exact ⟨e2, h3, h2.trans h4⟩
theorem len_or {α : Type} {p q : α → Bool} : ∀ {xs : List α}, (∀ x ∈ xs, p x = true ∨ q x = true) → xs.length ≤ (xs.filter p).length + (xs.filter q).length
  | [], _ => Nat.zero_le _
  | x :: xs, h => by
    have ih := len_or (p := p) (q := q) (xs := xs) fun y hy => h y (List.mem_cons_of_mem _ hy)
    rw [List.length_cons, List.filter_cons, List.filter_cons]
    rcases h x List.mem_cons_self with e | e
    · rw [if_pos e, List.length_cons]
      split <;> (try rw [List.length_cons]) <;> omega
    · rw [if_pos e, List.length_cons]
      split <;> (try rw [List.length_cons]) <;> omega
theorem sum_six {μ : LE → Nat} : ∀ {es : List LE}, 6 * (es.filter fun e => decide (6 ≤ μ e)).length ≤ (es.map μ).sum
  | [] => Nat.le_refl _
  | e :: es => by
    have ih := sum_six (μ := μ) (es := es)
    rw [List.map_cons, List.sum_cons, List.filter_cons]
    by_cases h : 6 ≤ μ e
    · rw [if_pos (decide_eq_true h), List.length_cons]
      omega
    · rw [if_neg (by simpa using h)]
      omega
def fit1 (barred : List Str) (one : Str) (e : LE) : Bool := !decide (e.2.2.n ∈ barred) && (decide (one ∈ e.2.2.f) || decide (e.2.2.f.length < 6))
def fit2 (two : Str) (e : LE) : Bool := decide (two ∈ e.2.2.t) || decide (e.2.2.t.length < 6)
section
variable {nodes ns : List Str} {es : List LE} {h : Nat} {k : List Str}
theorem Wld.fit (W : Wld nodes ns es h k) {barred bl : List Str} {one two : Str} (hh : h < 48) (h5 : bl.length ≤ 5) (hb : ∀ e ∈ es, e.2.2.n ∈ barred → e.2.2.n ∈ bl) (h14 : ¬ es.length < 14) : (es.filter (fit1 barred one)).filter (fit2 two) ≠ [] := fun z => by
  have key : ∀ e ∈ es, (decide (e.2.2.n ∈ bl) = true) ∨ (decide (6 ≤ mu e) = true) := fun e he => by
    have nz : ¬ (fit1 barred one e = true ∧ fit2 two e = true) := fun ⟨a, b⟩ => by
      have : e ∈ (es.filter (fit1 barred one)).filter (fit2 two) := List.mem_filter.mpr ⟨List.mem_filter.mpr ⟨he, a⟩, b⟩
      rw [z] at this
      cases this
    by_cases hx : e.2.2.n ∈ barred
    · exact .inl (decide_eq_true (hb e he hx))
    · refine .inr (decide_eq_true ?_)
      unfold mu
      by_cases h1 : e.2.2.f.length < 6
      · by_cases h2 : e.2.2.t.length < 6
        · exact absurd ⟨by simp [fit1, hx, h1], by simp [fit2, h2]⟩ nz
        · omega
      · omega
  have c1 := len_or key
  have c2 := sum_six (μ := mu) (es := es)
  have c3 := W.cn
  have c4 : (es.filter fun e => decide (e.2.2.n ∈ bl)).length ≤ bl.length := by
    have nd : ((es.filter fun e => decide (e.2.2.n ∈ bl)).map (·.2.2.n)).Nodup := (List.Sublist.map _ List.filter_sublist).nodup W.ln
    have := nodup_sub_len (m := bl) nd fun x hx => by
      obtain ⟨e, he, rfl⟩ := List.mem_map.mp hx
      exact of_decide_eq_true (List.mem_filter.mp he).2
    rwa [List.length_map] at this
  omega
/-- a new line -/
theorem Wld.new (W : Wld nodes ns es h k) {p : Addr} {vs : List V} {nm one two : Str} {wi : Int} (hp : ∀ e ∈ es, e.1 ≠ p) (h14 : es.length < 14) (hg : GoodN nm) (hn : nm ∉ ns) (h1 : one ∈ nodes) (h2 : two ∈ nodes) (w0 : 0 ≤ wi) (w4 : wi < 4) :
    Wld nodes (ns ++ [nm]) (es ++ [(p, vs, ⟨nm, [one], [two], wi⟩)]) (h + 1) k := by
  refine ⟨?_, ?_, fun x hx => List.mem_append_left _ (W.nn x hx), ?_, ?_, ?_, ?_, ?_, ?_, ?_, fun y hy => ⟨List.mem_append_left _ (W.rs y hy).1, (W.rs y hy).2⟩, ?_, W.rd⟩
  · refine List.nodup_append.mpr ⟨W.nd, by simp, fun a ha b hb e => ?_⟩
    rw [List.mem_singleton.mp hb] at e
    exact hn (e ▸ ha)
  · intro w hw
    rcases List.mem_append.mp hw with hw | hw
    · exact W.good w hw
    · rw [List.mem_singleton.mp hw]; exact hg
  · rw [List.map_append]
    refine List.nodup_append.mpr ⟨W.ad, by simp, fun a ha b hb e => ?_⟩
    obtain ⟨x, hx, rfl⟩ := List.mem_map.mp ha
    rw [List.mem_singleton.mp hb] at e
    exact hp x hx e
  · rw [List.map_append]
    refine List.nodup_append.mpr ⟨W.ln, by simp, fun a ha b hb e => ?_⟩
    obtain ⟨x, hx, rfl⟩ := List.mem_map.mp ha
    have e2 : x.2.2.n = nm := e.trans (List.mem_singleton.mp hb)
    exact hn (e2 ▸ (W.li x hx).1)
  · intro e he
    rcases List.mem_append.mp he with he | he
    · exact ⟨List.mem_append_left _ (W.li e he).1, (W.li e he).2⟩
    · rw [List.mem_singleton.mp he]
      exact ⟨List.mem_append_right _ (List.mem_singleton.mpr rfl), fun z => hn (W.nn _ z)⟩
  · rw [List.length_append, List.length_singleton]
    omega
  · intro e he
    rcases List.mem_append.mp he with he | he
    · exact W.ok e he
    · rw [List.mem_singleton.mp he]
      exact ⟨by simp, by simp, fun x hx => by rw [List.mem_singleton.mp hx]; exact h1, by simp, by simp, by simp, fun x hx => by rw [List.mem_singleton.mp hx]; exact h2, by simp, w0, w4⟩
  · rw [List.map_append, List.sum_append]
    have := W.cn
    show (es.map mu).sum + (1 + 0) ≤ h + 1
    omega
  · have := W.ct
    rw [List.length_append, List.length_append, List.length_singleton, List.length_singleton]
    omega
  · intro e he
    rcases List.mem_append.mp he with he | he
    · exact W.rl e he
    · rw [List.mem_singleton.mp he]
      exact fun z => hn (W.rs _ z).1
theorem sum_set {μ : LE → Nat} : ∀ {es : List LE} {m : Nat} {e e' : LE}, es[m]? = some e → μ e' ≤ μ e + 1 → ((es.set m e').map μ).sum ≤ (es.map μ).sum + 1
  | [], m, e, e', h, _ => by simp at h
  | a :: es, 0, e, e', h, k => by
    cases h
    show μ e' + (es.map μ).sum ≤ μ a + (es.map μ).sum + 1
    omega
  | a :: es, m + 1, e, e', h, k => by
    have := sum_set (es := es) (m := m) h k
    show μ a + ((es.set m e').map μ).sum ≤ μ a + (es.map μ).sum + 1
    omega
theorem map_set_same {β : Type} {g : LE → β} {es : List LE} {m : Nat} {e e' : LE} (he : es[m]? = some e) (hg : g e' = g e) : (es.set m e').map g = es.map g := by
  rw [List.map_set]
  apply List.ext_getElem?
  intro j
  rw [List.getElem?_set, List.getElem?_map]
  by_cases hj : m = j
  · subst hj
    rw [he, if_pos rfl, List.length_map, if_pos (List.getElem?_eq_some_iff.mp he).1, hg]
    rfl
  · rw [if_neg hj]
theorem mem_set_or {es : List LE} {m : Nat} {e' x : LE} (h : x ∈ es.set m e') : x = e' ∨ x ∈ es := by
  obtain ⟨j, hj⟩ := List.mem_iff_getElem?.mp h
  rw [List.getElem?_set] at hj
  split at hj
  · split at hj
    · exact .inl (Option.some.inj hj).symm
    · cases hj
  · exact .inr (List.mem_of_getElem? hj)
/-- a line that has grown -/
theorem Wld.grown (W : Wld nodes ns es h k) {m : Nat} {e : LE} {l : Ln} (he : es[m]? = some e) (hn : l.n = e.2.2.n) (hl : LnOk nodes l) (hm : max l.f.length l.t.length ≤ mu e + 1) : Wld nodes ns (es.set m (e.1, e.2.1, l)) (h + 1) k := by
  have hme := List.mem_of_getElem? he
  refine ⟨W.nd, W.good, W.nn, ?_, ?_, ?_, by rw [List.length_set]; exact W.le, ?_, ?_, by rw [List.length_set]; exact W.ct, W.rs, ?_, W.rd⟩
  · rw [map_set_same (e' := (e.1, e.2.1, l)) he rfl]; exact W.ad
  · rw [map_set_same (e' := (e.1, e.2.1, l)) he hn]; exact W.ln
  · intro x hx
    rcases mem_set_or hx with rfl | hx
    · show l.n ∈ ns ∧ l.n ∉ nodes
      rw [hn]
      exact W.li e hme
    · exact W.li x hx
  · intro x hx
    rcases mem_set_or hx with rfl | hx
    · exact hl
    · exact W.ok x hx
  · have := sum_set (μ := mu) (e' := (e.1, e.2.1, l)) he hm
    have := W.cn
    omega
  · intro x hx
    rcases mem_set_or hx with rfl | hx
    · show l.n ∉ k
      rw [hn]
      exact W.rl e hme
    · exact W.rl x hx
theorem ext_set {m : Nat} {e : LE} {l : Ln} (he : es[m]? = some e) (hx : LnExt e.2.2 l) : EsExt es (es.set m (e.1, e.2.1, l)) := fun x hx' => by
  have hm := (List.getElem?_eq_some_iff.mp he).1
  obtain ⟨j, hj⟩ := List.mem_iff_getElem?.mp hx'
  by_cases e1 : m = j
  · subst e1
    rw [he] at hj
    cases hj
    exact ⟨_, List.mem_of_getElem? (show (es.set m _)[m]? = some (e.1, e.2.1, l) from List.getElem?_set_self hm), hx⟩
  · exact ⟨x, List.mem_of_getElem? (show (es.set m _)[j]? = some x by rw [List.getElem?_set_ne e1]; exact hj), .refl _⟩
theorem Wld.mono (W : Wld nodes ns es h k) {h' : Nat} (hh : h ≤ h') : Wld nodes ns es h' k := ⟨W.nd, W.good, W.nn, W.ad, W.ln, W.li, W.le, W.ok, Nat.le_trans W.cn hh, W.ct, W.rs, W.rl, W.rd⟩
end
theorem set_self {es : List LE} {m : Nat} {e : LE} (h : es[m]? = some e) : es.set m e = es := by
  apply List.ext_getElem?
  intro j
  rw [List.getElem?_set]
  by_cases hj : m = j
  · subst hj
    rw [if_pos rfl, if_pos (List.getElem?_eq_some_iff.mp h).1, h]
  · rw [if_neg hj]
/-- a name more: a frame's -/
theorem Wld.named {nodes ns : List Str} {es : List LE} {h : Nat} {k : List Str} (W : Wld nodes ns es h k) {nm : Str} (hg : GoodN nm) (hn : nm ∉ ns) : Wld nodes (ns ++ [nm]) es h (k ++ [nm]) := by
  refine ⟨?_, ?_, fun x hx => List.mem_append_left _ (W.nn x hx), W.ad, W.ln, fun e he => ⟨List.mem_append_left _ (W.li e he).1, (W.li e he).2⟩, W.le, W.ok, W.cn, ?_, ?_, ?_, ?_⟩
  · refine List.nodup_append.mpr ⟨W.nd, by simp, fun a ha b hb e => ?_⟩
    rw [List.mem_singleton.mp hb] at e
    exact hn (e ▸ ha)
  · intro w hw
    rcases List.mem_append.mp hw with hw | hw
    · exact W.good w hw
    · rw [List.mem_singleton.mp hw]; exact hg
  · have := W.ct
    rw [List.length_append, List.length_append, List.length_singleton]
    omega
  · intro y hy
    rcases List.mem_append.mp hy with hy | hy
    · exact ⟨List.mem_append_left _ (W.rs y hy).1, (W.rs y hy).2⟩
    · rw [List.mem_singleton.mp hy]
      exact ⟨List.mem_append_right _ (List.mem_singleton.mpr rfl), fun z => hn (W.nn _ z)⟩
  · intro e he z
    rcases List.mem_append.mp z with z | z
    · exact W.rl e he z
    · exact hn (List.mem_singleton.mp z ▸ (W.li e he).1)
  · refine List.nodup_append.mpr ⟨W.rd, by simp, fun a ha b hb e => ?_⟩
    rw [List.mem_singleton.mp hb] at e
    exact hn (e ▸ (W.rs a ha).1)
theorem hop_A (T : Tx K mg base) {nodes ns barred bl : List Str} {es : List LE} {h : Nat} {k : List Str} {one two : Str} {q : AV → List AV → Prop} {x : Exn → List AV → Prop} (W : Wld nodes ns es h k) (hk : nodes.length + k.length ≤ 80) (h1 : one ∈ nodes) (h2 : two ∈ nodes) (hh : h < 48) (h5 : bl.length ≤ 5) (hb : ∀ e ∈ es, e.2.2.n ∈ barred → e.2.2.n ∈ bl) (hbn : ∀ y ∈ barred, y ∈ ns)
    (hq : ∀ nm ns' es', Wld nodes ns' es' (h + 1) k → EsExt es es' → (∀ y ∈ ns, y ∈ ns') → nm ∉ barred → (∃ e ∈ es', e.2.2.n = nm ∧ one ∈ e.2.2.f ∧ two ∈ e.2.2.t) → q (.fz (.str nm)) [.dr, .ol (ns'.map .str), lnsAV es', .fz (.str one), .fz (.str two), .fz (.lst (barred.map .str))]) :
    A_law_hop T [.dr, .ol (ns.map .str), lnsAV es, .fz (.str one), .fz (.str two), .fz (.lst (barred.map .str))] q x := by
  refine A_law_hop_of T _ _ _ _ _ _ ?_
  have le := W.le
  unfold b_law_hop
  walk_at "aw"
  rw [lns_seens es]
  refine comp_filt (fit1 barred one) (fun e => .adr e.1) (by show 0 + _ ≤ _; omega) (fun e he Q A hT hF => ?_) ?_
  · obtain ⟨m, hm⟩ := List.mem_iff_getElem?.mp he
    walk_at "aw"
    refine w_ln0 W.ad hm rfl rfl ?_
    walk_at "aw"
    refine w_ninL rfl (flats_str _) ?_
    rw [inF_str]
    walk_at "aw"
    refine cond_dec (fun hc => ?_) (fun hc => ?_)
    · walk_at "aw"
      exact hF (by simp [fit1, hc])
    · walk_at "aw"
      refine w_ln1 W.ad hm rfl rfl ?_
      walk_at "aw"
      refine w_inL rfl (flats_str _) ?_
      rw [inF_str]
      walk_at "aw"
      refine cond_dec (fun hc2 => ?_) (fun hc2 => ?_)
      · walk_at "aw"
        exact hT (by simp [fit1, hc, hc2])
      · walk_at "aw"
        refine w_ln1 W.ad hm rfl rfl ?_
        walk_at "aw"
        rw [List.length_map]
        refine cond_dec (fun hc3 => ?_) (fun hc3 => ?_)
        · walk_at "aw"
          exact hT (by simp [fit1, hc, show e.2.2.f.length < 6 by omega])
        · walk_at "aw"
          exact hF (by simp [fit1, hc2, show ¬ e.2.2.f.length < 6 by omega])
  rw [List.nil_append]
  have lf1 : (es.filter (fit1 barred one)).length ≤ es.length := List.length_filter_le _ _
  walk_at "aw"
  refine comp_filt (fit2 two) (fun e => .adr e.1) (by show 0 + _ ≤ _; omega) (fun e he0 Q A hT hF => ?_) ?_
  · have he := (List.mem_filter.mp he0).1
    obtain ⟨m, hm⟩ := List.mem_iff_getElem?.mp he
    walk_at "aw"
    refine w_ln2 W.ad hm rfl rfl ?_
    walk_at "aw"
    refine w_inL rfl (flats_str _) ?_
    rw [inF_str]
    walk_at "aw"
    refine cond_dec (fun hc2 => ?_) (fun hc2 => ?_)
    · walk_at "aw"
      exact hT (by simp [fit2, hc2])
    · walk_at "aw"
      refine w_ln2 W.ad hm rfl rfl ?_
      walk_at "aw"
      rw [List.length_map]
      refine cond_dec (fun hc3 => ?_) (fun hc3 => ?_)
      · walk_at "aw"
        exact hT (by simp [fit2, show e.2.2.t.length < 6 by omega])
      · walk_at "aw"
        exact hF (by simp [fit2, hc2, show ¬ e.2.2.t.length < 6 by omega])
  rw [List.nil_append]
  have lf2 : ((es.filter (fit1 barred one)).filter (fit2 two)).length ≤ (es.filter (fit1 barred one)).length := List.length_filter_le _ _
  have fitE : ∀ e ∈ (es.filter (fit1 barred one)).filter (fit2 two), e ∈ es ∧ fit1 barred one e = true ∧ fit2 two e = true := fun e he => ⟨(List.mem_filter.mp (List.mem_filter.mp he).1).1, (List.mem_filter.mp (List.mem_filter.mp he).1).2, (List.mem_filter.mp he).2⟩
  have fitN : ¬ es.length < 14 → (es.filter (fit1 barred one)).filter (fit2 two) ≠ [] := W.fit hh h5 hb
  generalize (es.filter (fit1 barred one)).filter (fit2 two) = fs at fitE fitN lf2
  have ct := W.ct
  -- the second way: a line that fits is taken
  have take : fs ≠ [] → ∀ (v7 : Option AV) (N : AEnds), (∀ av ρ, N.rt av ρ = q av (mrg [.dr, .ol (ns.map .str), lnsAV es, .fz (.str one), .fz (.str two), .fz (.lst (barred.map .str))] (selM [true, true, true, false, false, false] ρ))) →
      aSeq (aSet 7 (aFz (aCall0 (A_law_pick T) (aSlot 0 (aArg (aVar 6) aArgs))))) (aSeq (aIf (aTest (aOp oNotIn (aVar 3) (aLn 2 7 1))) (aAppLn 2 7 1 (aVar 3)) aNext) (b_law_hop_2 T)) N [some .dr, some (.ol (ns.map .str)), some (lnsAV es), some (.fz (.str one)), some (.fz (.str two)), some (.fz (.lst (barred.map .str))), some (.fz (.lst (fs.map fun e => .adr e.1))), v7] := fun fne v7 N hr => by
    obtain ⟨nx, rt, bk, ct', ex⟩ := N
    walk_at "aw"
    refine pick_A T (by rw [List.length_map]; exact List.length_pos_iff.mpr fne) (by rw [List.length_map]; omega) fun d hd => ?_
    obtain ⟨e, he, rfl⟩ := List.mem_map.mp hd
    obtain ⟨hes, ff1, ff2⟩ := fitE e he
    obtain ⟨m, hm⟩ := List.mem_iff_getElem?.mp hes
    have ok := W.ok e hes
    have hml := (List.getElem?_eq_some_iff.mp hm).1
    have nb : e.2.2.n ∉ barred := by
      unfold fit1 at ff1
      rw [Bool.and_eq_true, Bool.not_eq_true', decide_eq_false_iff_not] at ff1
      exact ff1.1
    have hf6 : one ∉ e.2.2.f → e.2.2.f.length < 6 := fun hc => by
      unfold fit1 at ff1
      rw [Bool.and_eq_true, Bool.or_eq_true, decide_eq_true_iff, decide_eq_true_iff] at ff1
      exact ff1.2.resolve_left hc
    have ht6 : two ∉ e.2.2.t → e.2.2.t.length < 6 := fun hc => by
      unfold fit2 at ff2
      rw [Bool.or_eq_true, decide_eq_true_iff, decide_eq_true_iff] at ff2
      exact ff2.resolve_left hc
    walk_at "aw"
    -- behind the first: the line l
    have rest : ∀ (l : Ln), l.n = e.2.2.n → LnOk nodes l → LnExt e.2.2 l → one ∈ l.f → l.t = e.2.2.t → l.f.length ≤ e.2.2.f.length + 1 → b_law_hop_2 T ⟨nx, rt, bk, ct', ex⟩ [some .dr, some (.ol (ns.map .str)), some (lnsAV (es.set m (e.1, e.2.1, l))), some (.fz (.str one)), some (.fz (.str two)), some (.fz (.lst (barred.map .str))), some (.fz (.lst (fs.map fun e => .adr e.1))), some (.fz (.adr e.1))] := fun l ln lok lx l1 lt lm => by
      have hm2 : (es.set m (e.1, e.2.1, l))[m]? = some (e.1, e.2.1, l) := List.getElem?_set_self hml
      have nd2 : ((es.set m (e.1, e.2.1, l)).map (·.1)).Nodup := by rw [map_set_same (e' := (e.1, e.2.1, l)) hm rfl]; exact W.ad
      unfold b_law_hop_2
      walk_at "aw"
      refine w_ln2 nd2 hm2 rfl rfl ?_
      walk_at "aw"
      refine w_ninL rfl (flats_str _) ?_
      rw [inF_str]
      walk_at "aw"
      refine cond_dec (fun hc2 => ?_) (fun hc2 => ?_)
      · walk_at "aw"
        unfold b_law_hop_1
        walk_at "aw"
        refine w_lnE0 nd2 hm2 rfl rfl ?_
        rw [show rt _ _ = q _ _ from hr _ _]
        refine hq l.n ns _ (W.grown hm ln lok (by unfold mu; rw [lt]; omega)) (ext_set hm lx) (fun _ hy => hy) (by rw [ln]; exact nb) ⟨_, List.mem_of_getElem? hm2, rfl, l1, hc2⟩
      · walk_at "aw"
        have hc3 : two ∉ e.2.2.t := by rw [← lt]; exact hc2
        refine w_appLn2 nd2 hm2 rfl rfl rfl (by show l.t.length < _; rw [lt]; have := ht6 hc3; omega) ?_
        rw [List.set_set]
        have hm3 : (es.set m (e.1, e.2.1, { l with t := l.t ++ [two] }))[m]? = some (e.1, e.2.1, { l with t := l.t ++ [two] }) := List.getElem?_set_self hml
        have nd3 : ((es.set m (e.1, e.2.1, { l with t := l.t ++ [two] })).map (·.1)).Nodup := by rw [map_set_same (e' := (e.1, e.2.1, { l with t := l.t ++ [two] })) hm rfl]; exact W.ad
        unfold b_law_hop_1
        walk_at "aw"
        refine w_lnE0 nd3 hm3 rfl rfl ?_
        rw [show rt _ _ = q _ _ from hr _ _]
        have l6 := ht6 hc3
        refine hq l.n ns _ (W.grown hm ln ⟨lok.f0, lok.fn, lok.fi, lok.f6, by simp, ?_, ?_, ?_, lok.w0, lok.w4⟩ ?_) (ext_set hm ⟨lx.n, lx.w, lx.f, fun y hy => List.mem_append_left _ (lx.t y hy)⟩) (fun _ hy => hy) (by rw [ln]; exact nb) ⟨_, List.mem_of_getElem? hm3, rfl, l1, List.mem_append_right _ (List.mem_singleton.mpr rfl)⟩
        · refine List.nodup_append.mpr ⟨lok.tn, by simp, fun a ha b hb' z => ?_⟩
          rw [List.mem_singleton.mp hb'] at z
          exact hc2 (z ▸ ha)
        · intro y hy
          rcases List.mem_append.mp hy with hy | hy
          · exact lok.ti y hy
          · rw [List.mem_singleton.mp hy]; exact h2
        · show (l.t ++ [two]).length ≤ 6
          rw [List.length_append, List.length_singleton, lt]
          omega
        · show max l.f.length (l.t ++ [two]).length ≤ _
          rw [List.length_append, List.length_singleton, lt]
          unfold mu
          omega
    refine w_ln1 W.ad hm rfl rfl ?_
    walk_at "aw"
    refine w_ninL rfl (flats_str _) ?_
    rw [inF_str]
    walk_at "aw"
    refine cond_dec (fun hc => ?_) (fun hc => ?_)
    · walk_at "aw"
      have := rest e.2.2 rfl ok (.refl _) hc rfl (by omega)
      rw [show es.set m (e.1, e.2.1, e.2.2) = es from set_self hm] at this
      exact this
    · walk_at "aw"
      have l6 := hf6 hc
      refine w_appLn1 W.ad hm rfl rfl rfl (by omega) ?_
      refine rest { e.2.2 with f := e.2.2.f ++ [one] } rfl ⟨by simp, ?_, ?_, ?_, ok.t0, ok.tn, ok.ti, ok.t6, ok.w0, ok.w4⟩ ⟨rfl, rfl, fun y hy => List.mem_append_left _ hy, fun y hy => hy⟩ (List.mem_append_right _ (List.mem_singleton.mpr rfl)) rfl (by show (e.2.2.f ++ [one]).length ≤ _; rw [List.length_append, List.length_singleton]; omega)
      · refine List.nodup_append.mpr ⟨ok.fn, by simp, fun a ha b hb' z => ?_⟩
        rw [List.mem_singleton.mp hb'] at z
        exact hc (z ▸ ha)
      · intro y hy
        rcases List.mem_append.mp hy with hy | hy
        · exact ok.fi y hy
        · rw [List.mem_singleton.mp hy]; exact h1
      · show (e.2.2.f ++ [one]).length ≤ 6
        rw [List.length_append, List.length_singleton]
        omega
  -- a new line
  have make : es.length < 14 → ∀ (v7 : Option AV) (N : AEnds), (∀ av ρ, N.rt av ρ = q av (mrg [.dr, .ol (ns.map .str), lnsAV es, .fz (.str one), .fz (.str two), .fz (.lst (barred.map .str))] (selM [true, true, true, false, false, false] ρ))) →
      aSeq (mAppN 2 (mLstO (mConsO (mUp (mFz (mCall0 (A_law_name T) (aSlot 0 (aSlotO 1 aArgs))))) (mConsO (mO (aLst (aCons (aVar 3) aNil))) (mConsO (mO (aLst (aCons (aVar 4) aNil))) (mConsO (mUp (mE (aFz (aCall0 (A_law_draw T) (aSlot 0 (aArg (aC (.int 4)) aArgs)))))) mNilO)))))) (aRet (aOnIx 2 (aUn oNeg (aC (.int 1))) 0)) N [some .dr, some (.ol (ns.map .str)), some (.on (es.map fun e => .ref e.1) (es.map fun e => e.2.2.av e.2.1)), some (.fz (.str one)), some (.fz (.str two)), some (.fz (.lst (barred.map .str))), some (.fz (.lst (fs.map fun e => .adr e.1))), v7] := fun h14 v7 N hr => by
    obtain ⟨nx, rt, bk, ct', ex⟩ := N
    walk_at "aw"
    refine name_A T (by omega) fun nm hg hn => ?_
    dsimp only [putA, List.set_cons_zero, List.set_cons_succ]
    walk_at "aw"
    refine w_draw (by omega) (by omega) fun r r0 r1 => ?_
    walk_at "aw"
    intro vs hvs
    walk_at "aw"
    refine ⟨by rw [List.length_map]; omega, rfl, fun p hp => ?_⟩
    walk_at "aw"
    have hpe : ∀ e ∈ es, e.1 ≠ p := fun e he z => by
      obtain ⟨m, hm⟩ := List.mem_iff_getElem?.mp he
      refine hp m _ _ (lns_at hm) ?_
      rw [List.getElem?_map, hm, ← z]
      rfl
    refine w_onQ rfl ?_
    walk_at "aw"
    rw [L2.atI_last]
    show rt (.fz (.str nm)) _
    rw [show rt _ _ = q _ _ from hr _ _]
    have Wn := W.new (vs := vs) (wi := r) hpe h14 hg hn h1 h2 r0 r1
    have hfin := hq nm (ns ++ [nm]) (es ++ [(p, vs, ⟨nm, [one], [two], r⟩)]) Wn (fun e he => ⟨e, List.mem_append_left _ he, .refl _⟩) (fun y hy => List.mem_append_left _ hy) (fun z => hn (hbn _ z)) ⟨_, List.mem_append_right _ (List.mem_singleton.mpr rfl), rfl, List.mem_singleton.mpr rfl, List.mem_singleton.mpr rfl⟩
    unfold lnsAV at hfin
    rw [List.map_append (l₁ := es), List.map_append (l₁ := es)] at hfin
    exact hfin
  walk_at "aw"
  rw [lns_seens es, List.length_map]
  refine cond_dec (fun hc => ?_) (fun hc => ?_)
  · walk_at "aw"
    rw [List.length_map]
    refine cond_dec (fun hc2 => ?_) (fun hc2 => ?_)
    · refine make ?_ _ _ ?_
      · omega
      · exact fun _ _ => rfl
    · walk_at "aw"
      have fne : fs ≠ [] := fun z => hc2 (by rw [z]; rfl)
      refine w_draw (by omega) (by omega) fun r r0 r1 => ?_
      walk_at "aw"
      refine cond_dec (fun hc3 => ?_) (fun hc3 => ?_)
      · refine make ?_ _ _ ?_
        · omega
        · exact fun _ _ => rfl
      · refine take fne _ _ ?_
        exact fun _ _ => rfl
  · refine take (fitN (by omega)) _ _ ?_
    exact fun _ _ => rfl
def flat (a : Str) (hs : List (Str × Str)) : List Str := a :: hs.flatMap fun p => [p.1, p.2]
def lastN : Str → List (Str × Str) → Str
  | a, [] => a
  | _, p :: r => lastN p.2 r
def HopAt (es : List LE) (a l b : Str) : Prop := ∃ e ∈ es, e.2.2.n = l ∧ a ∈ e.2.2.f ∧ b ∈ e.2.2.t
def HopsOk (es : List LE) : Str → List (Str × Str) → Prop
  | _, [] => True
  | a, p :: r => HopAt es a p.1 p.2 ∧ HopsOk es p.2 r
theorem HopAt.ext {es es' : List LE} {a l b : Str} (h : HopAt es a l b) (x : EsExt es es') : HopAt es' a l b := by
  obtain ⟨e, he, h1, h2, h3⟩ := h
  obtain ⟨e', he', k⟩ := x e he
  exact ⟨e', he', k.n.trans h1, k.f _ h2, k.t _ h3⟩
theorem HopsOk.ext {es es' : List LE} (x : EsExt es es') : ∀ {hs : List (Str × Str)} {a : Str}, HopsOk es a hs → HopsOk es' a hs
  | [], _, _ => trivial
  | _ :: _, _, h => ⟨h.1.ext x, HopsOk.ext x h.2⟩
theorem HopsOk.snoc {es : List LE} {l b : Str} : ∀ {hs : List (Str × Str)} {a : Str}, HopsOk es a hs → HopAt es (lastN a hs) l b → HopsOk es a (hs ++ [(l, b)])
  | [], _, _, k => ⟨k, trivial⟩
  | _ :: _, _, h, k => ⟨h.1, HopsOk.snoc h.2 k⟩
theorem flat_snoc (a l b : Str) (hs : List (Str × Str)) : flat a (hs ++ [(l, b)]) = flat a hs ++ [l, b] := by
  unfold flat
  rw [List.flatMap_append]
  rfl
theorem flat_end : ∀ (a : Str) (hs : List (Str × Str)), ∃ r, flat a hs = r ++ [lastN a hs]
  | a, [] => ⟨[], rfl⟩
  | a, p :: hs => by
    obtain ⟨r, e⟩ := flat_end p.2 hs
    refine ⟨a :: p.1 :: r, ?_⟩
    show a :: p.1 :: (flat p.2 hs) = _
    rw [e]
    rfl
theorem flat_last (a : Str) (hs : List (Str × Str)) : atI ((flat a hs).map D.str) (-1) = some (.str (lastN a hs)) := by
  obtain ⟨r, e⟩ := flat_end a hs
  rw [e, List.map_append]
  exact L2.atI_last _ _
theorem flat_len (a : Str) (hs : List (Str × Str)) : (flat a hs).length = 1 + 2 * hs.length := by
  unfold flat
  induction hs with
  | nil => rfl
  | cons p hs ih =>
    rw [List.length_cons] at ih
    rw [List.flatMap_cons, List.length_cons, List.length_append, List.length_cons (a := p)]
    show 2 + _ + 1 = _
    omega
theorem flat_mem {a x : Str} {hs : List (Str × Str)} : x ∈ flat a hs ↔ x = a ∨ ∃ p ∈ hs, x = p.1 ∨ x = p.2 := by
  unfold flat
  rw [List.mem_cons, List.mem_flatMap]
  constructor
  · rintro (h | ⟨p, hp, h⟩)
    · exact .inl h
    · refine .inr ⟨p, hp, ?_⟩
      simpa using h
  · rintro (h | ⟨p, hp, h⟩)
    · exact .inl h
    · exact .inr ⟨p, hp, by simpa using h⟩
structure WayOk (gates nodes barred ns : List Str) (es : List LE) (a z : Str) (hs : List (Str × Str)) : Prop where
  len : 1 ≤ hs.length ∧ hs.length ≤ 3
  ho : HopsOk es a hs
  nd : (flat a hs).Nodup
  li : ∀ p ∈ hs, p.1 ∈ ns ∧ p.1 ∉ nodes ∧ p.1 ∉ barred
  la : ∃ hs0 l, hs = hs0 ++ [(l, z)] ∧ ∀ p ∈ hs0, p.2 ∈ gates ∧ p.2 ∉ barred
theorem WayOk.ext {gates nodes barred ns ns' : List Str} {es es' : List LE} {a z : Str} {hs : List (Str × Str)} (h : WayOk gates nodes barred ns es a z hs) (x : EsExt es es') (n : ∀ y ∈ ns, y ∈ ns') : WayOk gates nodes barred ns' es' a z hs :=
  ⟨h.len, h.ho.ext x, h.nd, fun p hp => ⟨n _ (h.li p hp).1, (h.li p hp).2⟩, h.la⟩
theorem len_drop : ∀ {l : List Str} {g : Str}, l.Nodup → g ∈ l → (l.filter fun o => !decide (o = g)).length + 1 = l.length
  | [], g, _, h => by cases h
  | y :: l, g, nd, h => by
    obtain ⟨n1, n2⟩ := List.nodup_cons.mp nd
    by_cases e : y = g
    · subst e
      rw [List.filter_cons_of_neg (by simp), List.length_cons]
      have : l.filter (fun o => !decide (o = y)) = l := List.filter_eq_self.mpr fun o ho => by
        have : o ≠ y := fun z => n1 (z ▸ ho)
        simp [this]
      rw [this]
    · rw [List.filter_cons_of_pos (by simp [e]), List.length_cons, List.length_cons, len_drop n2 ((List.mem_cons.mp h).resolve_left fun z => e z.symm)]
theorem lastN_mem {nodes gates : List Str} {a : Str} (ha : a ∈ nodes) (hg : ∀ g ∈ gates, g ∈ nodes) : ∀ {hs : List (Str × Str)}, (∀ p ∈ hs, p.2 ∈ gates) → lastN a hs ∈ nodes := fun {hs} h => by
  induction hs generalizing a with
  | nil => exact ha
  | cons p r ih => exact ih (hg _ (h p List.mem_cons_self)) fun y hy => h y (List.mem_cons_of_mem _ hy)
/-- the hop's own line is new on the way -/
theorem hop_new {nodes ns gates barred : List Str} {es : List LE} {h : Nat} {k : List Str} (W : Wld nodes ns es h k) {nm a b : Str} (hp : HopAt es a nm b) : nm ∈ ns ∧ nm ∉ nodes := by
  obtain ⟨e, he, rfl, _⟩ := hp
  exact W.li e he
theorem way_A (T : Tx K mg base) {nodes ns gates barred bl : List Str} {es : List LE} {h : Nat} {k : List Str} {a z : Str} {q : AV → List AV → Prop} {x : Exn → List AV → Prop} (W : Wld nodes ns es h k) (hk : nodes.length + k.length ≤ 80) (hg : ∀ g ∈ gates, g ∈ nodes) (hgn : gates.Nodup) (hgl : gates.length ≤ 100) (ha : a ∈ nodes) (hz : z ∈ nodes) (haz : a ≠ z) (hag : a ∉ gates) (hzg : z ∉ gates) (hh : h + 3 ≤ 48) (bl3 : bl.length ≤ 3) (hb0 : ∀ y ∈ barred, y ∈ ns ∧ (y ∈ bl ∨ y ∈ nodes)) (hbl : barred.length ≤ 100)
    (hq : ∀ hs ns' es', Wld nodes ns' es' (h + 3) k → EsExt es es' → (∀ y ∈ ns, y ∈ ns') → WayOk gates nodes barred ns' es' a z hs → q (.fz (.tup ((flat a hs).map .str))) [.dr, .ol (ns'.map .str), lnsAV es', .fz (.lst (gates.map .str)), .fz (.str a), .fz (.str z), .fz (.lst (barred.map .str))]) :
    A_law_way T [.dr, .ol (ns.map .str), lnsAV es, .fz (.lst (gates.map .str)), .fz (.str a), .fz (.str z), .fz (.lst (barred.map .str))] q x := by
  refine A_law_way_of T _ _ _ _ _ _ _ ?_
  unfold b_law_way
  walk_at "aw"
  refine comp_filt (fun g => !decide (g ∈ barred)) D.str (by show 0 + _ ≤ _; omega) (fun g hg' Q A hT hF => ?_) ?_
  · walk_at "aw"
    refine w_ninL rfl (flats_str _) ?_
    rw [inF_str]
    walk_at "aw"
    refine cond_dec (fun hc => ?_) (fun hc => ?_)
    · walk_at "aw"
      exact hF (by simp [hc])
    · walk_at "aw"
      exact hT (by simp [hc])
  rw [List.nil_append]
  have f0 : ∀ g ∈ gates.filter (fun g => !decide (g ∈ barred)), g ∈ gates ∧ g ∉ barred := fun g hg' => by
    obtain ⟨h1, h2⟩ := List.mem_filter.mp hg'
    exact ⟨h1, by simpa using h2⟩
  have fn0 : (gates.filter (fun g => !decide (g ∈ barred))).Nodup := List.filter_sublist.nodup hgn
  have fl0 : (gates.filter (fun g => !decide (g ∈ barred))).length ≤ gates.length := List.length_filter_le _ _
  generalize gates.filter (fun g => !decide (g ∈ barred)) = free0 at f0 fn0 fl0
  walk_at "aw"
  refine w_draw (by omega) (by omega) fun r r0 r1 => ?_
  walk_at "aw"
  rw [List.length_map]
  obtain ⟨n, en, n2, nf⟩ : ∃ n : Nat, (if ((free0.length : Nat) : Int) < r then ((free0.length : Nat) : Int) else r) = (n : Int) ∧ n ≤ 2 ∧ n ≤ free0.length := by
    split
    · exact ⟨free0.length, rfl, by omega, Nat.le_refl _⟩
    · exact ⟨r.toNat, by omega, by omega, by omega⟩
  rw [en]
  refine ⟨⟨by omega, by omega⟩, ?_⟩
  rw [Int.toNat_natCast]
  refine loop_rng (fun i ρ => ∃ (hs : List (Str × Str)) (ns' free : List Str) (es' : List LE) (v9 v10 v11 : Option AV), ρ = [some .dr, some (.ol (ns'.map .str)), some (lnsAV es'), some (.fz (.lst (gates.map .str))), some (.fz (.str a)), some (.fz (.str z)), some (.fz (.lst (barred.map .str))), some (.fz (.lst (free.map .str))), some (.ol ((flat a hs).map .str)), v9, v10, v11] ∧
    hs.length = i ∧ Wld nodes ns' es' (h + i) k ∧ EsExt es es' ∧ (∀ y ∈ ns, y ∈ ns') ∧ HopsOk es' a hs ∧ (flat a hs).Nodup ∧ (∀ p ∈ hs, (p.1 ∈ ns' ∧ p.1 ∉ nodes ∧ p.1 ∉ barred) ∧ (p.2 ∈ gates ∧ p.2 ∉ barred)) ∧ free.Nodup ∧ free.length + i = free0.length ∧ (∀ g ∈ free, g ∈ gates ∧ g ∉ barred ∧ g ∉ flat a hs)) ?_ ?_ ?_
  · refine ⟨[], ns, free0, es, none, none, none, rfl, rfl, W, .refl _, fun _ hy => hy, trivial, by simp [flat], fun p hp => (by cases hp), fn0, rfl, fun g hg' => ⟨(f0 g hg').1, (f0 g hg').2, fun zz => hag ?_⟩⟩
    rw [← List.mem_singleton.mp zz]
    exact (f0 g hg').1
  · rintro i ρ K' hi ⟨hs, ns', free, es', v9, v10, v11, rfl, hl, W', ext, nsub, ho, nd, hp, fnd, fl, fg⟩ hK
    walk_at "aw"
    refine pick_A T (by rw [List.length_map]; omega) (by rw [List.length_map]; omega) fun d hd => ?_
    obtain ⟨g, hgf, rfl⟩ := List.mem_map.mp hd
    obtain ⟨g1, g2, g3⟩ := fg g hgf
    walk_at "aw"
    refine comp_filt (fun o => !decide (o = g)) D.str (by show 0 + _ ≤ _; omega) (fun o ho' Q A hT hF => ?_) ?_
    · walk_at "aw"
      refine cond_dec (fun hc => ?_) (fun hc => ?_)
      · walk_at "aw"
        exact hF (by simp [hc])
      · walk_at "aw"
        exact hT (by simp [hc])
    rw [List.nil_append]
    have fr : ∀ o ∈ free.filter (fun o => !decide (o = g)), o ∈ free ∧ o ≠ g := fun o ho' => by
      obtain ⟨h1, h2⟩ := List.mem_filter.mp ho'
      exact ⟨h1, by simpa using h2⟩
    have frn : (free.filter (fun o => !decide (o = g))).Nodup := List.filter_sublist.nodup fnd
    have frl : (free.filter (fun o => !decide (o = g))).length + 1 = free.length := len_drop fnd hgf
    generalize free.filter (fun o => !decide (o = g)) = free2 at fr frn frl
    walk_at "aw"
    refine w_ixL (flat_last a hs) ?_
    walk_at "aw"
    have fll := flat_len a hs
    refine w_cat (by rw [List.length_map, List.length_map]; omega) ?_
    rw [← List.map_append]
    walk_at "aw"
    refine hop_A T (bl := bl ++ hs.map (·.1)) W' hk (lastN_mem ha hg fun p hp' => (hp p hp').2.1) (hg g g1) (by omega) (by rw [List.length_append, List.length_map]; omega) (fun e he hb => ?_) (fun y hy => ?_) ?_
    · have nn := (W'.li e he).2
      rcases List.mem_append.mp hb with hb | hb
      · rcases (hb0 _ hb).2 with hb | hb
        · exact List.mem_append_left _ hb
        · exact absurd hb nn
      · rcases flat_mem.mp hb with hb | ⟨p, hp', hb | hb⟩
        · exact absurd (hb ▸ ha) nn
        · exact List.mem_append_right _ (List.mem_map.mpr ⟨p, hp', hb.symm⟩)
        · exact absurd (hb ▸ hg _ (hp p hp').2.1) nn
    · rcases List.mem_append.mp hy with hy | hy
      · exact nsub _ (hb0 _ hy).1
      · rcases flat_mem.mp hy with rfl | ⟨p, hp', rfl | rfl⟩
        · exact W'.nn _ ha
        · exact (hp p hp').1.1
        · exact W'.nn _ (hg _ (hp p hp').2.1)
    · intro nm ns2 es2 W2 ext2 sub2 nb2 hop2
      dsimp only [putA, List.set_cons_zero, List.set_cons_succ]
      walk_at "aw"
      refine ⟨by rw [List.length_map]; omega, ?_⟩
      walk_at "aw"
      refine ⟨by rw [List.length_append, List.length_map, List.length_singleton]; omega, ?_⟩
      walk_at "aw"
      have e1 : ((flat a hs).map D.str ++ [.str nm]) ++ [.str g] = (flat a (hs ++ [(nm, g)])).map .str := by
        rw [flat_snoc, List.map_append, List.append_assoc]
        rfl
      rw [e1]
      obtain ⟨nmi, nmn⟩ := hop_new (gates := gates) (barred := barred) W2 hop2
      have nmf : nm ∉ flat a hs := fun zz => nb2 (List.mem_append_right _ zz)
      have nmb : nm ∉ barred := fun zz => nb2 (List.mem_append_left _ zz)
      have nmg : nm ≠ g := fun zz => nmn (zz ▸ hg g g1)
      refine hK _ ⟨hs ++ [(nm, g)], ns2, free2, es2, _, _, _, rfl, by rw [List.length_append, hl]; rfl, W2, ext.trans ext2, fun y hy => sub2 y (nsub y hy), (ho.ext ext2).snoc hop2, ?_, fun p hp' => ?_, frn, by omega, fun o ho' => ?_⟩
      · rw [flat_snoc]
        refine List.nodup_append.mpr ⟨nd, by simp [nmg], fun y hy w hw zz => ?_⟩
        subst zz
        rcases List.mem_cons.mp hw with rfl | hw
        · exact nmf hy
        · rw [List.mem_singleton.mp hw] at hy
          exact g3 hy
      · rcases List.mem_append.mp hp' with hp' | hp'
        · obtain ⟨⟨x1, x2⟩, x3⟩ := hp p hp'
          exact ⟨⟨sub2 _ x1, x2⟩, x3⟩
        · rw [List.mem_singleton.mp hp']
          exact ⟨⟨nmi, nmn, nmb⟩, g1, g2⟩
      · obtain ⟨o1, o2⟩ := fr o ho'
        obtain ⟨o3, o4, o5⟩ := fg o o1
        refine ⟨o3, o4, fun zz => ?_⟩
        rw [flat_snoc] at zz
        rcases List.mem_append.mp zz with zz | zz
        · exact o5 zz
        · rcases List.mem_cons.mp zz with zz | zz
          · exact nmn (zz ▸ hg o o3)
          · exact o2 (List.mem_singleton.mp zz)
  · rintro ρ ⟨hs, ns', free, es', v9, v10, v11, rfl, hl, W', ext, nsub, ho, nd, hp, fnd, fl, fg⟩
    walk_at "aw"
    refine w_ixL (flat_last a hs) ?_
    walk_at "aw"
    have fll := flat_len a hs
    refine w_cat (by rw [List.length_map, List.length_map]; omega) ?_
    rw [← List.map_append]
    walk_at "aw"
    refine hop_A T (bl := bl ++ hs.map (·.1)) W' hk (lastN_mem ha hg fun p hp' => (hp p hp').2.1) hz (by omega) (by rw [List.length_append, List.length_map]; omega) (fun e he hb => ?_) (fun y hy => ?_) ?_
    · have nn := (W'.li e he).2
      rcases List.mem_append.mp hb with hb | hb
      · rcases (hb0 _ hb).2 with hb | hb
        · exact List.mem_append_left _ hb
        · exact absurd hb nn
      · rcases flat_mem.mp hb with hb | ⟨p, hp', hb | hb⟩
        · exact absurd (hb ▸ ha) nn
        · exact List.mem_append_right _ (List.mem_map.mpr ⟨p, hp', hb.symm⟩)
        · exact absurd (hb ▸ hg _ (hp p hp').2.1) nn
    · rcases List.mem_append.mp hy with hy | hy
      · exact nsub _ (hb0 _ hy).1
      · rcases flat_mem.mp hy with rfl | ⟨p, hp', rfl | rfl⟩
        · exact W'.nn _ ha
        · exact (hp p hp').1.1
        · exact W'.nn _ (hg _ (hp p hp').2.1)
    · intro nm ns2 es2 W2 ext2 sub2 nb2 hop2
      dsimp only [putA, List.set_cons_zero, List.set_cons_succ]
      walk_at "aw"
      refine ⟨by rw [List.length_map]; omega, ?_⟩
      walk_at "aw"
      refine ⟨by rw [List.length_append, List.length_map, List.length_singleton]; omega, ?_⟩
      walk_at "aw"
      have e1 : ((flat a hs).map D.str ++ [.str nm]) ++ [.str z] = (flat a (hs ++ [(nm, z)])).map .str := by
        rw [flat_snoc, List.map_append, List.append_assoc]
        rfl
      rw [e1]
      obtain ⟨nmi, nmn⟩ := hop_new (gates := gates) (barred := barred) W2 hop2
      have nmf : nm ∉ flat a hs := fun zz => nb2 (List.mem_append_right _ zz)
      have nmb : nm ∉ barred := fun zz => nb2 (List.mem_append_left _ zz)
      have nmz : nm ≠ z := fun zz => nmn (zz ▸ hz)
      refine hq (hs ++ [(nm, z)]) ns2 es2 (W2.mono (by omega)) (ext.trans ext2) (fun y hy => sub2 y (nsub y hy)) ⟨by rw [List.length_append, List.length_singleton]; omega, (ho.ext ext2).snoc hop2, ?_, fun p hp' => ?_, hs, nm, rfl, fun p hp' => (hp p hp').2⟩
      · rw [flat_snoc]
        refine List.nodup_append.mpr ⟨nd, by simp [nmz], fun y hy w hw zz => ?_⟩
        subst zz
        rcases List.mem_cons.mp hw with rfl | hw
        · exact nmf hy
        · rw [List.mem_singleton.mp hw] at hy
          rcases flat_mem.mp hy with e | ⟨p, hp', e | e⟩
          · exact haz e.symm
          · exact (hp p hp').1.2.1 (e ▸ hz)
          · exact hzg (e ▸ (hp p hp').2.1)
      · rcases List.mem_append.mp hp' with hp' | hp'
        · obtain ⟨⟨x1, x2⟩, x3⟩ := hp p hp'
          exact ⟨sub2 _ x1, x2⟩
        · rw [List.mem_singleton.mp hp']
          exact ⟨nmi, nmn, nmb⟩
def Ln.d (l : Ln) : D := .lst [.str l.n, .lst (l.f.map .str), .lst (l.t.map .str), .int l.w]
theorem frzs_lns : ∀ (es : List LE), frzs (es.map fun e => e.2.2.av e.2.1) = some (es.map fun e => e.2.2.d)
  | [] => rfl
  | e :: es => by
    have ih := frzs_lns es
    show (match (e.2.2.av e.2.1).frz, frzs (es.map fun e => e.2.2.av e.2.1) with | some d, some ds => some (d :: ds) | _, _ => none) = _
    rw [ih]
    rfl
def mx2 (a b : Int) : Int := if b > a then b else a
def wayD (w : List Str) : D := .tup (w.map .str)
/-- what a way takes: each line that is on it -/
def wsum (ls : List Ln) (way : List Str) (long slack : Int) : Int := ls.foldl (fun s l => if l.n ∈ way then s + long + l.w + slack else s) 0
def needV (ls : List Ln) (ways : List (List Str)) (long slack : Int) : Int := ways.foldl (fun m w => mx2 m (wsum ls w long slack)) 0
theorem need_A (T : Tx K mg base) {ls : List Ln} {ways : List (List Str)} {n : Str} {every long rel last slack : Int} {q : AV → Prop} {x : Exn → Prop} (h : q (.fz (.int (needV ls ways long slack)))) :
    A_law_need T [.fz (.tup [.str n, .tup (ways.map wayD), .int every, .int long, .int rel, .int last]), .fz (.lst (ls.map Ln.d)), .fz (.int slack)] q x := by
  refine A_law_need_of T ?_
  unfold b_law_need
  walk_at "aw"
  refine w_ixT (d := .tup (ways.map wayD)) rfl ?_
  walk_at "aw"
  refine loop_map (fun i ρ => ∃ v4 v5 v6 : Option AV, ρ = [some (.fz (.tup [.str n, .tup (ways.map wayD), .int every, .int long, .int rel, .int last])), some (.fz (.lst (ls.map Ln.d))), some (.fz (.int slack)), some (.fz (.int (needV ls (ways.take i) long slack))), v4, v5, v6]) ⟨none, none, none, rfl⟩ ?_ ?_
  · rintro i w ρ K' ew ⟨v4, v5, v6, rfl⟩ hK
    unfold wayD
    walk_at "aw"
    refine loop_map (fun j ρ => ∃ v6 : Option AV, ρ = [some (.fz (.tup [.str n, .tup (ways.map wayD), .int every, .int long, .int rel, .int last])), some (.fz (.lst (ls.map Ln.d))), some (.fz (.int slack)), some (.fz (.int (needV ls (ways.take i) long slack))), some (.fz (.tup (w.map .str))), some (.fz (.int (wsum (ls.take j) w long slack))), v6]) ⟨_, rfl⟩ ?_ ?_
    · rintro j l ρ K2 el ⟨v6, rfl⟩ hK2
      have es : wsum (ls.take (j + 1)) w long slack = if l.n ∈ w then wsum (ls.take j) w long slack + long + l.w + slack else wsum (ls.take j) w long slack := by
        unfold wsum
        rw [List.take_add_one, el, Option.toList_some, List.foldl_append]
        rfl
      unfold Ln.d
      walk_at "aw"
      refine w_ixL (d := .str l.n) rfl ?_
      walk_at "aw"
      refine w_inT rfl (flats_str _) ?_
      rw [inF_str]
      walk_at "aw"
      refine cond_dec (fun hc => ?_) (fun hc => ?_)
      · walk_at "aw"
        refine w_ixT (d := .int long) rfl ?_
        walk_at "aw"
        refine w_ixL (d := .int l.w) rfl ?_
        walk_at "aw"
        rw [if_pos hc] at es
        exact hK2 _ ⟨_, by rw [es]; rfl⟩
      · walk_at "aw"
        rw [if_neg hc] at es
        exact hK2 _ ⟨_, by rw [es]; rfl⟩
    · rintro ρ ⟨v6, rfl⟩
      rw [List.take_length]
      walk_at "aw"
      have es : needV ls (ways.take (i + 1)) long slack = mx2 (needV ls (ways.take i) long slack) (wsum ls w long slack) := by
        unfold needV
        rw [List.take_add_one, ew, Option.toList_some, List.foldl_append]
        rfl
      exact hK _ ⟨_, _, _, by rw [es]; rfl⟩
  · rintro ρ ⟨v4, v5, v6, rfl⟩
    rw [List.take_length]
    walk_at "aw"
    exact h
theorem wsum_ge {way : List Str} {long slack : Int} (h0 : 0 ≤ long) (h1 : 0 ≤ slack) : ∀ {ls : List Ln}, (∀ l ∈ ls, 0 ≤ l.w) → ∀ s : Int, s ≤ ls.foldl (fun s l => if l.n ∈ way then s + long + l.w + slack else s) s
  | [], _, s => Int.le_refl _
  | l :: ls, h, s => by
    have hl := h l List.mem_cons_self
    have ih := wsum_ge (way := way) h0 h1 (ls := ls) (fun y hy => h y (List.mem_cons_of_mem _ hy)) (if l.n ∈ way then s + long + l.w + slack else s)
    rw [List.foldl_cons]
    split at ih
    · rw [if_pos (by assumption)]
      omega
    · rw [if_neg (by assumption)]
      omega
theorem wsum_le {way : List Str} {long slack c : Int} (hc : ∀ l : Ln, l.w < 4 → long + l.w + slack ≤ c) : ∀ {ls : List Ln}, (∀ l ∈ ls, l.w < 4) → ∀ s : Int, ls.foldl (fun s l => if l.n ∈ way then s + long + l.w + slack else s) s ≤ s + c * ((ls.filter fun l => decide (l.n ∈ way)).length : Nat)
  | [], _, s => by simp
  | l :: ls, h, s => by
    have hl := hc l (h l List.mem_cons_self)
    have ih := wsum_le (way := way) hc (ls := ls) (fun y hy => h y (List.mem_cons_of_mem _ hy)) (if l.n ∈ way then s + long + l.w + slack else s)
    rw [List.foldl_cons]
    by_cases hw : l.n ∈ way
    · rw [if_pos hw] at ih ⊢
      rw [List.filter_cons_of_pos (by simpa using hw), List.length_cons]
      refine Int.le_trans ih ?_
      rw [Int.natCast_add, Int.mul_add]
      omega
    · rw [if_neg hw] at ih ⊢
      rw [List.filter_cons_of_neg (by simpa using hw)]
      exact ih
theorem needV_bd {ls : List Ln} {long slack b : Int} (h0 : ∀ w : List Str, 0 ≤ wsum ls w long slack) : ∀ {ways : List (List Str)}, (∀ w ∈ ways, wsum ls w long slack ≤ b) → ∀ m : Int, m ≤ b → (m ≤ ways.foldl (fun m w => mx2 m (wsum ls w long slack)) m ∧ ways.foldl (fun m w => mx2 m (wsum ls w long slack)) m ≤ b) ∧ ∀ w ∈ ways, wsum ls w long slack ≤ ways.foldl (fun m w => mx2 m (wsum ls w long slack)) m
  | [], _, m, hm => ⟨⟨Int.le_refl _, hm⟩, fun w hw => by cases hw⟩
  | w :: ways, h, m, hm => by
    have e : m ≤ mx2 m (wsum ls w long slack) ∧ wsum ls w long slack ≤ mx2 m (wsum ls w long slack) ∧ mx2 m (wsum ls w long slack) ≤ b := by
      have := h w List.mem_cons_self
      unfold mx2
      split <;> omega
    obtain ⟨⟨i1, i2⟩, i3⟩ := needV_bd h0 (ways := ways) (fun y hy => h y (List.mem_cons_of_mem _ hy)) (mx2 m (wsum ls w long slack)) e.2.2
    rw [List.foldl_cons]
    refine ⟨⟨by omega, i2⟩, fun y hy => ?_⟩
    rcases List.mem_cons.mp hy with rfl | hy
    · omega
    · exact i3 y hy
structure Row where
  n : Str
  a : Str
  z : Str
  w1 : List (Str × Str)
  w2 : Option (List (Str × Str))
  every : Int
  long : Int
  rel : Int
  last : Int
def waysOf (a : Str) (w1 : List (Str × Str)) : Option (List (Str × Str)) → List (List Str)
  | some w => [flat a w1, flat a w]
  | none => [flat a w1]
def Row.ways (r : Row) : List (List Str) := waysOf r.a r.w1 r.w2
def Row.d (r : Row) : D := .tup [.str r.n, .tup (r.ways.map wayD), .int r.every, .int r.long, .int r.rel, .int r.last]
def inner (a : Str) (hs : List (Str × Str)) : List Str := ((flat a hs).drop 1).take ((flat a hs).length - 2)
theorem cut_inner {xs : List Str} (h : 2 ≤ xs.length) : cutD (xs.map D.str) (some 1) (some (-1)) = ((xs.drop 1).take (xs.length - 2)).map .str := by
  unfold cutD
  rw [List.length_map]
  have e1 : HT.sIx xs.length 0 (some 1) = 1 := by unfold HT.sIx; simp; omega
  have e2 : HT.sIx xs.length xs.length (some (-1)) = xs.length - 1 := by unfold HT.sIx; simp; omega
  rw [e1, e2, List.map_take, List.map_drop]
  rfl
theorem inner_mem {a x : Str} {hs : List (Str × Str)} (h : x ∈ inner a hs) : x ∈ flat a hs := List.mem_of_mem_drop (List.mem_of_mem_take h)
theorem every_at {r : Int} (h0 : 0 ≤ r) (h1 : r < 11) : ∃ e : Int, atI [D.int 12, .int 8, .int 20, .int 24, .int 10, .int 30, .int 15, .int 40, .int 60, .int 12, .int 120] r = some (.int e) ∧ e ∈ [(8 : Int), 10, 12, 15, 20, 24, 30, 40, 60, 120] := by
  obtain ⟨n, rfl⟩ := Int.eq_ofNat_of_zero_le h0
  have hn : n < 11 := by omega
  match n, hn with
  | 0, _ => exact ⟨12, rfl, by decide⟩
  | 1, _ => exact ⟨8, rfl, by decide⟩
  | 2, _ => exact ⟨20, rfl, by decide⟩
  | 3, _ => exact ⟨24, rfl, by decide⟩
  | 4, _ => exact ⟨10, rfl, by decide⟩
  | 5, _ => exact ⟨30, rfl, by decide⟩
  | 6, _ => exact ⟨15, rfl, by decide⟩
  | 7, _ => exact ⟨40, rfl, by decide⟩
  | 8, _ => exact ⟨60, rfl, by decide⟩
  | 9, _ => exact ⟨12, rfl, by decide⟩
  | 10, _ => exact ⟨120, rfl, by decide⟩
  | n + 11, h => omega
theorem every_bd {e : Int} (h : e ∈ [(8 : Int), 10, 12, 15, 20, 24, 30, 40, 60, 120]) : 8 ≤ e ∧ e ≤ 120 := by
  simp only [List.mem_cons, List.not_mem_nil, or_false] at h
  omega
theorem spare_at {e r : Int} (he : 8 ≤ e ∧ e ≤ 120) (h0 : 0 ≤ r) (h1 : r < 7) : ∃ s : Int, atI [D.int 0, .int 1, .int 2, .int (e / 2), .int 3, .int (e - 1), .int 6] r = some (.int s) ∧ 0 ≤ s ∧ s ≤ 119 := by
  obtain ⟨n, rfl⟩ := Int.eq_ofNat_of_zero_le h0
  have hn : n < 7 := by omega
  match n, hn with
  | 0, _ => exact ⟨0, rfl, by omega, by omega⟩
  | 1, _ => exact ⟨1, rfl, by omega, by omega⟩
  | 2, _ => exact ⟨2, rfl, by omega, by omega⟩
  | 3, _ => exact ⟨e / 2, rfl, by omega, by omega⟩
  | 4, _ => exact ⟨3, rfl, by omega, by omega⟩
  | 5, _ => exact ⟨e - 1, rfl, by omega, by omega⟩
  | 6, _ => exact ⟨6, rfl, by omega, by omega⟩
  | n + 7, h => omega
theorem slack_at {r : Int} (h0 : 0 ≤ r) (h1 : r < 8) : ∃ s : Int, atI [D.int 0, .int 1, .int 2, .int 0, .int 3, .int 1, .int 5, .int 7] r = some (.int s) ∧ 0 ≤ s ∧ s ≤ 7 := by
  obtain ⟨n, rfl⟩ := Int.eq_ofNat_of_zero_le h0
  have hn : n < 8 := by omega
  match n, hn with
  | 0, _ => exact ⟨0, rfl, by omega, by omega⟩
  | 1, _ => exact ⟨1, rfl, by omega, by omega⟩
  | 2, _ => exact ⟨2, rfl, by omega, by omega⟩
  | 3, _ => exact ⟨0, rfl, by omega, by omega⟩
  | 4, _ => exact ⟨3, rfl, by omega, by omega⟩
  | 5, _ => exact ⟨1, rfl, by omega, by omega⟩
  | 6, _ => exact ⟨5, rfl, by omega, by omega⟩
  | 7, _ => exact ⟨7, rfl, by omega, by omega⟩
  | n + 8, h => omega
structure RowOk (houses gates nodes ns : List Str) (es : List LE) (slack : Int) (r : Row) : Prop where
  a : r.a ∈ houses
  z : r.z ∈ houses
  az : r.a ≠ r.z
  w1 : WayOk gates nodes [] ns es r.a r.z r.w1
  w2 : ∀ w, r.w2 = some w → WayOk gates nodes (inner r.a r.w1) ns es r.a r.z w
  ev : r.every ∈ [(8 : Int), 10, 12, 15, 20, 24, 30, 40, 60, 120]
  lo : 1 ≤ r.long ∧ r.long ≤ 4 ∧ r.long ≤ r.every - slack
  re : 0 ≤ r.rel ∧ r.rel < r.every
  la : 1 ≤ r.last ∧ r.last ≤ 400
  /-- the last time when it was drawn: what the ways took then, and something to spare -/
  nl : ∃ (ns0 : List Str) (es0 : List LE) (h0 : Nat) (k0 : List Str) (spare : Int), Wld nodes ns0 es0 h0 k0 ∧ EsExt es0 es ∧ WayOk gates nodes [] ns0 es0 r.a r.z r.w1 ∧ (∀ w, r.w2 = some w → WayOk gates nodes (inner r.a r.w1) ns0 es0 r.a r.z w) ∧ 0 ≤ spare ∧ spare ≤ 119 ∧ r.last = needV (es0.map (·.2.2)) r.ways r.long slack + spare
theorem RowOk.ext {houses gates nodes ns ns' : List Str} {es es' : List LE} {slack : Int} {r : Row} (h : RowOk houses gates nodes ns es slack r) (x : EsExt es es') (n : ∀ y ∈ ns, y ∈ ns') : RowOk houses gates nodes ns' es' slack r := by
  obtain ⟨ns0, es0, h0, k0, sp, e1, e2, e3, e4, e5, e6, e7⟩ := h.nl
  exact ⟨h.a, h.z, h.az, h.w1.ext x n, fun w hw => (h.w2 w hw).ext x n, h.ev, h.lo, h.re, h.la, ns0, es0, h0, k0, sp, e1, e2.trans x, e3, e4, e5, e6, e7⟩
theorem argsF3 {ρ : Env} {d1 d2 d : D} {i : Nat} {av : AV} (h : ρ[i]? = some (some av)) (f : av.frz = some d) : argsF ρ [.val d1, .slot i, .val d2] = some [.fz d1, .fz d, .fz d2] := by
  have e : argF ρ (.slot i) = some (.fz d) := by
    unfold argF
    dsimp only
    rw [h]
    dsimp only
    rw [f]
    rfl
  show (match argF ρ (.val d1), argsF ρ [.slot i, .val d2] with | some x, some xs => some (x :: xs) | _, _ => none) = _
  have e2 : argsF ρ [.slot i, .val d2] = some [.fz d, .fz d2] := by
    show (match argF ρ (.slot i), argsF ρ [.val d2] with | some x, some xs => some (x :: xs) | _, _ => none) = _
    rw [e]
    rfl
  rw [e2]
  rfl
theorem frz_lns (es : List LE) : (lnsAV es).frz = some (.lst (es.map fun e => e.2.2.d)) := by
  show (frzs (es.map fun e => e.2.2.av e.2.1)).map D.lst = _
  rw [frzs_lns]
  rfl
theorem wsum_in {way : List Str} {long slack : Int} (h0 : 0 ≤ long) (h1 : 0 ≤ slack) : ∀ {ls : List Ln} {l : Ln}, (∀ l ∈ ls, 0 ≤ l.w) → l ∈ ls → l.n ∈ way → ∀ s : Int, s + long + l.w + slack ≤ ls.foldl (fun s l => if l.n ∈ way then s + long + l.w + slack else s) s
  | [], l, _, hl, _, s => by cases hl
  | y :: ls, l, h, hl, hw, s => by
    have hy := h y List.mem_cons_self
    have ht : ∀ l ∈ ls, 0 ≤ l.w := fun u hu => h u (List.mem_cons_of_mem _ hu)
    rw [List.foldl_cons]
    rcases List.mem_cons.mp hl with rfl | hl
    · rw [if_pos hw]
      exact wsum_ge h0 h1 ht _
    · have ih := wsum_in h0 h1 ht hl hw (if y.n ∈ way then s + long + y.w + slack else s)
      refine Int.le_trans ?_ ih
      split <;> omega
theorem row_A (T : Tx K mg base) {houses gates ns : List Str} {es : List LE} {h : Nat} {k : List Str} {slack : Int} {q : AV → List AV → Prop} {x : Exn → List AV → Prop} (W : Wld (houses ++ gates) ns es h k) (nd : (houses ++ gates).Nodup) (hh2 : 2 ≤ houses.length) (hh4 : houses.length ≤ 4) (hg3 : gates.length ≤ 3) (hk : k.length ≤ 40) (h48 : h + 6 ≤ 48) (s0 : 0 ≤ slack) (s7 : slack ≤ 7)
    (hq : ∀ r ns' es', Wld (houses ++ gates) ns' es' (h + 6) (k ++ [r.n]) → EsExt es es' → (∀ y ∈ ns, y ∈ ns') → RowOk houses gates (houses ++ gates) ns' es' slack r → q (.fz r.d) [.dr, .ol (ns'.map .str), lnsAV es', .fz (.lst (houses.map .str)), .fz (.lst (gates.map .str)), .fz (.int slack)]) :
    A_law_row T [.dr, .ol (ns.map .str), lnsAV es, .fz (.lst (houses.map .str)), .fz (.lst (gates.map .str)), .fz (.int slack)] q x := by
  refine A_law_row_of T _ _ _ _ _ _ ?_
  obtain ⟨ndh, ndg, ndx⟩ := List.nodup_append.mp nd
  have hkn : (houses ++ gates).length + k.length ≤ 80 := by rw [List.length_append]; omega
  unfold b_law_row
  walk_at "aw"
  rw [List.length_map]
  refine w_draw (by omega) (by omega) fun r1 r10 r11 => ?_
  obtain ⟨n1, rfl⟩ := Int.eq_ofNat_of_zero_le r10
  have hn1 : n1 < houses.length := by omega
  walk_at "aw"
  refine w_ixL (atI_map (List.getElem?_eq_getElem hn1)) ?_
  walk_at "aw"
  rw [List.length_map]
  refine w_draw (by omega) (by omega) fun r2 r20 r21 => ?_
  obtain ⟨n2, rfl⟩ := Int.eq_ofNat_of_zero_le r20
  walk_at "aw"
  try rw [List.length_map]
  refine w_oIC (by show (0 : Int) < _; omega) ?_
  have em : ((n1 : Int) + 1 + (n2 : Int)) % (houses.length : Int) = (((n1 + 1 + n2) % houses.length : Nat) : Int) := by
    rw [Int.natCast_emod]
    congr 1
  rw [em]
  have hm : (n1 + 1 + n2) % houses.length < houses.length := Nat.mod_lt _ (by omega)
  have hne : (n1 + 1 + n2) % houses.length ≠ n1 := fun e => by
    by_cases hlt : n1 + 1 + n2 < houses.length
    · rw [Nat.mod_eq_of_lt hlt] at e
      omega
    · have : (n1 + 1 + n2) % houses.length = n1 + 1 + n2 - houses.length := by
        rw [Nat.mod_eq_sub_mod (by omega), Nat.mod_eq_of_lt (by omega)]
      omega
  refine w_ixL (atI_map (List.getElem?_eq_getElem hm)) ?_
  have haz : houses[n1] ≠ houses[(n1 + 1 + n2) % houses.length] := fun e => hne ((List.getElem_inj ndh).mp e.symm)
  have haH : houses[n1] ∈ houses := List.getElem_mem _
  have hzH : houses[(n1 + 1 + n2) % houses.length] ∈ houses := List.getElem_mem _
  generalize houses[n1] = a at haz haH
  generalize houses[(n1 + 1 + n2) % houses.length] = z at haz hzH
  have hag : a ∉ gates := fun zz => ndx a haH a zz rfl
  have hzg : z ∉ gates := fun zz => ndx z hzH z zz rfl
  have haN : a ∈ houses ++ gates := List.mem_append_left _ haH
  have hzN : z ∈ houses ++ gates := List.mem_append_left _ hzH
  -- behind the ways
  have tail : ∀ (w1 : List (Str × Str)) (w2 : Option (List (Str × Str))) (ns1 : List Str) (es1 : List LE) (v6 : Option AV) (N : AEnds), Wld (houses ++ gates) ns1 es1 (h + 6) k → EsExt es es1 → (∀ y ∈ ns, y ∈ ns1) → WayOk gates (houses ++ gates) [] ns1 es1 a z w1 → (∀ w, w2 = some w → WayOk gates (houses ++ gates) (inner a w1) ns1 es1 a z w) →
      (∀ av ρ, N.rt av ρ = q av (mrg [.dr, .ol (ns.map .str), lnsAV es, .fz (.lst (houses.map .str)), .fz (.lst (gates.map .str)), .fz (.int slack)] (selM [true, true, true, false, false, false] ρ))) →
      b_law_row_1 T N [some .dr, some (.ol (ns1.map .str)), some (lnsAV es1), some (.fz (.lst (houses.map .str))), some (.fz (.lst (gates.map .str))), some (.fz (.int slack)), v6, some (.fz (.str a)), some (.fz (.str z)), some (.ol ((waysOf a w1 w2).map wayD)), none, none, none, none] := fun w1 w2 ns1 es1 v6 N W1 x1 sub1 k1 k2 hr => by
    obtain ⟨nx, rt, bk, ct', ex⟩ := N
    have ct1 := W1.ct
    have le1 := W1.le
    rw [List.length_append] at ct1
    unfold b_law_row_1
    walk_at "aw"
    refine w_draw (by omega) (by omega) fun r3 r30 r31 => ?_
    obtain ⟨ev, e1, e2⟩ := every_at r30 r31
    obtain ⟨ev8, ev120⟩ := every_bd e2
    refine w_ixL e1 ?_
    walk_at "aw"
    obtain ⟨mm, emm, m1, m4, mle⟩ : ∃ mm : Int, (if ev - slack < 4 then ev - slack else 4) = mm ∧ 1 ≤ mm ∧ mm ≤ 4 ∧ mm ≤ ev - slack := ⟨_, rfl, by split <;> omega, by split <;> omega, by split <;> omega⟩
    rw [emm]
    refine w_draw (by omega) (by omega) fun r4 r40 r41 => ?_
    walk_at "aw"
    refine name_A T (by omega) fun nm hg hn => ?_
    dsimp only [putA, List.set_cons_zero, List.set_cons_succ]
    walk_at "aw"
    refine w_draw (by omega) (by omega) fun r5 r50 r51 => ?_
    walk_at "aw"
    refine w_draw (by omega) (by omega) fun r6 r60 r61 => ?_
    obtain ⟨sp, e3, sp0, sp1⟩ := spare_at ⟨ev8, ev120⟩ r60 r61
    refine w_ixL e3 ?_
    walk_at "aw"
    refine w_callFQ (argsF3 rfl (frz_lns es1)) ?_
    rw [show (es1.map fun e => e.2.2.d) = (es1.map (·.2.2)).map Ln.d by rw [List.map_map]; rfl]
    refine need_A T ?_
    walk_at "aw"
    refine w_catT (Nat.le_of_ble_eq_true rfl) ?_
    rw [show rt _ _ = q _ _ from hr _ _]
    have W2 := W1.named hg hn
    have hw0 : ∀ l ∈ es1.map (·.2.2), 0 ≤ l.w := fun l hl => by
      obtain ⟨e, he, rfl⟩ := List.mem_map.mp hl
      exact (W1.ok e he).w0
    have hw4 : ∀ l ∈ es1.map (·.2.2), l.w < 4 := fun l hl => by
      obtain ⟨e, he, rfl⟩ := List.mem_map.mp hl
      exact (W1.ok e he).w4
    have ub : ∀ w : List Str, wsum (es1.map (·.2.2)) w (1 + r4) slack ≤ 14 * 14 := fun w => by
      have := wsum_le (way := w) (long := 1 + r4) (slack := slack) (c := 14) (fun l hl => by omega) hw4 0
      have l2 : ((es1.map (·.2.2)).filter fun l => decide (l.n ∈ w)).length ≤ 14 := Nat.le_trans (List.length_filter_le _ _) (by rw [List.length_map]; exact le1)
      unfold wsum
      omega
    have lb : ∀ w : List Str, 0 ≤ wsum (es1.map (·.2.2)) w (1 + r4) slack := fun w => wsum_ge (by omega) s0 hw0 0
    obtain ⟨⟨b1, b2⟩, b3⟩ := needV_bd (ls := es1.map (·.2.2)) (b := 14 * 14) lb (ways := waysOf a w1 w2) (fun w _ => ub w) 0 (by omega)
    have b4 : 1 ≤ needV (es1.map (·.2.2)) (waysOf a w1 w2) (1 + r4) slack := by
      have hin : flat a w1 ∈ waysOf a w1 w2 := by cases w2 <;> exact List.mem_cons_self
      refine Int.le_trans ?_ (b3 _ hin)
      obtain ⟨l1, l2⟩ := k1.len
      have ho := k1.ho
      cases w1 with
      | nil => simp at l1
      | cons p w1 =>
        obtain ⟨⟨e, he, en, _⟩, _⟩ := ho
        have := wsum_in (way := flat a (p :: w1)) (long := 1 + r4) (slack := slack) (by omega) s0 hw0 (List.mem_map.mpr ⟨e, he, rfl⟩) (by rw [en]; exact flat_mem.mpr (.inr ⟨p, List.mem_cons_self, .inl rfl⟩)) 0
        have w0 := (W1.ok e he).w0
        unfold wsum
        omega
    exact hq ⟨nm, a, z, w1, w2, ev, 1 + r4, r5, needV (es1.map (·.2.2)) (waysOf a w1 w2) (1 + r4) slack + sp⟩ (ns1 ++ [nm]) es1 W2 x1 (fun y hy => List.mem_append_left _ (sub1 y hy))
      ⟨haH, hzH, haz, k1.ext (.refl _) (fun y hy => List.mem_append_left _ hy), fun w hw => (k2 w hw).ext (.refl _) (fun y hy => List.mem_append_left _ hy), e2, ⟨by show 1 ≤ 1 + r4; omega, by show 1 + r4 ≤ 4; omega, by show 1 + r4 ≤ ev - slack; omega⟩, ⟨r50, r51⟩, ⟨by show 1 ≤ _ + sp; omega, by show needV (es1.map (·.2.2)) (waysOf a w1 w2) (1 + r4) slack + sp ≤ 400; have : needV (es1.map (·.2.2)) (waysOf a w1 w2) (1 + r4) slack ≤ 14 * 14 := b2; omega⟩,
        ns1, es1, h + 6, k, sp, W1, .refl _, k1, k2, sp0, sp1, rfl⟩
  walk_at "aw"
  refine way_A T (bl := []) (barred := []) W hkn (fun g hg => List.mem_append_right _ hg) ndg (by omega) haN hzN haz hag hzg (by omega) (by simp) (fun y hy => (by cases hy)) (by simp) fun w1 ns1 es1 W1 x1 sub1 k1 => ?_
  dsimp only [putA, List.set_cons_zero, List.set_cons_succ]
  walk_at "aw"
  refine w_draw (by omega) (by omega) fun r3 r30 r31 => ?_
  walk_at "aw"
  refine cond_dec (fun hc => ?_) (fun hc => ?_)
  · walk_at "aw"
    refine w_ixL (d := .tup ((flat a w1).map .str)) rfl ?_
    walk_at "aw"
    have fl := flat_len a w1
    have fl1 := k1.len.1
    rw [cut_inner (by omega)]
    refine way_A T (bl := w1.map (·.1)) (barred := inner a w1) W1 hkn (fun g hg => List.mem_append_right _ hg) ndg (by omega) haN hzN haz hag hzg (by omega) (by rw [List.length_map]; exact k1.len.2) (fun y hy => ?_) ?_ fun w2 ns2 es2 W2 x2 sub2 k2 => ?_
    · rcases flat_mem.mp (inner_mem hy) with rfl | ⟨p, hp, e | e⟩
      · exact ⟨W1.nn _ haN, .inr haN⟩
      · subst e
        exact ⟨(k1.li p hp).1, .inl (List.mem_map.mpr ⟨p, hp, rfl⟩)⟩
      · subst e
        have hpn : p.2 ∈ houses ++ gates := by
          obtain ⟨hs0, l, e0, hg0⟩ := k1.la
          rw [e0] at hp
          rcases List.mem_append.mp hp with hp | hp
          · exact List.mem_append_right _ (hg0 p hp).1
          · rw [List.mem_singleton.mp hp]
            exact hzN
        exact ⟨W1.nn _ hpn, .inr hpn⟩
    · have : (inner a w1).length ≤ (flat a w1).length := by
        unfold inner
        rw [List.length_take, List.length_drop]
        omega
      have := k1.len.2
      omega
    · dsimp only [putA, List.set_cons_zero, List.set_cons_succ]
      walk_at "aw"
      refine tail w1 (some w2) ns2 es2 _ _ (W2.mono (by omega)) (x1.trans x2) (fun y hy => sub2 y (sub1 y hy)) (k1.ext x2 sub2) (fun w hw => by cases hw; exact k2) ?_
      exact fun _ _ => rfl
  · walk_at "aw"
    refine tail w1 none ns1 es1 _ _ (W1.mono (by omega)) x1 sub1 k1 (fun w hw => by cases hw) ?_
    exact fun _ _ => rfl
structure Wrd where
  houses : List Str
  gates : List Str
  ls : List Ln
  rows : List Row
  slack : Int
  ns : List Str
def Wrd.d (w : Wrd) : D := .tup [.lst (w.houses.map .str), .lst (w.gates.map .str), .lst (w.ls.map Ln.d), .lst (w.rows.map Row.d), .int w.slack, .lst (w.ns.map .str)]
structure WorldOk (most : Nat) (w : Wrd) : Prop where
  nd : (w.houses ++ w.gates).Nodup
  h2 : 2 ≤ w.houses.length
  h4 : w.houses.length ≤ 4
  g3 : w.gates.length ≤ 3
  s0 : 0 ≤ w.slack
  s7 : w.slack ≤ 7
  r1 : 1 ≤ w.rows.length
  rm : w.rows.length ≤ most
  ex : ∃ es : List LE, w.ls = es.map (·.2.2) ∧ Wld (w.houses ++ w.gates) w.ns es 48 (w.rows.map (·.n)) ∧ ∀ r ∈ w.rows, RowOk w.houses w.gates (w.houses ++ w.gates) w.ns es w.slack r
def Wrd.av (ws : List V) (w : Wrd) : AV := .ut ws [.fz (.lst (w.houses.map .str)), .fz (.lst (w.gates.map .str)), .fz (.lst (w.ls.map Ln.d)), .fz (.lst (w.rows.map Row.d)), .fz (.int w.slack), .ol (w.ns.map .str)]
theorem w_retU {ρ : Env} {nx : Env → Prop} {rt : AV → Env → Prop} {bk ct : Env → Prop} {ex : Exn → Env → Prop} {i : Nat} {es : List D} {r : AL} (h : ρ[i]? = some (some (.ol es))) (q : r ρ (fun ds => ds.length < 1000 ∧ ∀ ws : List V, ws.length = ds.length + 1 → rt (.ut ws (ds.map .fz ++ [.ol es])) (ρ.set i none)) (fun x => ex x ρ)) : aRetU r i ⟨nx, rt, bk, ct, ex⟩ ρ := by
  unfold aRetU
  rw [h]
  exact q
theorem world_A (T : Tx K mg base) {most : Nat} {q : AV → Prop} {x : Exn → Prop} (h1 : 1 ≤ most) (h8 : most ≤ 8) (hq : ∀ w ws, ws.length = 6 → WorldOk most w → q (w.av ws)) : A_law_world T [.dr, .fz (.int most)] q x := by
  refine A_law_world_of T ?_
  unfold b_law_world
  walk_at "aw"
  refine w_draw (by omega) (by omega) fun r1 r10 r11 => ?_
  obtain ⟨n1, rfl⟩ := Int.eq_ofNat_of_zero_le r10
  walk_at "aw"
  refine ⟨⟨by omega, by omega⟩, ?_⟩
  rw [show ((2 : Int) + (n1 : Nat)).toNat = 2 + n1 by omega]
  refine compM_inv (fun i acc ρ => ∃ hs : List Str, acc = hs.map .str ∧ ρ = [some .dr, some (.fz (.int most)), some (.ol (hs.map .str)), none, none, none, none, none, none] ∧ hs.Nodup ∧ ∀ y ∈ hs, GoodN y) ⟨[], rfl, rfl, List.nodup_nil, fun y hy => (by cases hy)⟩ (by rw [rngD_len]; omega) ?_ ?_
  · rintro i d acc ρ K' ed la ⟨hs, rfl, rfl, nd, gd⟩ hK
    obtain ⟨hi, rfl⟩ := rngD_at ed
    rw [List.length_map] at la
    walk_at "aw"
    refine name_A T (by omega) fun nm hg hn => ?_
    dsimp only [putA, List.set_cons_zero, List.set_cons_succ]
    walk_at "aw"
    refine hK _ _ ⟨hs ++ [nm], by rw [List.map_append]; rfl, rfl, ?_, fun y hy => ?_⟩
    · refine List.nodup_append.mpr ⟨nd, by simp, fun a ha b hb e => ?_⟩
      rw [List.mem_singleton.mp hb] at e
      exact hn (e ▸ ha)
    · rcases List.mem_append.mp hy with hy | hy
      · exact gd y hy
      · rw [List.mem_singleton.mp hy]; exact hg
  rintro acc ρ lacc ⟨hs, rfl, rfl, ndh, gdh⟩
  rw [List.length_map, rngD_len] at lacc
  walk_at "aw"
  refine w_draw (by omega) (by omega) fun r2 r20 r21 => ?_
  obtain ⟨n2, rfl⟩ := Int.eq_ofNat_of_zero_le r20
  walk_at "aw"
  refine ⟨⟨by omega, by omega⟩, ?_⟩
  rw [Int.toNat_natCast]
  refine compM_inv (fun i acc ρ => ∃ gs : List Str, acc = gs.map .str ∧ ρ = [some .dr, some (.fz (.int most)), some (.ol ((hs ++ gs).map .str)), some (.fz (.lst (hs.map .str))), none, none, none, none, none] ∧ (hs ++ gs).Nodup ∧ ∀ y ∈ hs ++ gs, GoodN y) ⟨[], rfl, by rw [List.append_nil]; rfl, by rw [List.append_nil]; exact ndh, by rw [List.append_nil]; exact gdh⟩ (by rw [rngD_len]; omega) ?_ ?_
  · rintro i d acc ρ K' ed la ⟨gs, rfl, rfl, nd, gd⟩ hK
    obtain ⟨hi, rfl⟩ := rngD_at ed
    rw [List.length_map] at la
    walk_at "aw"
    refine name_A T (by rw [List.length_append]; omega) fun nm hg hn => ?_
    dsimp only [putA, List.set_cons_zero, List.set_cons_succ]
    walk_at "aw"
    refine hK _ _ ⟨gs ++ [nm], by rw [List.map_append]; rfl, by rw [← List.append_assoc]; rfl, ?_, fun y hy => ?_⟩
    · rw [← List.append_assoc]
      refine List.nodup_append.mpr ⟨nd, by simp, fun a ha b hb e => ?_⟩
      rw [List.mem_singleton.mp hb] at e
      exact hn (e ▸ ha)
    · rw [← List.append_assoc] at hy
      rcases List.mem_append.mp hy with hy | hy
      · exact gd y hy
      · rw [List.mem_singleton.mp hy]; exact hg
  rintro acc ρ lacc2 ⟨gs, rfl, rfl, nd, gd⟩
  rw [List.length_map, rngD_len] at lacc2
  walk_at "aw"
  refine w_draw (by omega) (by omega) fun r3 r30 r31 => ?_
  obtain ⟨slack, e1, s0, s7⟩ := slack_at r30 r31
  refine w_ixL e1 ?_
  walk_at "aw"
  intro ws hws
  obtain rfl : ws = [] := List.eq_nil_of_length_eq_zero hws
  walk_at "aw"
  refine w_draw (by omega) (by omega) fun r4 r40 r41 => ?_
  obtain ⟨n4, rfl⟩ := Int.eq_ofNat_of_zero_le r40
  walk_at "aw"
  refine ⟨⟨by omega, by omega⟩, ?_⟩
  rw [show ((1 : Int) + (n4 : Nat)).toNat = 1 + n4 by omega]
  refine compM_inv (fun i acc ρ => ∃ (rows : List Row) (ns : List Str) (es : List LE), acc = rows.map Row.d ∧ ρ = [some .dr, some (.fz (.int most)), some (.ol (ns.map .str)), some (.fz (.lst (hs.map .str))), some (.fz (.lst (gs.map .str))), some (.fz (.int slack)), some (lnsAV es), none, none] ∧ Wld (hs ++ gs) ns es (6 * i) (rows.map (·.n)) ∧ ∀ r ∈ rows, RowOk hs gs (hs ++ gs) ns es slack r) ?_ (by rw [rngD_len]; omega) ?_ ?_
  · refine ⟨[], hs ++ gs, [], rfl, rfl, ⟨nd, gd, fun y hy => hy, List.nodup_nil, List.nodup_nil, fun e he => (by cases he), Nat.zero_le _, fun e he => (by cases he), Nat.zero_le _, rfl, fun y hy => (by cases hy), fun e he => (by cases he), List.nodup_nil⟩, fun r hr => (by cases hr)⟩
  · rintro i d acc ρ K' ed la ⟨rows, ns, es, rfl, rfl, W, rok⟩ hK
    obtain ⟨hi, rfl⟩ := rngD_at ed
    rw [List.length_map] at la
    walk_at "aw"
    refine row_A T W nd (by omega) (by omega) (by omega) (by rw [List.length_map]; omega) (by omega) s0 s7 fun r ns' es' W' x' sub' ro => ?_
    dsimp only [putA, List.set_cons_zero, List.set_cons_succ]
    walk_at "aw"
    refine hK _ _ ⟨rows ++ [r], ns', es', by rw [List.map_append]; rfl, rfl, by rw [List.map_append]; exact W', fun y hy => ?_⟩
    rcases List.mem_append.mp hy with hy | hy
    · exact (rok y hy).ext x' sub'
    · rw [List.mem_singleton.mp hy]; exact ro
  rintro acc ρ lacc3 ⟨rows, ns, es, rfl, rfl, W, rok⟩
  rw [List.length_map, rngD_len] at lacc3
  rw [rngD_len] at W
  walk_at "aw"
  refine w_sealN rfl (frzs_lns es) ?_
  walk_at "aw"
  refine w_retU rfl ?_
  walk_at "aw"
  refine ⟨Nat.le_of_ble_eq_true rfl, fun ws hws => ?_⟩
  have hf := hq ⟨hs, gs, es.map (·.2.2), rows, slack, ns⟩ ws hws ⟨nd, by show 2 ≤ hs.length; omega, by show hs.length ≤ 4; omega, by show gs.length ≤ 3; omega, s0, s7, by show 1 ≤ rows.length; omega, by show rows.length ≤ most; omega, es, rfl, W.mono (by omega), rok⟩
  unfold Wrd.av at hf
  rw [show ((es.map (·.2.2)).map Ln.d) = es.map fun e => e.2.2.d by rw [List.map_map]; rfl] at hf
  exact hf
section
variable {ρ : Env} {nx : Env → Prop} {rt : AV → Env → Prop} {bk ct : Env → Prop} {ex : Exn → Env → Prop} {i k : Nat} {e : AE} {Q : D → Prop} {L : List D → Prop} {X : Exn → Prop}
theorem w_itS (q : e ρ (strQ fun x => L (chD x)) X) : aItS e ρ L X := q
theorem w_inS {n : Nat} {y : Str} (q : Q (.bl (decide (n ∈ y.cps.toList)))) : oInS (.str ⟨#[n]⟩) (.str y) Q := ⟨n, rfl, q⟩
end
theorem mem_letters {n : Nat} (h : 97 ≤ n ∧ n ≤ 122) : n ∈ (Str.ofString "abcdefghijklmnopqrstuvwxyz").cps.toList := by
  have key : ∀ k : Fin 26, 97 + k.val ∈ (Str.ofString "abcdefghijklmnopqrstuvwxyz").cps.toList := by decide +kernel
  have := key ⟨n - 97, by omega⟩
  rwa [show 97 + (⟨n - 97, by omega⟩ : Fin 26).val = n by show 97 + (n - 97) = n; omega] at this
theorem blsOf_true : ∀ (ds : List D), blsOf (ds.map fun _ => D.bl true) = some (ds.map fun _ => true)
  | [] => rfl
  | d :: ds => by
    show (blsOf (ds.map fun _ => D.bl true)).map (true :: ·) = _
    rw [blsOf_true ds]
    rfl
theorem w_allT {ds : List D} {Q : D → Prop} (q : Q (.bl true)) : oAll [.lst (ds.map fun _ => D.bl true)] Q := w_bls (blsOf_true ds) (by
  have : (ds.map fun _ => true).all id = true := by simp
  first | exact q | (rw [this]; exact q) | (simp; exact q))
theorem within_A (T : Tx K mg base) {v lo hi : Int} {q : AV → Prop} {x : Exn → Prop} (h1 : lo ≤ v) (h2 : v ≤ hi) (h : q (.fz (.bl true))) : A_within T [.fz (.int v), .fz (.int lo), .fz (.int hi)] q x := by
  refine A_within_of T ?_
  unfold b_within
  walk_at "aw"
  rw [decide_eq_true h1]
  walk_at "aw"
  rw [decide_eq_true h2]
  exact h
theorem check_A (T : Tx K mg base) {v lo hi : Int} {q : AV → Prop} {x : Exn → Prop} (h1 : lo ≤ v) (h2 : v ≤ hi) (h : q (.fz .non)) : A_check T [.fz (.int v), .fz (.int lo), .fz (.int hi)] q x := by
  refine A_check_of T ?_
  unfold b_check
  walk_at "aw"
  refine within_A T h1 h2 ?_
  walk_at "aw"
  exact h
theorem good_name_A (T : Tx K mg base) {n : Str} {q : AV → Prop} {x : Exn → Prop} (g : GoodN n) (h : q (.fz (.bl true))) : A_good_name T [.fz (.str n)] q x := by
  refine A_good_name_of T ?_
  obtain ⟨g1, g2, g3⟩ := g
  unfold b_good_name
  walk_at "aw"
  refine ⟨by omega, ?_⟩
  walk_at "aw"
  rw [decide_eq_false (show ¬ ((n.length : Nat) : Int) < 1 by omega)]
  walk_at "aw"
  refine ⟨by omega, ?_⟩
  walk_at "aw"
  rw [decide_eq_false (show ¬ ((n.length : Nat) : Int) > 8 by omega)]
  walk_at "aw"
  refine w_itS ?_
  walk_at "aw"
  refine comp_map (fun _ => .bl true) (by
    show 0 + (chD n).length ≤ 1000000
    unfold chD
    rw [List.length_map, Array.length_toList]
    have : n.cps.size ≤ 8 := g2
    omega) (fun d hd Q hQ => ?_) ?_
  · obtain ⟨c, hc, rfl⟩ := List.mem_map.mp hd
    walk_at "aw"
    refine w_inS ?_
    rw [decide_eq_true (mem_letters (g3 c hc))]
    exact hQ
  · rw [List.nil_append]
    walk_at "aw"
    exact w_allT h
theorem w_setLen {xs : List Str} {P : Nat → Prop} (h : xs.length ≤ 1000) (q : ∀ c : Nat, c ≤ xs.length → (c = xs.length ↔ xs.Nodup) → P c) : seqQ (fun ds => someQ (fun xs => xs.length ≤ 1000 ∧ ∀ c : Nat, c ≤ xs.length → (c = xs.length ↔ xs.Nodup) → P c) (strsOf ds)) (.tup (xs.map .str)) := by
  show someQ _ (strsOf (xs.map D.str))
  rw [strsOf_map]
  exact ⟨h, q⟩
theorem GoodN.sok {n : Str} (g : GoodN n) : PyData.strOk n = true := by
  unfold PyData.strOk
  rw [← Array.all_toList, List.all_eq_true]
  intro c hc
  have := (g.2.2 c hc).2
  exact decide_eq_true (by omega)
theorem okD_str {k : Nat} {n : Str} (g : GoodN n) : okD k (.str n) = true := by
  cases k <;> exact g.sok
mutual
theorem deq_refl : ∀ (n : Nat) (d : D), okD n d = true → deq d d = true
  | _, .int i, _ => beq_self_eq_true i
  | _, .bl i, _ => beq_self_eq_true i
  | _, .non, _ => rfl
  | _, .str x, _ => beq_self_eq_true x
  | n + 1, .tup ds, h => deqs_refl n ds h
  | n + 1, .lst ds, h => deqs_refl n ds h
  | 0, .tup ds, h => by cases h
  | 0, .lst ds, h => by cases h
  | n, .ty _, h => by cases n <;> cases h
  | n, .dK _ _, h => by cases n <;> cases h
  | n, .dT _ _, h => by cases n <;> cases h
  | n, .obj _ _ _, h => by cases n <;> cases h
  | n, .exn _ _ _ _ _, h => by cases n <;> cases h
  | n, .adr _, h => by cases n <;> cases h
theorem deqs_refl : ∀ (n : Nat) (ds : List D), okDs n ds = true → deqs ds ds = true
  | n, [], _ => rfl
  | n, d :: ds, h => by
    have h' : (okD n d && okDs n ds) = true := h
    rw [Bool.and_eq_true] at h'
    show (deq d d && deqs ds ds) = true
    rw [deq_refl n d h'.1, deqs_refl n ds h'.2]
    rfl
end
theorem w_callU {ρ : Env} {O : AV → Env → Prop} {X : Exn → Env → Prop} {A : AFM} {j i k : Nat} {ws : List V} {as : List AV} {ds : List D} (h1 : ρ[j]? = some (some .dr)) (h2 : ρ[i]? = some (some (.ut ws as))) (h3 : as[k]? = some (.ol ds)) (q : A [.dr, .ol ds] (fun av avs' => ∃ ds', avs' = [.dr, .ol ds'] ∧ O av (ρ.set i (some (.ut ws (as.set k (.ol ds')))))) (fun _ _ => False)) : mCallU A j i k ρ O X := by
  refine ⟨h1, ?_⟩
  unfold utQ
  rw [h2]
  dsimp only
  rw [h3]
  exact q
theorem w_ixE {ds : List D} {k : Int} {Q P : D → Prop} (h : ∃ d, atI ds k = some d ∧ P d) (q : ∀ d, P d → Q d) : oIxL (.lst ds) (.int k) Q := by
  obtain ⟨d, h1, h2⟩ := h
  exact w_ixL h1 (q d h2)
theorem sortedS_pw : ∀ {l : List Str}, PyProof.Rows.sortedS l = true → l.Pairwise (fun a b => a.cps.toList ≤ b.cps.toList)
  | [], _ => .nil
  | [x], _ => List.pairwise_singleton _ _
  | x :: y :: r, h => by
    have h' : (!PySem.Spec.ltCps y.cps.toList x.cps.toList && PyProof.Rows.risingS y r) = true := h
    rw [Bool.and_eq_true] at h'
    have ih := sortedS_pw (l := y :: r) h'.2
    have xy : x.cps.toList ≤ y.cps.toList := by
      have := h'.1
      rw [PyProof.Rows.ltCps_eq] at this
      simpa using this
    refine List.pairwise_cons.mpr ⟨fun z hz => ?_, ih⟩
    rcases List.mem_cons.mp hz with rfl | hz
    · exact xy
    · exact List.le_trans xy ((List.pairwise_cons.mp ih).1 z hz)
theorem str_ext {x y : Str} (h : x.cps.toList = y.cps.toList) : x = y := by
  cases x; cases y
  congr
  exact Array.toList_inj.mp h
theorem okDs_strs {k : Nat} {w : List Str} (g : ∀ y ∈ w, GoodN y) : okDs k (w.map .str) = true := by
  induction w with
  | nil => cases k <;> rfl
  | cons x w ih =>
    show (okD k (.str x) && okDs k (w.map .str)) = true
    rw [okD_str (g x List.mem_cons_self), ih fun y hy => g y (List.mem_cons_of_mem _ hy)]
    rfl
theorem dval_mem {α : Type} (f : α → D) : ∀ {ks : List (Str × α)} {x : Str} {a : α}, (ks.map (·.1)).Nodup → (x, a) ∈ ks → dval (ks.map fun p => (Sum.inr p.1 : Key)) (ks.map fun p => f p.2) (.inr x) = some (f a)
  | [], x, a, _, h => by cases h
  | p :: ks, x, a, nd, h => by
    obtain ⟨n1, n2⟩ := List.nodup_cons.mp (show (p.1 :: ks.map (·.1)).Nodup from nd)
    show (if (Sum.inr p.1 : Key) = .inr x then some (f p.2) else dval (ks.map fun p => (Sum.inr p.1 : Key)) (ks.map fun p => f p.2) (.inr x)) = _
    rcases List.mem_cons.mp h with e | h
    · rw [← e]
      exact if_pos rfl
    · rw [if_neg, dval_mem f n2 h]
      intro z
      have : p.1 = x := Sum.inr.inj z
      exact n1 (this ▸ List.mem_map.mpr ⟨(x, a), h, rfl⟩)
theorem comp_mapA {α : Type} {g : AG} {te : AE} {ρ : Env} {X : Exn → Prop} {Q : List D → Prop} {fd : α → D} {xs : List α} {acc : List D} (f : α → D) (hl : acc.length + xs.length ≤ 1000000)
    (h : ∀ (x : α), x ∈ xs → ∀ (Q : D → Prop), Q (f x) → g (fd x) ρ (fun ρ2 => te ρ2 Q X)) (q : Q (acc ++ xs.map f)) : aComp g aYes te ρ X (xs.map fd) acc Q := by
  induction xs generalizing acc with
  | nil => rwa [List.map_nil, List.append_nil] at q
  | cons d ds ih =>
    rw [List.length_cons] at hl
    refine h d List.mem_cons_self _ ⟨by omega, ih (by rw [List.length_append]; show acc.length + 1 + _ ≤ _; omega) (fun e he => h e (List.mem_cons_of_mem _ he)) ?_⟩
    rwa [List.append_assoc]
theorem cut_take {α : Type} (f : α → D) (xs : List α) (k : Nat) : cutD (xs.map f) none (some (k : Int)) = (xs.take k).map f := by
  unfold cutD
  rw [List.length_map]
  have e1 : HT.sIx xs.length 0 none = 0 := rfl
  have e2 : HT.sIx xs.length xs.length (some (k : Int)) = min k xs.length := by unfold HT.sIx; simp; omega
  rw [e1, e2, List.drop_zero, Nat.sub_zero, List.map_take]
  rcases Nat.le_total k xs.length with h | h
  · rw [Nat.min_eq_left h]
  · rw [Nat.min_eq_right h, List.take_of_length_le (by rw [List.length_map]; exact Nat.le_refl _), List.take_of_length_le (by rw [List.length_map]; exact h)]
theorem flat_strs (xs : List Str) : (xs.map D.str).all flatD = true := by
  rw [List.all_map]
  exact List.all_eq_true.mpr fun _ _ => rfl
structure NRow where
  s : List Str
  t : List Str
  w : Int
def NRow.d (r : NRow) : D := .tup [.tup (r.s.map .str), .tup (r.t.map .str), .int r.w]
abbrev NK := List (Str × Str)
abbrev NR := List (Str × NRow)
def kinK (ks : NK) : List Key := ks.map fun p => .inr p.1
def kinD (ks : NK) : List D := ks.map fun p => .str p.2
def rowK (rs : NR) : List Key := rs.map fun p => .inr p.1
def rowsD (rs : NR) : List D := rs.map fun p => p.2.d
def netAV (C dx : Addr) (ws : List V) (ks : NK) (rs : NR) : AV := .ob C dx ["kinds", "rows"] ws [.ok (kinK ks) (kinD ks), .ok (rowK rs) (rowsD rs)]
theorem mem_kin {α : Type} {x : Str} {ks : List (Str × α)} : (Sum.inr x : Key) ∈ (ks.map fun p => (Sum.inr p.1 : Key)) ↔ x ∈ ks.map (·.1) := by
  rw [List.mem_map, List.mem_map]
  constructor
  · rintro ⟨p, hp, e⟩
    exact ⟨p, hp, Sum.inr.inj e⟩
  · rintro ⟨p, hp, e⟩
    exact ⟨p, hp, by rw [e]⟩
theorem kin_kD (ks : NK) : (kinK ks).map kD = ks.map fun p => .str p.1 := by
  unfold kinK
  rw [List.map_map]
  rfl
theorem fresh_A (T : Tx K mg base) {dx : Addr} {ws : List V} {ks : NK} {rs : NR} {name : Str} {lined : Bool} {q : AV → List AV → Prop} {x : Exn → List AV → Prop} (g : GoodN name) (hn : name ∉ ks.map (·.1)) (hl : ks.length ≤ 1000) (h16 : (ks.filter fun p => decide (p.1 ∈ rs.map (·.1)) == lined).length < 16)
    (h : q (.fz .non) [netAV T.c_Net dx ws ks rs, .fz (.str name), .fz (.bl lined)]) : A_Net_fresh T [netAV T.c_Net dx ws ks rs, .fz (.str name), .fz (.bl lined)] q x := by
  refine A_Net_fresh_of T _ _ _ _ _ _ _ ?_
  unfold b_Net_fresh
  walk_at "aw"
  refine good_name_A T g ?_
  walk_at "aw"
  rw [show decide ((Sum.inr name : Key) ∈ kinK ks) = false from decide_eq_false (fun z => hn (mem_kin.mp z))]
  walk_at "aw"
  rw [kin_kD]
  refine comp_filt (fun p => decide (p.1 ∈ rs.map (·.1)) == lined) (fun p => .str p.1) (by show 0 + _ ≤ _; omega) (fun p hp Q A hT hF => ?_) ?_
  · walk_at "aw"
    have ed : decide ((Sum.inr p.1 : Key) ∈ rowK rs) = decide (p.1 ∈ rs.map (·.1)) := decide_eq_decide.mpr mem_kin
    rw [ed]
    generalize decide (p.1 ∈ rs.map (·.1)) = bb at hT hF
    cases bb <;> cases lined
    · walk_at "aw"
      exact hT rfl
    · walk_at "aw"
      exact hF rfl
    · walk_at "aw"
      exact hF rfl
    · walk_at "aw"
      exact hT rfl
  · rw [List.nil_append]
    walk_at "aw"
    rw [List.length_map, decide_eq_false (by omega)]
    walk_at "aw"
    exact h
theorem dputK_new {ks : List Key} {y : Key} (h : y ∉ ks) : dputK ks y = ks ++ [y] := if_neg h
theorem dputD_new : ∀ {ks : List Key} {ds : List D} {y : Key} {e : D}, ks.length = ds.length → y ∉ ks → dputD ks ds y e = ds ++ [e]
  | [], [], y, e, _, _ => rfl
  | [], _ :: _, y, e, l, _ => by cases l
  | k :: ks, [], y, e, l, _ => by cases l
  | k :: ks, d :: ds, y, e, l, h => by
    unfold dputD
    rw [if_neg fun z => h (by rw [z]; exact List.mem_cons_self), dputD_new (Nat.succ.inj l) fun z => h (List.mem_cons_of_mem _ z)]
    rfl
theorem kin_nd {α : Type} : ∀ {ks : List (Str × α)}, (ks.map (·.1)).Nodup → (ks.map fun p => (Sum.inr p.1 : Key)).Nodup
  | [], _ => List.nodup_nil
  | p :: ks, h => by
    obtain ⟨h1, h2⟩ := List.nodup_cons.mp h
    exact List.nodup_cons.mpr ⟨fun z => h1 (mem_kin.mp z), kin_nd h2⟩
theorem house_A (T : Tx K mg base) {dx : Addr} {ws : List V} {ks : NK} {rs : NR} {name : Str} {q : AV → List AV → Prop} {x : Exn → List AV → Prop} (g : GoodN name) (hn : name ∉ ks.map (·.1)) (hl : ks.length ≤ 1000) (nd : (ks.map (·.1)).Nodup) (h16 : (ks.filter fun p => decide (p.1 ∈ rs.map (·.1)) == false).length < 16)
    (h : q (.fz .non) [netAV T.c_Net dx ws (ks ++ [(name, ("house" : Str))]) rs, .fz (.str name)]) : A_Net_house T [netAV T.c_Net dx ws ks rs, .fz (.str name)] q x := by
  refine A_Net_house_of T _ _ _ _ _ _ ?_
  unfold b_Net_house
  walk_at "aw"
  refine fresh_A T g hn hl h16 ?_
  dsimp only [putA, List.set_cons_zero, List.set_cons_succ]
  walk_at "aw"
  refine ⟨by unfold kinK; rw [List.length_map]; omega, kin_nd nd, ?_⟩
  have nk : (Sum.inr name : Key) ∉ kinK ks := fun z => hn (mem_kin.mp z)
  rw [dputK_new nk, dputD_new (by unfold kinK kinD; rw [List.length_map, List.length_map]) nk]
  have e1 : kinK ks ++ [Sum.inr name] = kinK (ks ++ [(name, ("house" : Str))]) := by unfold kinK; rw [List.map_append]; rfl
  have e2 : kinD ks ++ [D.str "house"] = kinD (ks ++ [(name, ("house" : Str))]) := by unfold kinD; rw [List.map_append]; rfl
  rw [e1, e2]
  exact h
theorem gate_A (T : Tx K mg base) {dx : Addr} {ws : List V} {ks : NK} {rs : NR} {name : Str} {q : AV → List AV → Prop} {x : Exn → List AV → Prop} (g : GoodN name) (hn : name ∉ ks.map (·.1)) (hl : ks.length ≤ 1000) (nd : (ks.map (·.1)).Nodup) (h16 : (ks.filter fun p => decide (p.1 ∈ rs.map (·.1)) == false).length < 16)
    (h : q (.fz .non) [netAV T.c_Net dx ws (ks ++ [(name, ("gate" : Str))]) rs, .fz (.str name)]) : A_Net_gate T [netAV T.c_Net dx ws ks rs, .fz (.str name)] q x := by
  refine A_Net_gate_of T _ _ _ _ _ _ ?_
  unfold b_Net_gate
  walk_at "aw"
  refine fresh_A T g hn hl h16 ?_
  dsimp only [putA, List.set_cons_zero, List.set_cons_succ]
  walk_at "aw"
  refine ⟨by unfold kinK; rw [List.length_map]; omega, kin_nd nd, ?_⟩
  have nk : (Sum.inr name : Key) ∉ kinK ks := fun z => hn (mem_kin.mp z)
  rw [dputK_new nk, dputD_new (by unfold kinK kinD; rw [List.length_map, List.length_map]) nk]
  have e1 : kinK ks ++ [Sum.inr name] = kinK (ks ++ [(name, ("gate" : Str))]) := by unfold kinK; rw [List.map_append]; rfl
  have e2 : kinD ks ++ [D.str "gate"] = kinD (ks ++ [(name, ("gate" : Str))]) := by unfold kinD; rw [List.map_append]; rfl
  rw [e1, e2]
  exact h
def endsD (w : List Str) : D := .tup (w.map .str)
theorem line_A (T : Tx K mg base) {dx : Addr} {ws : List V} {ks : NK} {rs : NR} {name : Str} {s t : List Str} {wi : Int} {q : AV → List AV → Prop} {x : Exn → List AV → Prop} (g : GoodN name) (hn : name ∉ ks.map (·.1)) (hl : ks.length ≤ 1000) (nd : (ks.map (·.1)).Nodup) (ndr : (rs.map (·.1)).Nodup) (hrs : ∀ y ∈ rs.map (·.1), y ∈ ks.map (·.1)) (h16 : (ks.filter fun p => decide (p.1 ∈ rs.map (·.1)) == true).length < 16)
    (he : ∀ w ∈ [s, t], (1 ≤ w.length ∧ w.length ≤ 6) ∧ w.Nodup ∧ ∀ y ∈ w, y ∈ ks.map (·.1) ∧ y ∉ rs.map (·.1)) (w0 : 0 ≤ wi) (w30 : wi ≤ 30) (hlr : rs.length ≤ 1000)
    (h : ∀ s' t' : List Str, s'.Perm s → PyProof.Rows.sortedS s' = true → t'.Perm t → PyProof.Rows.sortedS t' = true → q (.fz .non) [netAV T.c_Net dx ws (ks ++ [(name, ("line" : Str))]) (rs ++ [(name, ⟨s', t', wi⟩)]), .fz (.str name), .fz (endsD s), .fz (endsD t), .fz (.int wi)]) :
    A_Net_line T [netAV T.c_Net dx ws ks rs, .fz (.str name), .fz (endsD s), .fz (endsD t), .fz (.int wi)] q x := by
  refine A_Net_line_of T _ _ _ _ _ _ _ _ _ ?_
  unfold b_Net_line
  walk_at "aw"
  refine fresh_A T g hn hl h16 ?_
  dsimp only [putA, List.set_cons_zero, List.set_cons_succ]
  walk_at "aw"
  show aLoop _ _ _ ([s, t].map endsD) _
  refine loop_map (fun i ρ => ∃ v5 v6 : Option AV, ρ = [some (netAV T.c_Net dx ws ks rs), some (.fz (.str name)), some (.fz (endsD s)), some (.fz (endsD t)), some (.fz (.int wi)), v5, v6]) ⟨_, _, rfl⟩ ?_ ?_
  · rintro i w ρ K' ew ⟨v5, v6, rfl⟩ hK
    obtain ⟨⟨l1, l6⟩, wnd, _⟩ := he w (List.mem_of_getElem? ew)
    unfold endsD
    walk_at "aw"
    rw [List.length_map, decide_eq_false (show ¬ ((w.length : Nat) : Int) < 1 by omega)]
    walk_at "aw"
    rw [List.length_map, decide_eq_false (show ¬ ((w.length : Nat) : Int) > 6 by omega)]
    walk_at "aw"
    refine w_setLen (xs := w) (by omega) fun c c1 c2 => ?_
    walk_at "aw"
    rw [List.length_map, c2.mpr wnd, decide_eq_false (show ¬ ((w.length : Nat) : Int) < ((w.length : Nat) : Int) by omega)]
    walk_at "aw"
    exact hK _ ⟨_, _, rfl⟩
  rintro ρ ⟨v5, v6, rfl⟩
  unfold netAV
  walk_at "aw"
  show aLoop _ _ _ ([s, t].map endsD) _
  refine loop_map (fun i ρ => ∃ v5 v6 : Option AV, ρ = [some (netAV T.c_Net dx ws ks rs), some (.fz (.str name)), some (.fz (endsD s)), some (.fz (endsD t)), some (.fz (.int wi)), v5, v6]) ⟨_, _, rfl⟩ ?_ ?_
  · rintro i w ρ K' ew ⟨v5, v6, rfl⟩ hK
    obtain ⟨_, _, wk⟩ := he w (List.mem_of_getElem? ew)
    unfold endsD
    walk_at "aw"
    refine loop_map (fun i ρ => ∃ v6 : Option AV, ρ = [some (netAV T.c_Net dx ws ks rs), some (.fz (.str name)), some (.fz (endsD s)), some (.fz (endsD t)), some (.fz (.int wi)), some (.fz (.tup (w.map .str))), v6]) ⟨_, rfl⟩ ?_ ?_
    · rintro j y ρ K2 ey ⟨v6, rfl⟩ hK2
      obtain ⟨k1, k2⟩ := wk y (List.mem_of_getElem? ey)
      unfold netAV
      walk_at "aw"
      rw [show decide ((Sum.inr y : Key) ∈ kinK ks) = true from decide_eq_true (mem_kin.mpr k1)]
      walk_at "aw"
      rw [show decide ((Sum.inr y : Key) ∈ rowK rs) = false from decide_eq_false (fun z => k2 (mem_kin.mp z))]
      walk_at "aw"
      exact hK2 _ ⟨_, rfl⟩
    · rintro ρ ⟨v6, rfl⟩
      exact hK _ ⟨_, _, rfl⟩
  rintro ρ ⟨v5, v6, rfl⟩
  unfold netAV
  walk_at "aw"
  refine check_A T w0 w30 ?_
  walk_at "aw"
  have nk : (Sum.inr name : Key) ∉ kinK ks := fun z => hn (mem_kin.mp z)
  have nr : (Sum.inr name : Key) ∉ rowK rs := fun z => hn (hrs _ (mem_kin.mp z))
  refine ⟨by unfold kinK; rw [List.length_map]; omega, kin_nd nd, ?_⟩
  rw [dputK_new nk, dputD_new (by unfold kinK kinD; rw [List.length_map, List.length_map]) nk]
  unfold endsD
  walk_at "aw"
  refine w_sortS fun s' p1 o1 => ?_
  walk_at "aw"
  refine w_sortS fun t' p2 o2 => ?_
  walk_at "aw"
  refine ⟨by unfold rowK; rw [List.length_map]; omega, kin_nd ndr, ?_⟩
  rw [dputK_new nr, dputD_new (by unfold rowK rowsD; rw [List.length_map, List.length_map]) nr]
  have hf := h s' t' p1 o1 p2 o2
  unfold netAV kinK kinD rowK rowsD at hf
  rw [List.map_append, List.map_append, List.map_append, List.map_append] at hf
  exact hf
theorem net_init_A (T : Tx K mg base) {O : AV → Prop} {X : Exn → Prop} (h : ∀ dx ws, O (netAV T.c_Net dx ws [] [])) : mkQ T.c_Net (A_Net_init T) O X [] := fun dx => by
  refine A_Net_init_of T _ _ _ _ _ ?_
  unfold b_Net_init
  walk_at "aw"
  refine w_fldSetN rfl ⟨rfl, Nat.le_of_ble_eq_true rfl⟩ fun v1 => ?_
  walk_at "aw"
  refine w_fldSetN rfl ⟨rfl, Nat.le_of_ble_eq_true rfl⟩ fun v2 => ?_
  exact ⟨rfl, h dx _⟩
structure RowOf (l : Ln) (p : Str × NRow) : Prop where
  n : p.1 = l.n
  s : p.2.s.Perm l.f
  so : PyProof.Rows.sortedS p.2.s = true
  t : p.2.t.Perm l.t
  to : PyProof.Rows.sortedS p.2.t = true
  w : p.2.w = l.w
theorem rowsOf_names : ∀ {ls : List Ln} {rs : NR}, Paired RowOf ls rs → rs.map (·.1) = ls.map (·.n)
  | _, _, .nil => rfl
  | _, _, .cons h t => by rw [List.map_cons, List.map_cons, rowsOf_names t, h.n]
theorem paired_snoc {α β : Type} {F : α → β → Prop} {xs : List α} {ys : List β} {x : α} {y : β} (h : Paired F xs ys) (k : F x y) : Paired F (xs ++ [x]) (ys ++ [y]) := Paired.app h (.cons k .nil)
def hk (xs : List Str) : NK := xs.map fun x => (x, ("house" : Str))
def gk (xs : List Str) : NK := xs.map fun x => (x, ("gate" : Str))
def lk (ls : List Ln) : NK := ls.map fun l => (l.n, ("line" : Str))
theorem hk_n (xs : List Str) : (hk xs).map (·.1) = xs := by unfold hk; rw [List.map_map]; exact List.map_id _
theorem gk_n (xs : List Str) : (gk xs).map (·.1) = xs := by unfold gk; rw [List.map_map]; exact List.map_id _
theorem lk_n (ls : List Ln) : (lk ls).map (·.1) = ls.map (·.n) := by unfold lk; rw [List.map_map]; rfl
theorem take_snoc {α : Type} {xs : List α} {i : Nat} {x : α} (h : xs[i]? = some x) : xs.take (i + 1) = xs.take i ++ [x] := by rw [List.take_add_one, h]; rfl
theorem take_nd {α : Type} {xs : List α} {i : Nat} {x : α} (nd : xs.Nodup) (h : xs[i]? = some x) : x ∉ xs.take i ∧ (xs.take i).Nodup := by
  have := take_snoc h
  have n2 : (xs.take (i + 1)).Nodup := (List.take_sublist _ _).nodup nd
  rw [this] at n2
  obtain ⟨a, b, c⟩ := List.nodup_append.mp n2
  exact ⟨fun z => c x z x (List.mem_singleton.mpr rfl) rfl, a⟩
theorem w_retAny {ρ : Env} {nx : Env → Prop} {rt : AV → Env → Prop} {bk ct : Env → Prop} {ex : Exn → Env → Prop} {i : Nat} {av : AV} (h : ρ[i]? = some (some av)) (n : av ≠ .dr) (q : rt av (ρ.set i none)) : aRetV i ⟨nx, rt, bk, ct, ex⟩ ρ := by
  unfold aRetV
  rw [h]
  cases av with
  | dr => exact absurd rfl n
  | _ => exact q
theorem law_net_A (T : Tx K mg base) {houses gates : List Str} {ls : List Ln} {d3 d4 d5 : D} {q : AV → Prop} {x : Exn → Prop} (nd : (houses ++ gates).Nodup) (gd : ∀ y ∈ houses ++ gates, GoodN y) (h4 : houses.length ≤ 4) (g3 : gates.length ≤ 3) (l14 : ls.length ≤ 14) (ln : (ls.map (·.n)).Nodup) (lg : ∀ l ∈ ls, GoodN l.n ∧ l.n ∉ houses ++ gates ∧ LnOk (houses ++ gates) l)
    (h : ∀ dx ws rs, Paired RowOf ls rs → q (netAV T.c_Net dx ws (hk houses ++ gk gates ++ lk ls) rs)) :
    A_law_net T [.fz (.tup [.lst (houses.map .str), .lst (gates.map .str), .lst (ls.map Ln.d), d3, d4, d5])] q x := by
  refine A_law_net_of T ?_
  obtain ⟨ndh, ndg, ndx⟩ := List.nodup_append.mp nd
  unfold b_law_net
  walk_at "aw"
  refine net_init_A T fun dx ws => ?_
  walk_at "aw"
  refine w_ixT rfl ?_
  walk_at "aw"
  refine loop_map (fun i ρ => ∃ v2 v3 v4 v5 : Option AV, ρ = [some (.fz (.tup [.lst (houses.map .str), .lst (gates.map .str), .lst (ls.map Ln.d), d3, d4, d5])), some (netAV T.c_Net dx ws (hk (houses.take i)) []), v2, v3, v4, v5]) ⟨_, _, _, _, rfl⟩ ?_ ?_
  · rintro i y ρ K' ey ⟨v2, v3, v4, v5, rfl⟩ hK
    obtain ⟨t1, t2⟩ := take_nd ndh ey
    have tl : (houses.take i).length ≤ houses.length := by rw [List.length_take]; omega
    have hl : (hk (houses.take i)).length = (houses.take i).length := by unfold hk; rw [List.length_map]
    unfold netAV
    walk_at "aw"
    refine house_A T (gd y (List.mem_append_left _ (List.mem_of_getElem? ey))) (by rw [hk_n]; exact t1) (by omega) (by rw [hk_n]; exact t2) (Nat.lt_of_le_of_lt (List.length_filter_le _ _) (by omega)) ?_
    dsimp only [putA, List.set_cons_zero, List.set_cons_succ]
    walk_at "aw"
    have ee : hk (houses.take (i + 1)) = hk (houses.take i) ++ [(y, ("house" : Str))] := by
      rw [take_snoc ey]
      unfold hk
      rw [List.map_append]
      rfl
    exact hK _ ⟨_, _, _, _, by rw [ee]⟩
  rintro ρ ⟨v2, v3, v4, v5, rfl⟩
  rw [List.take_length]
  unfold netAV
  walk_at "aw"
  refine w_ixT rfl ?_
  walk_at "aw"
  refine loop_map (fun i ρ => ∃ v2 v3 v4 v5 : Option AV, ρ = [some (.fz (.tup [.lst (houses.map .str), .lst (gates.map .str), .lst (ls.map Ln.d), d3, d4, d5])), some (netAV T.c_Net dx ws (hk houses ++ gk (gates.take i)) []), v2, v3, v4, v5]) ⟨_, _, _, _, by rw [List.take_zero]; unfold gk; rw [List.map_nil, List.append_nil]; rfl⟩ ?_ ?_
  · rintro i y ρ K' ey ⟨v2, v3, v4, v5, rfl⟩ hK
    obtain ⟨t1, t2⟩ := take_nd ndg ey
    have yg := List.mem_of_getElem? ey
    have tl : (gates.take i).length ≤ gates.length := by rw [List.length_take]; omega
    have hl : (hk houses ++ gk (gates.take i)).length = houses.length + (gates.take i).length := by unfold hk gk; rw [List.length_append, List.length_map, List.length_map]
    have nm : (hk houses ++ gk (gates.take i)).map (·.1) = houses ++ gates.take i := by rw [List.map_append, hk_n, gk_n]
    unfold netAV
    walk_at "aw"
    refine gate_A T (gd y (List.mem_append_right _ yg)) (by rw [nm]; exact fun z => (List.mem_append.mp z).elim (fun z => ndx y z y yg rfl) t1) (by omega) (by rw [nm]; exact List.nodup_append.mpr ⟨ndh, t2, fun a ha b hb => ndx a ha b (List.mem_of_mem_take hb)⟩) (Nat.lt_of_le_of_lt (List.length_filter_le _ _) (by omega)) ?_
    dsimp only [putA, List.set_cons_zero, List.set_cons_succ]
    walk_at "aw"
    have ee : hk houses ++ gk (gates.take (i + 1)) = hk houses ++ gk (gates.take i) ++ [(y, ("gate" : Str))] := by
      rw [take_snoc ey]
      unfold gk
      rw [List.map_append, List.append_assoc]
      rfl
    exact hK _ ⟨_, _, _, _, by rw [ee]⟩
  rintro ρ ⟨v2, v3, v4, v5, rfl⟩
  rw [List.take_length]
  unfold netAV
  walk_at "aw"
  refine w_ixT rfl ?_
  walk_at "aw"
  refine loop_map (fun i ρ => ∃ (rs : NR) (v2 v3 v4 v5 : Option AV), ρ = [some (.fz (.tup [.lst (houses.map .str), .lst (gates.map .str), .lst (ls.map Ln.d), d3, d4, d5])), some (netAV T.c_Net dx ws (hk houses ++ gk gates ++ lk (ls.take i)) rs), v2, v3, v4, v5] ∧ Paired RowOf (ls.take i) rs) ⟨[], _, _, _, _, by rw [List.take_zero]; unfold lk; rw [List.map_nil, List.append_nil]; rfl, .nil⟩ ?_ ?_
  · rintro i l ρ K' el ⟨rs, v2, v3, v4, v5, rfl, pr⟩ hK
    have ll := List.mem_of_getElem? el
    obtain ⟨g1, g2, ok⟩ := lg l ll
    have ei : i < ls.length := (List.getElem?_eq_some_iff.mp el).1
    have en : (ls.map (·.n))[i]? = some l.n := by rw [List.getElem?_map, el]; rfl
    obtain ⟨t1, t2⟩ := take_nd ln en
    rw [← List.map_take] at t1 t2
    have rn := rowsOf_names pr
    have rl : rs.length = (ls.take i).length := by rw [← pr.length]
    have tl : (ls.take i).length ≤ i := by rw [List.length_take]; omega
    have nm : (hk houses ++ gk gates ++ lk (ls.take i)).map (·.1) = houses ++ gates ++ (ls.take i).map (·.n) := by rw [List.map_append, List.map_append, hk_n, gk_n, lk_n]
    have nm2 : ∀ y ∈ (ls.take i).map (·.n), y ∉ houses ++ gates := fun y hy => by
      obtain ⟨l', hl', rfl⟩ := List.mem_map.mp hy
      exact (lg l' (List.mem_of_mem_take hl')).2.1
    have ndA : ((hk houses ++ gk gates ++ lk (ls.take i)).map (·.1)).Nodup := by rw [nm]; exact List.nodup_append.mpr ⟨nd, t2, fun a ha b hb e => nm2 b hb (e ▸ ha)⟩
    have lA : (hk houses ++ gk gates ++ lk (ls.take i)).length = houses.length + gates.length + (ls.take i).length := by
      unfold hk gk lk
      rw [List.length_append, List.length_append, List.length_map, List.length_map, List.length_map]
    unfold netAV Ln.d
    walk_at "aw"
    refine w_gL rfl ?_
    walk_at "aw"
    refine ⟨rfl, rfl, rfl, ?_⟩
    show callM _ _ _ _ [.slot 1, .val (.str l.n), .val (endsD l.f), .val (endsD l.t), .val (.int l.w)]
    walk_at "aw"
    refine line_A T g1 (by rw [nm]; exact fun z => (List.mem_append.mp z).elim g2 t1) (by omega) ndA (by rw [rn]; exact t2) (fun y hy => ?_) ?_ (fun w hw => ?_) ok.w0 (by have := ok.w4; omega) (by omega) fun s' t' p1 o1 p2 o2 => ?_
    · rw [nm]
      rw [rn] at hy
      exact List.mem_append_right _ hy
    · have c1 : ((hk houses ++ gk gates ++ lk (ls.take i)).filter fun p => decide (p.1 ∈ rs.map (·.1)) == true).length ≤ (rs.map (·.1)).length := by
        have nd2 : (((hk houses ++ gk gates ++ lk (ls.take i)).filter fun p => decide (p.1 ∈ rs.map (·.1)) == true).map (·.1)).Nodup := (List.Sublist.map _ List.filter_sublist).nodup ndA
        have := nodup_sub_len (m := rs.map (·.1)) nd2 fun y hy => by
          obtain ⟨p, hp, rfl⟩ := List.mem_map.mp hy
          have := (List.mem_filter.mp hp).2
          simpa using this
        rwa [List.length_map] at this
      rw [List.length_map] at c1
      omega
    · have key : ∀ y, y ∈ houses ++ gates → y ∈ (hk houses ++ gk gates ++ lk (ls.take i)).map (·.1) ∧ y ∉ rs.map (·.1) := fun y hy => ⟨by rw [nm]; exact List.mem_append_left _ hy, fun z => nm2 y (by rw [← rn]; exact z) hy⟩
      simp only [List.mem_cons, List.not_mem_nil, or_false] at hw
      rcases hw with rfl | rfl
      · exact ⟨⟨List.length_pos_iff.mpr ok.f0, ok.f6⟩, ok.fn, fun y hy => key y (ok.fi y hy)⟩
      · exact ⟨⟨List.length_pos_iff.mpr ok.t0, ok.t6⟩, ok.tn, fun y hy => key y (ok.ti y hy)⟩
    · dsimp only [putA, List.set_cons_zero, List.set_cons_succ]
      walk_at "aw"
      have ee : hk houses ++ gk gates ++ lk (ls.take (i + 1)) = hk houses ++ gk gates ++ lk (ls.take i) ++ [(l.n, ("line" : Str))] := by
        rw [take_snoc el]
        unfold lk
        rw [List.map_append, ← List.append_assoc]
        rfl
      exact hK _ ⟨rs ++ [(l.n, ⟨s', t', l.w⟩)], _, _, _, _, by rw [ee]; rfl, by
        rw [take_snoc el]
        exact paired_snoc pr ⟨rfl, p1, o1, p2, o2, rfl⟩⟩
  rintro ρ ⟨rs, v2, v3, v4, v5, rfl, pr⟩
  rw [List.take_length] at pr ⊢
  walk_at "aw"
  refine w_retAny rfl (fun z => (by cases z)) ?_
  exact h dx ws rs pr
def netFD (C : Addr) (ks : NK) (rs : NR) : D := .obj C ["kinds", "rows"] [.dK (kinK ks) (kinD ks), .dK (rowK rs) (rowsD rs)]
theorem names_F (T : Tx K mg base) {ks : NK} {rs : NR} {q : AV → Prop} {x : Exn → Prop} (h : ∀ ys : List Str, ys.Perm (ks.map (·.1)) → PyProof.Rows.sortedS ys = true → q (.ol (ys.map .str))) : A_Net_names T [.fz (netFD T.c_Net ks rs)] q x := by
  unfold netFD
  refine A_Net_names_of T ?_
  unfold b_Net_names
  walk_at "aw"
  show oSortD [.dK (ks.map fun p => (Sum.inr p.1 : Key)) _] _
  rw [show (ks.map fun p => (Sum.inr p.1 : Key)) = (ks.map (·.1)).map fun y => (Sum.inr y : Key) by rw [List.map_map]; rfl]
  refine w_sortD fun ys hp hs => ?_
  walk_at "aw"
  exact h ys hp hs
theorem len_F (T : Tx K mg base) {ks : NK} {rs : NR} {q : AV → Prop} {x : Exn → Prop} (h : q (.fz (.int (ks.length : Nat)))) : A_Net_len T [.fz (netFD T.c_Net ks rs)] q x := by
  unfold netFD
  refine A_Net_len_of T ?_
  unfold b_Net_len
  walk_at "aw"
  rw [show (kinK ks).length = ks.length from List.length_map ..]
  exact h
theorem drop_map {α : Type} (f : α → D) (n : Str) : ∀ ks : List (Str × α), dropKs (ks.map fun p => (Sum.inr p.1 : Key)) (.inr n) = ((ks.filter fun p => decide (p.1 ≠ n)).map fun p => (Sum.inr p.1 : Key)) ∧ dropDs (ks.map fun p => (Sum.inr p.1 : Key)) (ks.map fun p => f p.2) (.inr n) = (ks.filter fun p => decide (p.1 ≠ n)).map fun p => f p.2
  | [] => ⟨rfl, rfl⟩
  | p :: ks => by
    obtain ⟨i1, i2⟩ := drop_map f n ks
    rw [List.map_cons, List.map_cons]
    unfold dropKs dropDs
    by_cases h : p.1 = n
    · rw [if_pos (by rw [h]), if_pos (by rw [h]), List.filter_cons_of_neg (by simpa using h)]
      exact ⟨i1, i2⟩
    · have h' : ¬ (Sum.inr p.1 : Key) = .inr n := fun z => h (Sum.inr.inj z)
      rw [if_neg h', if_neg h', List.filter_cons_of_pos (by simpa using h), List.map_cons, List.map_cons, i1, i2]
      exact ⟨rfl, rfl⟩
structure NtOk (nodes : List Str) (ks : NK) (rs : NR) : Prop where
  nk : (ks.map (·.1)).Nodup
  nr : (rs.map (·.1)).Nodup
  sub : ∀ y ∈ rs.map (·.1), y ∈ ks.map (·.1)
  cov : ∀ y ∈ ks.map (·.1), y ∈ nodes ∨ y ∈ rs.map (·.1)
  nin : ∀ y ∈ nodes, y ∈ ks.map (·.1) ∧ y ∉ rs.map (·.1)
  rw : ∀ p ∈ rs, (∀ y ∈ p.2.s, y ∈ nodes) ∧ ∀ y ∈ p.2.t, y ∈ nodes
  gd : ∀ y ∈ nodes, GoodN y
  kok : ∀ p ∈ ks, okD 8 (.str p.2) = true
theorem nt_len {nodes : List Str} {ks : NK} {rs : NR} (h : NtOk nodes ks rs) : ks.length ≤ nodes.length + rs.length := by
  have := nodup_sub_len (m := nodes ++ rs.map (·.1)) h.nk fun y hy => List.mem_append.mpr (h.cov y hy)
  rwa [List.length_map, List.length_append, List.length_map] at this
theorem nt_16t {nodes : List Str} {ks : NK} {rs : NR} (h : NtOk nodes ks rs) : (ks.filter fun p => decide (p.1 ∈ rs.map (·.1)) == true).length ≤ rs.length := by
  have nd2 : ((ks.filter fun p => decide (p.1 ∈ rs.map (·.1)) == true).map (·.1)).Nodup := (List.Sublist.map _ List.filter_sublist).nodup h.nk
  have := nodup_sub_len (m := rs.map (·.1)) nd2 fun y hy => by
    obtain ⟨p, hp, rfl⟩ := List.mem_map.mp hy
    have := (List.mem_filter.mp hp).2
    simpa using this
  rwa [List.length_map, List.length_map] at this
theorem nt_16f {nodes : List Str} {ks : NK} {rs : NR} (h : NtOk nodes ks rs) : (ks.filter fun p => decide (p.1 ∈ rs.map (·.1)) == false).length ≤ nodes.length := by
  have nd2 : ((ks.filter fun p => decide (p.1 ∈ rs.map (·.1)) == false).map (·.1)).Nodup := (List.Sublist.map _ List.filter_sublist).nodup h.nk
  have := nodup_sub_len (m := nodes) nd2 fun y hy => by
    obtain ⟨p, hp, rfl⟩ := List.mem_map.mp hy
    obtain ⟨h1, h2⟩ := List.mem_filter.mp hp
    have h2' : p.1 ∉ rs.map (·.1) := by simpa using h2
    exact (h.cov p.1 (List.mem_map.mpr ⟨p, h1, rfl⟩)).resolve_right h2'
  rwa [List.length_map] at this
theorem okDs_map {α : Type} {f : α → D} : ∀ {l : List α}, (∀ p ∈ l, okD 8 (f p) = true) → okDs 8 (l.map f) = true
  | [], _ => rfl
  | p :: l, h => by
    show (okD 8 (f p) && okDs 8 (l.map f)) = true
    rw [h p List.mem_cons_self, okDs_map fun q hq => h q (List.mem_cons_of_mem _ hq)]
    rfl
theorem nd_snoc {xs : List Str} {y : Str} (nd : xs.Nodup) (h : y ∉ xs) : (xs ++ [y]).Nodup :=
  List.nodup_append.mpr ⟨nd, List.pairwise_singleton _ _, fun a ha b hb e => h (by rw [← List.mem_singleton.mp hb, ← e]; exact ha)⟩
theorem NtOk.node {nodes : List Str} {ks : NK} {rs : NR} {name kd : Str} (h : NtOk nodes ks rs) (g : GoodN name) (hn : name ∉ ks.map (·.1)) (hk : okD 8 (.str kd) = true) : NtOk (nodes ++ [name]) (ks ++ [(name, kd)]) rs := by
  have e : (ks ++ [(name, kd)]).map (·.1) = ks.map (·.1) ++ [name] := by rw [List.map_append]; rfl
  refine ⟨by rw [e]; exact nd_snoc h.nk hn, h.nr, fun y hy => by rw [e]; exact List.mem_append_left _ (h.sub y hy), fun y hy => ?_, fun y hy => ?_, fun p hp => ⟨fun y hy => List.mem_append_left _ ((h.rw p hp).1 y hy), fun y hy => List.mem_append_left _ ((h.rw p hp).2 y hy)⟩, fun y hy => ?_, fun p hp => ?_⟩
  · rw [e] at hy
    rcases List.mem_append.mp hy with hy | hy
    · exact (h.cov y hy).imp (List.mem_append_left _) id
    · exact .inl (List.mem_append_right _ hy)
  · rw [e]
    rcases List.mem_append.mp hy with hy | hy
    · exact ⟨List.mem_append_left _ (h.nin y hy).1, (h.nin y hy).2⟩
    · exact ⟨List.mem_append_right _ hy, fun z => hn (by rw [← List.mem_singleton.mp hy]; exact h.sub y z)⟩
  · rcases List.mem_append.mp hy with hy | hy
    · exact h.gd y hy
    · rw [List.mem_singleton.mp hy]; exact g
  · rcases List.mem_append.mp hp with hp | hp
    · exact h.kok p hp
    · rw [List.mem_singleton.mp hp]; exact hk
theorem NtOk.line {nodes : List Str} {ks : NK} {rs : NR} {name kd : Str} {r : NRow} (h : NtOk nodes ks rs) (hn : name ∉ ks.map (·.1)) (hk : okD 8 (.str kd) = true) (hs : ∀ y ∈ r.s, y ∈ nodes) (ht : ∀ y ∈ r.t, y ∈ nodes) : NtOk nodes (ks ++ [(name, kd)]) (rs ++ [(name, r)]) := by
  have e : (ks ++ [(name, kd)]).map (·.1) = ks.map (·.1) ++ [name] := by rw [List.map_append]; rfl
  have e2 : (rs ++ [(name, r)]).map (·.1) = rs.map (·.1) ++ [name] := by rw [List.map_append]; rfl
  refine ⟨by rw [e]; exact nd_snoc h.nk hn, by rw [e2]; exact nd_snoc h.nr fun z => hn (h.sub _ z), fun y hy => ?_, fun y hy => ?_, fun y hy => ?_, fun p hp => ?_, h.gd, fun p hp => ?_⟩
  · rw [e2] at hy
    rw [e]
    rcases List.mem_append.mp hy with hy | hy
    · exact List.mem_append_left _ (h.sub y hy)
    · exact List.mem_append_right _ hy
  · rw [e] at hy
    rw [e2]
    rcases List.mem_append.mp hy with hy | hy
    · exact (h.cov y hy).imp id (List.mem_append_left _)
    · exact .inr (List.mem_append_right _ hy)
  · rw [e, e2]
    refine ⟨List.mem_append_left _ (h.nin y hy).1, fun z => ?_⟩
    rcases List.mem_append.mp z with z | z
    · exact (h.nin y hy).2 z
    · exact hn (by rw [← List.mem_singleton.mp z]; exact (h.nin y hy).1)
  · rcases List.mem_append.mp hp with hp | hp
    · exact h.rw p hp
    · rw [List.mem_singleton.mp hp]; exact ⟨hs, ht⟩
  · rcases List.mem_append.mp hp with hp | hp
    · exact h.kok p hp
    · rw [List.mem_singleton.mp hp]; exact hk
theorem mem_less {α : Type} {n y : Str} {ks : List (Str × α)} : y ∈ (ks.filter fun p => decide (p.1 ≠ n)).map (·.1) ↔ y ∈ ks.map (·.1) ∧ y ≠ n := by
  rw [List.mem_map, List.mem_map]
  constructor
  · rintro ⟨p, hp, rfl⟩
    obtain ⟨h1, h2⟩ := List.mem_filter.mp hp
    exact ⟨⟨p, h1, rfl⟩, of_decide_eq_true h2⟩
  · rintro ⟨⟨p, hp, rfl⟩, h2⟩
    exact ⟨p, List.mem_filter.mpr ⟨hp, decide_eq_true h2⟩, rfl⟩
theorem NtOk.less {nodes : List Str} {ks : NK} {rs : NR} {name : Str} (h : NtOk nodes ks rs) (hn : name ∈ rs.map (·.1)) : NtOk nodes (ks.filter fun p => decide (p.1 ≠ name)) (rs.filter fun p => decide (p.1 ≠ name)) := by
  refine ⟨(List.Sublist.map _ List.filter_sublist).nodup h.nk, (List.Sublist.map _ List.filter_sublist).nodup h.nr, fun y hy => ?_, fun y hy => ?_, fun y hy => ?_, fun p hp => h.rw p (List.mem_filter.mp hp).1, h.gd, fun p hp => h.kok p (List.mem_filter.mp hp).1⟩
  · obtain ⟨h1, h2⟩ := mem_less.mp hy
    exact mem_less.mpr ⟨h.sub y h1, h2⟩
  · obtain ⟨h1, h2⟩ := mem_less.mp hy
    exact (h.cov y h1).imp id fun z => mem_less.mpr ⟨z, h2⟩
  · exact ⟨mem_less.mpr ⟨(h.nin y hy).1, fun z => (h.nin y hy).2 (z ▸ hn)⟩, fun z => (h.nin y hy).2 (mem_less.mp z).1⟩
def Unl (ks : NK) (rs : NR) (ks' : NK) (rs' : NR) : Prop := ks.length ≠ ks'.length ∨ rs.length ≠ rs'.length ∨ ∃ n r r', (n, r) ∈ rs ∧ (n, r') ∈ rs' ∧ r.w ≠ r'.w
theorem Unl.symm {ks ks' : NK} {rs rs' : NR} (h : Unl ks rs ks' rs') : Unl ks' rs' ks rs := by
  rcases h with h | h | ⟨n, r, r', h1, h2, h3⟩
  · exact .inl fun z => h z.symm
  · exact .inr (.inl fun z => h z.symm)
  · exact .inr (.inr ⟨n, r', r, h2, h1, fun z => h3 z.symm⟩)
theorem house_B (T : Tx K mg base) {nodes : List Str} {dx : Addr} {ws : List V} {ks : NK} {rs : NR} {name : Str} {q : AV → List AV → Prop} {x : Exn → List AV → Prop} (o : NtOk nodes ks rs) (n15 : nodes.length ≤ 15) (r900 : rs.length ≤ 900) (g : GoodN name) (hn : name ∉ ks.map (·.1))
    (h : q (.fz .non) [netAV T.c_Net dx ws (ks ++ [(name, ("house" : Str))]) rs, .fz (.str name)]) : A_Net_house T [netAV T.c_Net dx ws ks rs, .fz (.str name)] q x :=
  house_A T g hn (by have := nt_len o; omega) o.nk (by have := nt_16f o; omega) h
theorem gate_B (T : Tx K mg base) {nodes : List Str} {dx : Addr} {ws : List V} {ks : NK} {rs : NR} {name : Str} {q : AV → List AV → Prop} {x : Exn → List AV → Prop} (o : NtOk nodes ks rs) (n15 : nodes.length ≤ 15) (r900 : rs.length ≤ 900) (g : GoodN name) (hn : name ∉ ks.map (·.1))
    (h : q (.fz .non) [netAV T.c_Net dx ws (ks ++ [(name, ("gate" : Str))]) rs, .fz (.str name)]) : A_Net_gate T [netAV T.c_Net dx ws ks rs, .fz (.str name)] q x :=
  gate_A T g hn (by have := nt_len o; omega) o.nk (by have := nt_16f o; omega) h
theorem line_B (T : Tx K mg base) {nodes : List Str} {dx : Addr} {ws : List V} {ks : NK} {rs : NR} {name : Str} {s t : List Str} {wi : Int} {q : AV → List AV → Prop} {x : Exn → List AV → Prop} (o : NtOk nodes ks rs) (n15 : nodes.length ≤ 900) (r900 : rs.length ≤ 15) (g : GoodN name) (hn : name ∉ ks.map (·.1))
    (he : ∀ w ∈ [s, t], (1 ≤ w.length ∧ w.length ≤ 6) ∧ w.Nodup ∧ ∀ y ∈ w, y ∈ nodes) (w0 : 0 ≤ wi) (w30 : wi ≤ 30)
    (h : ∀ s' t' : List Str, s'.Perm s → PyProof.Rows.sortedS s' = true → t'.Perm t → PyProof.Rows.sortedS t' = true → q (.fz .non) [netAV T.c_Net dx ws (ks ++ [(name, ("line" : Str))]) (rs ++ [(name, ⟨s', t', wi⟩)]), .fz (.str name), .fz (endsD s), .fz (endsD t), .fz (.int wi)]) :
    A_Net_line T [netAV T.c_Net dx ws ks rs, .fz (.str name), .fz (endsD s), .fz (endsD t), .fz (.int wi)] q x :=
  line_A T g hn (by have := nt_len o; omega) o.nk o.nr o.sub (by have := nt_16t o; omega) (fun w hw => ⟨(he w hw).1, (he w hw).2.1, fun y hy => o.nin y ((he w hw).2.2 y hy)⟩) w0 w30 (by omega) h
section
variable {ρ : Env} {nx : Env → Prop} {rt : AV → Env → Prop} {bk ct : Env → Prop} {ex : Exn → Env → Prop}
theorem w_dPopF {i n : Nat} {C dx : Addr} {f : Str} {ns : List Str} {ws : List V} {as : List AV} {ky : AE} {ks : List Key} {ds : List D} (h1 : ρ[i]? = some (some (.ob C dx ns ws as))) (h2 : fldIx f ns 0 = some n) (h3 : as[n]? = some (.ok ks ds))
    (q : ky ρ (fun y => someQ (fun kk => (dval ks ds kk).isSome = true ∧ nx (ρ.set i (some (.ob C dx ns ws (as.set n (.ok (dropKs ks kk) (dropDs ks ds kk))))))) (keyD y)) (fun x => ex x ρ)) : aDPopF i C f ky ⟨nx, rt, bk, ct, ex⟩ ρ := by
  unfold aDPopF
  refine w_obf h1 h2 h3 ?_
  show ky ρ _ _
  have this : (fun y => someQ (fun kk => obfQ ρ i C f fun dx ns ws as n av => okQ (fun ks ds => (dval ks ds kk).isSome = true ∧ nx (ρ.set i (some (.ob C dx ns ws (as.set n (.ok (dropKs ks kk) (dropDs ks ds kk))))))) av) (keyD y)) = (fun y => someQ (fun kk => (dval ks ds kk).isSome = true ∧ nx (ρ.set i (some (.ob C dx ns ws (as.set n (.ok (dropKs ks kk) (dropDs ks ds kk))))))) (keyD y)) := by
    funext y
    congr 1
    funext kk
    unfold obfQ obQ
    rw [h1]
    dsimp only
    rw [h2]
    dsimp only
    rw [h3]
    exact propext ⟨fun h => h.2, fun h => ⟨rfl, h⟩⟩
  dsimp only
  rw [this]
  exact q
end
theorem w_someQ {α : Type} {P : α → Prop} {x : α} (q : P x) : someQ P (some x) := q
theorem w_sortR {rs : NR} {es : List D} {O : AV → Prop} (q : ∀ ys : List Str, ys.Perm (rs.map (·.1)) → PyProof.Rows.sortedS ys = true → O (.ol (ys.map .str))) : oSortD [.dK (rowK rs) es] O := by
  rw [show rowK rs = (rs.map (·.1)).map fun y => (Sum.inr y : Key) from by unfold rowK; rw [List.map_map]; rfl]
  exact w_sortD q
theorem pairedMem {α β : Type} {F : α → β → Prop} : ∀ {xs : List α} {ys : List β} {x : α}, Paired F xs ys → x ∈ xs → ∃ y ∈ ys, F x y
  | _, _, x, .nil, h => by cases h
  | _, _, x, .cons h t, k => by
    rcases List.mem_cons.mp k with rfl | k
    · exact ⟨_, List.mem_cons_self, h⟩
    · obtain ⟨y, hy, f⟩ := pairedMem t k
      exact ⟨y, List.mem_cons_of_mem _ hy, f⟩
theorem okD_house {k : Nat} : okD k (.str "house") = true := by
  have h : PyData.strOk ("house" : Str) = true := by decide +kernel
  cases k <;> exact h
theorem okD_gate {k : Nat} : okD k (.str "gate") = true := by
  have h : PyData.strOk ("gate" : Str) = true := by decide +kernel
  cases k <;> exact h
theorem okD_line {k : Nat} : okD k (.str "line") = true := by
  have h : PyData.strOk ("line" : Str) = true := by decide +kernel
  cases k <;> exact h
theorem w_namesF (T : Tx K mg base) {ρ : Env} {i : Nat} {dx : Addr} {ws : List V} {ks : NK} {rs : NR} {Q : D → Prop} {X : Exn → Prop} (h1 : ρ[i]? = some (some (netAV T.c_Net dx ws ks rs))) (q : ∀ ys : List Str, ys.Perm (ks.map (·.1)) → PyProof.Rows.sortedS ys = true → Q (.lst (ys.map .str))) : aFz (aMeF0 T.c_Net "names" (A_Net_names T) i aArgs) ρ Q X := by
  refine w_fz (w_obQ h1 ⟨rfl, ?_⟩)
  refine w_args (w_callFO (avs := [.fz (netFD T.c_Net ks rs)]) ?_ ?_)
  · unfold argsF argF
    dsimp only
    rw [h1]
    rfl
  · exact names_F T fun ys p o => ⟨by rw [List.all_map]; exact List.all_eq_true.mpr fun _ _ => rfl, q ys p o⟩
def letB (c : Nat) : Bool := decide (c ∈ (Str.ofString "abcdefghijklmnopqrstuvwxyz").cps.toList)
def gdB (n : Str) : Bool := decide (1 ≤ n.length) && decide (n.length ≤ 8) && n.cps.toList.all letB
theorem blsOf_all {α : Type} (p : α → Bool) : ∀ xs : List α, blsOf (xs.map fun x => D.bl (p x)) = some (xs.map p)
  | [] => rfl
  | x :: xs => by
    show (blsOf (xs.map fun x => D.bl (p x))).map (p x :: ·) = _
    rw [blsOf_all p xs]
    rfl
theorem w_allB {α : Type} {xs : List α} {p : α → Bool} {Q : D → Prop} (q : Q (.bl (xs.all p))) : oAll [.lst (xs.map fun x => D.bl (p x))] Q := w_bls (blsOf_all p xs) (by
  have e : (xs.map p).all id = xs.all p := by rw [List.all_map]; rfl
  first | exact q | (rw [e]; exact q))
theorem good_name_X (T : Tx K mg base) {n : Str} {q : AV → Prop} {x : Exn → Prop} (hl : n.length ≤ 1000) (h : q (.fz (.bl (gdB n)))) : A_good_name T [.fz (.str n)] q x := by
  refine A_good_name_of T ?_
  unfold gdB at h
  unfold b_good_name
  walk_at "aw"
  refine ⟨by omega, ?_⟩
  walk_at "aw"
  refine cond_dec (fun h1 => ?_) (fun h1 => ?_)
  · walk_at "aw"
    rw [decide_eq_false (show ¬ 1 ≤ n.length by omega)] at h
    exact h
  walk_at "aw"
  refine ⟨by omega, ?_⟩
  walk_at "aw"
  refine cond_dec (fun h2 => ?_) (fun h2 => ?_)
  · walk_at "aw"
    rw [decide_eq_false (show ¬ n.length ≤ 8 by omega), Bool.and_false] at h
    exact h
  rw [decide_eq_true (show 1 ≤ n.length by omega), decide_eq_true (show n.length ≤ 8 by omega), Bool.true_and, Bool.true_and] at h
  walk_at "aw"
  refine w_itS ?_
  walk_at "aw"
  unfold chD
  refine comp_mapA (xs := n.cps.toList) (fun c => .bl (letB c)) (by
    show 0 + n.cps.toList.length ≤ 1000000
    rw [Array.length_toList]
    have : n.cps.size ≤ 1000 := hl
    omega) (fun c hc Q hQ => ?_) ?_
  · walk_at "aw"
    refine w_inS ?_
    exact hQ
  · rw [List.nil_append]
    walk_at "aw"
    refine w_allB ?_
    exact h
theorem exmS {T : Tx K mg base} {nm : Str} {D : Addr} (h : IsErr T nm D) : PySem.W.exmOne K (.ref D) (.ref D) = some true :=
  PySem.W.exm_ref h.ok.1.base h.ok.1.hd h.ok.1.ty (by rw [h.ok.1.sub, mem_mro]; simp)
theorem exmX {T : Tx K mg base} {nm nm' : Str} {C D : Addr} (h : IsErr T nm C) (g : IsErr T nm' D) (n : D ≠ C) : PySem.W.exmOne K (.ref C) (.ref D) = some false :=
  PySem.W.exm_ref g.ok.1.base g.ok.1.hd g.ok.1.ty (by rw [h.ok.1.sub, mem_mro, decide_eq_false fun z => z.elim n g.ok.2])
theorem exmN {T : Tx K mg base} {nm : Str} {C : Addr} (h : IsErr T nm C) : PySem.W.exmOne K (.ref C) (.ref T.c_NetError) = some true := h.ok.1.exm T.k_base T.k_dict T.k_type
def FreshX (T : Tx K mg base) (dx : Addr) (ws : List V) (ks : NK) (rs : NR) (name : Str) (e : Exn) : Prop := ∀ (lined : Bool) (q : AV → List AV → Prop) (x : Exn → List AV → Prop), x e [netAV T.c_Net dx ws ks rs, .fz (.str name), .fz (.bl lined)] → A_Net_fresh T [netAV T.c_Net dx ws ks rs, .fz (.str name), .fz (.bl lined)] q x
theorem fresh_bad (T : Tx K mg base) {dx : Addr} {ws : List V} {ks : NK} {rs : NR} {name : Str} (hl : name.length ≤ 1000) (hb : gdB name = false) : FreshX T dx ws ks rs name ⟨T.c_BadName, [], []⟩ := fun lined q x h => by
  refine A_Net_fresh_of T _ _ _ _ _ _ _ ?_
  unfold b_Net_fresh
  walk_at "aw"
  refine good_name_X T hl ?_
  rw [hb]
  walk_at "aw"
  exact h
theorem fresh_taken (T : Tx K mg base) {dx : Addr} {ws : List V} {ks : NK} {rs : NR} {name : Str} (g : GoodN name) (hn : name ∈ ks.map (·.1)) : FreshX T dx ws ks rs name ⟨T.c_Taken, ["name"], [.str name]⟩ := fun lined q x h => by
  refine A_Net_fresh_of T _ _ _ _ _ _ _ ?_
  unfold b_Net_fresh
  walk_at "aw"
  refine good_name_A T g ?_
  walk_at "aw"
  rw [show decide ((Sum.inr name : Key) ∈ kinK ks) = true from decide_eq_true (mem_kin.mpr hn)]
  walk_at "aw"
  exact h
theorem house_X (T : Tx K mg base) {dx : Addr} {ws : List V} {ks : NK} {rs : NR} {name : Str} {e : Exn} {q : AV → List AV → Prop} {x : Exn → List AV → Prop} (f : FreshX T dx ws ks rs name e) (h : x e [netAV T.c_Net dx ws ks rs, .fz (.str name)]) : A_Net_house T [netAV T.c_Net dx ws ks rs, .fz (.str name)] q x := by
  refine A_Net_house_of T _ _ _ _ _ _ ?_
  unfold b_Net_house
  walk_at "aw"
  refine f _ _ _ ?_
  exact h
theorem line_F (T : Tx K mg base) {dx : Addr} {ws : List V} {ks : NK} {rs : NR} {name : Str} {d3 d4 d5 : D} {e : Exn} {q : AV → List AV → Prop} {x : Exn → List AV → Prop} (f : FreshX T dx ws ks rs name e) (h : x e [netAV T.c_Net dx ws ks rs, .fz (.str name), .fz d3, .fz d4, .fz d5]) : A_Net_line T [netAV T.c_Net dx ws ks rs, .fz (.str name), .fz d3, .fz d4, .fz d5] q x := by
  refine A_Net_line_of T _ _ _ _ _ _ _ _ _ ?_
  unfold b_Net_line
  walk_at "aw"
  refine f _ _ _ ?_
  exact h
theorem pairedMem2 {α β : Type} {F : α → β → Prop} : ∀ {xs : List α} {ys : List β} {y : β}, Paired F xs ys → y ∈ ys → ∃ x ∈ xs, F x y
  | _, _, y, .nil, h => by cases h
  | _, _, y, .cons h t, k => by
    rcases List.mem_cons.mp k with rfl | k
    · exact ⟨_, List.mem_cons_self, h⟩
    · obtain ⟨x, hx, f⟩ := pairedMem2 t k
      exact ⟨x, List.mem_cons_of_mem _ hx, f⟩
theorem nt_of {houses gates : List Str} {ls : List Ln} {rs : NR} (nd : (houses ++ gates).Nodup) (gd : ∀ y ∈ houses ++ gates, GoodN y) (ln : (ls.map (·.n)).Nodup) (lg : ∀ l ∈ ls, GoodN l.n ∧ l.n ∉ houses ++ gates ∧ LnOk (houses ++ gates) l) (pr : Paired RowOf ls rs) : NtOk (houses ++ gates) (hk houses ++ gk gates ++ lk ls) rs := by
  have rn := rowsOf_names pr
  have kn : (hk houses ++ gk gates ++ lk ls).map (·.1) = houses ++ gates ++ ls.map (·.n) := by rw [List.map_append, List.map_append, hk_n, gk_n, lk_n]
  have no : ∀ y ∈ ls.map (·.n), y ∉ houses ++ gates := fun y hy => by
    obtain ⟨l, hl, rfl⟩ := List.mem_map.mp hy
    exact (lg l hl).2.1
  refine ⟨by rw [kn]; exact List.nodup_append.mpr ⟨nd, ln, fun a ha b hb e => no b hb (e ▸ ha)⟩, by rw [rn]; exact ln, fun y hy => by rw [kn]; rw [rn] at hy; exact List.mem_append_right _ hy, fun y hy => ?_, fun y hy => ⟨by rw [kn]; exact List.mem_append_left _ hy, fun z => no y (by rw [← rn]; exact z) hy⟩, fun p hp => ?_, gd, fun p hp => ?_⟩
  · rw [kn] at hy
    rw [rn]
    exact List.mem_append.mp hy
  · obtain ⟨l, hl, ro⟩ := pairedMem2 pr hp
    obtain ⟨_, _, ok⟩ := lg l hl
    exact ⟨fun y hy => ok.fi y (ro.s.mem_iff.mp hy), fun y hy => ok.ti y (ro.t.mem_iff.mp hy)⟩
  · rcases List.mem_append.mp hp with hp | hp
    · rcases List.mem_append.mp hp with hp | hp
      · obtain ⟨y, _, rfl⟩ := List.mem_map.mp hp
        exact okD_house
      · obtain ⟨y, _, rfl⟩ := List.mem_map.mp hp
        exact okD_gate
    · obtain ⟨y, _, rfl⟩ := List.mem_map.mp hp
      exact okD_line
theorem isNN (T : Tx K mg base) : IsErr T "NoName" T.c_NoName := by simp [IsErr, errs1, errs2]
theorem isTk (T : Tx K mg base) : IsErr T "Taken" T.c_Taken := by simp [IsErr, errs1, errs2]
theorem isBN (T : Tx K mg base) : IsErr T "BadName" T.c_BadName := by simp [IsErr, errs1, errs2]
def lnT (l : Ln) : D := .tup [.str l.n, .lst (l.f.map .str), .lst (l.t.map .str), .int l.w]
def leL (a b : Ln) : Bool := PySem.W.dataLe false (fun r : Ln => PyData.str r.n) a b
theorem leL_iff {a b : Ln} (h : leL a b = true) : a.n.cps.toList ≤ b.n.cps.toList := by
  unfold leL at h
  rw [PySem.W.dataLe_str] at h
  exact of_decide_eq_true h
theorem leL_total : PySem.W.TotalLe leL := PySem.W.sortLe_total (PyProof.Rows.listOrd PyProof.Rows.itemOrd) false fun b : Ln => PySem.W.keyToks (.str b.n)
def byL (ls : List Ln) : List Ln := ls.mergeSort leL
theorem byL_mem {ls : List Ln} {l : Ln} : l ∈ byL ls ↔ l ∈ ls := List.mem_mergeSort
theorem byL_p (ls : List Ln) : (byL ls).Perm ls := List.mergeSort_perm _ _
theorem byL_pw (ls : List Ln) : (byL ls).Pairwise fun a b => a.n.cps.toList ≤ b.n.cps.toList := (PySem.W.sort_pairwise leL_total ls).imp fun h => leL_iff h
theorem nd_inj {α β : Type} {f : α → β} : ∀ {xs : List α} {a b : α}, (xs.map f).Nodup → a ∈ xs → b ∈ xs → f a = f b → a = b
  | x :: xs, a, b, nd, ha, hb, e => by
    obtain ⟨n1, n2⟩ := List.nodup_cons.mp (show (f x :: xs.map f).Nodup from nd)
    rcases List.mem_cons.mp ha with e1 | k <;> rcases List.mem_cons.mp hb with e2 | k'
    · rw [e1, e2]
    · exact absurd (List.mem_map.mpr ⟨b, k', by rw [← e, e1]⟩) n1
    · exact absurd (List.mem_map.mpr ⟨a, k, by rw [e, e2]⟩) n1
    · exact nd_inj n2 k k' e
theorem leD_line {a b : Ln} (h : a.n ≠ b.n) : leD (lnT a) (lnT b) = leL a b := by
  have e : PySem.W.dataLt (toPy (lnT b)) (toPy (lnT a)) = PySem.W.dataLt (.str b.n) (.str a.n) := by
    show PyProof.Rows.lexLt PyProof.Rows.itemOrd (PySem.W.keyToksAll (PyData.str b.n :: _)) (PySem.W.keyToksAll (PyData.str a.n :: _)) = _
    rw [PySem.W.dataLt_cons (by simp [PySem.W.alike]), if_neg]
    intro z
    have : (b.n == a.n) = true := by simpa [PyData.eqv] using z
    exact h (beq_iff_eq.mp this).symm
  show (!PySem.W.dataLt (toPy (lnT b)) (toPy (lnT a))) = (!PySem.W.dataLt (.str b.n) (.str a.n))
  rw [e]
theorem sortD_lines {ls : List Ln} (nd : (ls.map (·.n)).Nodup) : (ls.map lnT).mergeSort leD = (byL ls).map lnT := by
  unfold byL
  rw [PySem.W.sort_maps (r := leL) (s := leD) lnT]
  intro a ha b hb
  by_cases e : a.n = b.n
  · cases nd_inj nd ha hb e
    have h1 : leL a a = true := leL_total.refl a
    have h2 : leD (lnT a) (lnT a) = true := PySem.W.TotalLe.refl (le := leD) (PySem.W.sortLe_total (PyProof.Rows.listOrd PyProof.Rows.itemOrd) false fun b : D => PySem.W.keyToks (toPy b)) _
    rw [h1, h2]
  · exact (leD_line e).symm
theorem alike_strs : ∀ (w v : List Str), PySem.W.alikeAll (toPys (w.map D.str)) (toPys (v.map D.str)) = true
  | [], v => by rw [List.map_nil]; unfold toPys PySem.W.alikeAll; rfl
  | x :: w, [] => by rw [List.map_nil, List.map_cons]; unfold toPys PySem.W.alikeAll; rfl
  | x :: w, y :: v => by
    rw [List.map_cons, List.map_cons]
    unfold toPys PySem.W.alikeAll
    rw [alike_strs w v, Bool.and_true]
    simp [toPy, PySem.W.alike]
theorem alike_lines (ls : List Ln) : alikeD (ls.map lnT) = true := by
  unfold alikeD
  refine List.all_eq_true.mpr fun d hd => List.all_eq_true.mpr fun e he => ?_
  obtain ⟨a, _, rfl⟩ := List.mem_map.mp hd
  obtain ⟨b, _, rfl⟩ := List.mem_map.mp he
  have h1 := alike_strs a.f b.f
  have h2 := alike_strs a.t b.t
  simp [lnT, toPy, toPys, PySem.W.alike, PySem.W.alikeAll, h1, h2]
theorem sortable_lines (ls : List Ln) : sortableD (ls.map lnT) = true := by
  unfold sortableD
  rw [show (ls.map lnT).all tupNE = true from List.all_eq_true.mpr fun d hd => by
    obtain ⟨a, _, rfl⟩ := List.mem_map.mp hd
    rfl]
  rfl
def lean (y : Str) (l : Ln) : Bool := decide (y ∈ l.f) || decide (y ∈ l.t)
structure Sit (nodes : List Str) (ks : NK) (rs : NR) (L : List Ln) : Prop where
  o : NtOk nodes ks rs
  kd : ∀ p ∈ ks, p.2 = "line" ↔ p.1 ∈ rs.map (·.1)
  pn : (L.map (·.n)).Perm (rs.map (·.1))
  pw : L.Pairwise fun a b => a.n.cps.toList ≤ b.n.cps.toList
  ro : ∀ l ∈ L, ∃ r : NRow, (l.n, r) ∈ rs ∧ r.s.Perm l.f ∧ r.t.Perm l.t
  n7 : nodes.length ≤ 7
  r14 : rs.length ≤ 14
  nn : nodes.Nodup
theorem sorted_uniq2 {ys : List Str} {L : List Ln} (hs : PyProof.Rows.sortedS ys = true) (p : ys.Perm (L.map (·.n))) (pw : L.Pairwise fun a b => a.n.cps.toList ≤ b.n.cps.toList) : ys = L.map (·.n) := by
  have h1 := sortedS_pw hs
  have h2 : (L.map (·.n)).Pairwise fun a b : Str => a.cps.toList ≤ b.cps.toList := List.pairwise_map.mpr pw
  exact p.eq_of_pairwise (fun a b _ _ h1 h2 => str_ext (List.le_antisymm h1 h2)) h1 h2
theorem drop_N (T : Tx K mg base) {dx : Addr} {ws : List V} {ks : NK} {rs : NR} {y : Str} {q : AV → List AV → Prop} {x : Exn → List AV → Prop} (hn : y ∉ ks.map (·.1)) (h : x ⟨T.c_NoName, ["name"], [.str y]⟩ [netAV T.c_Net dx ws ks rs, .fz (.str y)]) : A_Net_drop T [netAV T.c_Net dx ws ks rs, .fz (.str y)] q x := by
  refine A_Net_drop_of T _ _ _ _ _ _ ?_
  unfold b_Net_drop
  walk_at "aw"
  rw [show decide ((Sum.inr y : Key) ∈ kinK ks) = false from decide_eq_false (fun z => hn (mem_kin.mp z))]
  walk_at "aw"
  exact h
theorem drop_G (T : Tx K mg base) {nodes : List Str} {L : List Ln} {dx : Addr} {ws : List V} {ks : NK} {rs : NR} {y : Str} {q : AV → List AV → Prop} {x : Exn → List AV → Prop} (S : Sit nodes ks rs L) (hy : y ∈ ks.map (·.1))
    (hu : ∀ l, L.find? (lean y) = some l → x ⟨T.c_InUse, ["name"], [.str l.n]⟩ [netAV T.c_Net dx ws ks rs, .fz (.str y)])
    (hd : L.find? (lean y) = none → q (.fz .non) [netAV T.c_Net dx ws (ks.filter fun p => decide (p.1 ≠ y)) (rs.filter fun p => decide (p.1 ≠ y)), .fz (.str y)]) : A_Net_drop T [netAV T.c_Net dx ws ks rs, .fz (.str y)] q x := by
  have o := S.o
  refine A_Net_drop_of T _ _ _ _ _ _ ?_
  unfold b_Net_drop
  walk_at "aw"
  rw [show decide ((Sum.inr y : Key) ∈ kinK ks) = true from decide_eq_true (mem_kin.mpr hy)]
  walk_at "aw"
  refine w_sortR fun ys hp hs => ?_
  obtain rfl := sorted_uniq2 hs (hp.trans S.pn.symm) S.pw
  walk_at "aw"
  rw [show (L.map (·.n)).map D.str = L.map (fun l => D.str l.n) from by rw [List.map_map]; rfl]
  refine loop_map (fun i ρ => (∃ v2 v3 v4 v5 : Option AV, ρ = [some (netAV T.c_Net dx ws ks rs), some (.fz (.str y)), v2, v3, v4, v5]) ∧ (L.drop i).find? (lean y) = L.find? (lean y)) ⟨⟨_, _, _, _, by unfold netAV; rfl⟩, rfl⟩ ?_ ?_
  · rintro i l ρ K' el ⟨⟨v2, v3, v4, v5, rfl⟩, hf⟩ hK
    have hl := List.mem_of_getElem? el
    obtain ⟨r, hr, rf, rt⟩ := S.ro l hl
    have ed : L.drop i = l :: L.drop (i + 1) := by
      obtain ⟨hi, e1⟩ := List.getElem?_eq_some_iff.mp el
      rw [List.drop_eq_getElem_cons hi, e1]
    rw [ed] at hf
    unfold netAV
    walk_at "aw"
    rw [show dval (rowK rs) (rowsD rs) (.inr l.n) = some r.d from dval_mem NRow.d o.nr hr]
    unfold NRow.d
    refine w_someQ ?_
    walk_at "awt"
    refine w_inT rfl (flat_strs _) ?_
    rw [inF_str, show decide (y ∈ r.s) = decide (y ∈ l.f) from decide_eq_decide.mpr rf.mem_iff]
    cases h1 : decide (y ∈ l.f) with
    | true =>
      have hb : lean y l = true := by unfold lean; rw [h1]; rfl
      rw [List.find?_cons_of_pos hb] at hf
      walk_at "aw"
      exact hu l hf.symm
    | false =>
      walk_at "awt"
      refine w_inT rfl (flat_strs _) ?_
      rw [inF_str, show decide (y ∈ r.t) = decide (y ∈ l.t) from decide_eq_decide.mpr rt.mem_iff]
      cases h2 : decide (y ∈ l.t) with
      | true =>
        have hb : lean y l = true := by unfold lean; rw [h1, h2]; rfl
        rw [List.find?_cons_of_pos hb] at hf
        walk_at "aw"
        exact hu l hf.symm
      | false =>
        have hb : ¬ lean y l = true := by unfold lean; rw [h1, h2]; simp
        rw [List.find?_cons_of_neg hb] at hf
        walk_at "aw"
        exact hK _ ⟨⟨_, _, _, _, by unfold netAV; rfl⟩, hf⟩
  rintro ρ ⟨⟨v2, v3, v4, v5, rfl⟩, hf⟩
  rw [List.drop_length] at hf
  have q := hd hf.symm
  unfold netAV
  walk_at "aw"
  refine w_dPopF rfl rfl rfl ?_
  walk_at "aw"
  obtain ⟨p, hp1, rfl⟩ := List.mem_map.mp hy
  refine ⟨by rw [show dval (kinK ks) (kinD ks) (.inr p.1) = some (.str p.2) from dval_mem .str o.nk hp1]; rfl, ?_⟩
  rw [show dropKs (kinK ks) (.inr p.1) = kinK (ks.filter fun q => decide (q.1 ≠ p.1)) from (drop_map D.str p.1 ks).1, show dropDs (kinK ks) (kinD ks) (.inr p.1) = kinD (ks.filter fun q => decide (q.1 ≠ p.1)) from (drop_map D.str p.1 ks).2]
  walk_at "aw"
  by_cases hin : p.1 ∈ rs.map (·.1)
  · rw [show decide ((Sum.inr p.1 : Key) ∈ rowK rs) = true from decide_eq_true (mem_kin.mpr hin)]
    walk_at "aw"
    refine w_dPopF rfl rfl rfl ?_
    walk_at "aw"
    obtain ⟨r, hr1, er⟩ := List.mem_map.mp hin
    refine ⟨by rw [← er, show dval (rowK rs) (rowsD rs) (.inr r.1) = some r.2.d from dval_mem NRow.d o.nr hr1]; rfl, ?_⟩
    rw [show dropKs (rowK rs) (.inr p.1) = rowK (rs.filter fun q => decide (q.1 ≠ p.1)) from (drop_map NRow.d p.1 rs).1, show dropDs (rowK rs) (rowsD rs) (.inr p.1) = rowsD (rs.filter fun q => decide (q.1 ≠ p.1)) from (drop_map NRow.d p.1 rs).2]
    exact q
  · rw [show decide ((Sum.inr p.1 : Key) ∈ rowK rs) = false from decide_eq_false (fun z => hin (mem_kin.mp z))]
    walk_at "aw"
    have e : rs.filter (fun q => decide (q.1 ≠ p.1)) = rs := List.filter_eq_self.mpr fun q hq => decide_eq_true fun z => hin (by rw [← z]; exact List.mem_map.mpr ⟨q, hq, rfl⟩)
    rw [e] at q
    exact q
theorem isIU (T : Tx K mg base) : IsErr T "InUse" T.c_InUse := by simp [IsErr, errs1, errs2]
theorem iu_nn (T : Tx K mg base) : T.c_InUse ≠ T.c_NoName := fun z => by have h := T.k_nd; rw [z] at h; simp at h
/-- what a drop tells, and what it leaves -/
inductive Dropped (ks : NK) (rs : NR) (L : List Ln) (y : Str) : D → NK → NR → Prop
  | no (h : y ∉ ks.map (·.1)) : Dropped ks rs L y (.tup [.str "NoName", .str y]) ks rs
  | use (h : y ∈ ks.map (·.1)) (l : Ln) (f : L.find? (lean y) = some l) : Dropped ks rs L y (.tup [.str "InUse", .str l.n]) ks rs
  | done (h : y ∈ ks.map (·.1)) (f : L.find? (lean y) = none) : Dropped ks rs L y (.tup [.str "done", .str y]) (ks.filter fun p => decide (p.1 ≠ y)) (rs.filter fun p => decide (p.1 ≠ y))
theorem law_drop_A (T : Tx K mg base) {nodes : List Str} {L : List Ln} {dx : Addr} {ws : List V} {ks : NK} {rs : NR} {y : Str} {q : AV → List AV → Prop} {x : Exn → List AV → Prop} (S : Sit nodes ks rs L)
    (h : ∀ d ks' rs', Dropped ks rs L y d ks' rs' → q (.fz d) [netAV T.c_Net dx ws ks' rs', .fz (.str y)]) : A_law_drop T [netAV T.c_Net dx ws ks rs, .fz (.str y)] q x := by
  unfold netAV at h ⊢
  refine A_law_drop_of T _ _ _ _ _ _ ?_
  unfold b_law_drop
  refine w_seq ?_
  refine w_try rfl rfl ?_
  walk_at "aw"
  by_cases hy : y ∈ ks.map (·.1)
  · refine drop_G T S hy (fun l hl => ?_) fun hf => ?_
    · refine ⟨true, exmS (isIU T), fun _ a o => ?_, fun z => nomatch z⟩
      unfold netAV endsE
      dsimp only [putA, List.set_cons_zero, List.set_cons_succ]
      walk_at "aw"
      refine w_xf rfl rfl rfl ?_
      walk_at "aw"
      exact h _ _ _ (.use hy l hl)
    · dsimp only [putA, List.set_cons_zero, List.set_cons_succ]
      walk_at "aw"
      exact h _ _ _ (.done hy hf)
  · refine drop_N T hy ?_
    refine ⟨false, exmX (isNN T) (isIU T) (iu_nn T), (fun z => nomatch z), fun _ => ⟨true, exmS (isNN T), fun _ a o => ?_, fun z => nomatch z⟩⟩
    unfold netAV endsE
    dsimp only [putA, List.set_cons_zero, List.set_cons_succ]
    walk_at "aw"
    refine w_xf rfl rfl rfl ?_
    walk_at "aw"
    exact h _ _ _ (.no hy)
theorem kind_F (T : Tx K mg base) {ks : NK} {rs : NR} {y kd : Str} {q : AV → Prop} {x : Exn → Prop} (nd : (ks.map (·.1)).Nodup) (hm : (y, kd) ∈ ks) (h : q (.fz (.str kd))) : A_Net_kind T [.fz (netFD T.c_Net ks rs), .fz (.str y)] q x := by
  unfold netFD
  refine A_Net_kind_of T ?_
  unfold b_Net_kind
  walk_at "aw"
  rw [show decide ((Sum.inr y : Key) ∈ kinK ks) = true from decide_eq_true (mem_kin.mpr (List.mem_map.mpr ⟨_, hm, rfl⟩))]
  walk_at "aw"
  rw [show dval (kinK ks) (kinD ks) (.inr y) = some (.str kd) from dval_mem .str nd hm]
  exact h
theorem kind_X (T : Tx K mg base) {ks : NK} {rs : NR} {y : Str} {q : AV → Prop} {x : Exn → Prop} (hn : y ∉ ks.map (·.1)) (h : x ⟨T.c_NoName, ["name"], [.str y]⟩) : A_Net_kind T [.fz (netFD T.c_Net ks rs), .fz (.str y)] q x := by
  unfold netFD
  refine A_Net_kind_of T ?_
  unfold b_Net_kind
  walk_at "aw"
  rw [show decide ((Sum.inr y : Key) ∈ kinK ks) = false from decide_eq_false (fun z => hn (mem_kin.mp z))]
  walk_at "aw"
  exact h
theorem ends_X (T : Tx K mg base) {dx : Addr} {ws : List V} {ks : NK} {rs : NR} {y : Str} {q : AV → List AV → Prop} {x : Exn → List AV → Prop} (hn : y ∉ rs.map (·.1)) (h : x ⟨T.c_NoName, ["name"], [.str y]⟩ [netAV T.c_Net dx ws ks rs, .fz (.str y)]) : A_Net_ends T [netAV T.c_Net dx ws ks rs, .fz (.str y)] q x := by
  refine A_Net_ends_of T _ _ _ _ _ _ ?_
  unfold b_Net_ends
  walk_at "aw"
  rw [show decide ((Sum.inr y : Key) ∈ rowK rs) = false from decide_eq_false (fun z => hn (mem_kin.mp z))]
  walk_at "aw"
  exact h
theorem w_kindF (T : Tx K mg base) {ρ : Env} {i : Nat} {dx : Addr} {ws : List V} {ks : NK} {rs : NR} {y kd : Str} {a : AE} {Q : D → Prop} {X : Exn → Prop} (h1 : ρ[i]? = some (some (netAV T.c_Net dx ws ks rs))) (nd : (ks.map (·.1)).Nodup) (hm : (y, kd) ∈ ks) (ha : ∀ (P : D → Prop), P (.str y) → a ρ P X) (q : Q (.str kd)) : aFz (aMeF0 T.c_Net "kind" (A_Net_kind T) i (aArg a aArgs)) ρ Q X := by
  refine w_fz (w_obQ h1 ⟨rfl, ?_⟩)
  refine w_arg (ha _ ?_)
  refine w_args (w_callFO (avs := [.fz (netFD T.c_Net ks rs), .fz (.str y)]) ?_ ?_)
  · unfold argsF argF
    dsimp only
    rw [h1]
    rfl
  · exact kind_F T nd hm ⟨rfl, q⟩
theorem law_gone_A (T : Tx K mg base) {dx : Addr} {ws : List V} {ks : NK} {rs : NR} {y : Str} {q : AV → List AV → Prop} {x : Exn → List AV → Prop} (nd : (ks.map (·.1)).Nodup) (hr : y ∉ rs.map (·.1))
    (h1 : y ∈ ks.map (·.1) → q (.ol [.str y]) [netAV T.c_Net dx ws ks rs, .fz (.str y)]) (h2 : y ∉ ks.map (·.1) → q (.ol [.str y, .str y]) [netAV T.c_Net dx ws ks rs, .fz (.str y)]) : A_law_gone T [netAV T.c_Net dx ws ks rs, .fz (.str y)] q x := by
  unfold netAV at h1 h2 ⊢
  refine A_law_gone_of T _ _ _ _ _ _ ?_
  unfold b_law_gone
  walk_at "aw"
  refine w_obQ rfl ⟨rfl, ?_⟩
  walk_at "aw"
  refine w_callFX (avs := [.fz (netFD T.c_Net ks rs), .fz (.str y)]) rfl ?_
  by_cases hy : y ∈ ks.map (·.1)
  · obtain ⟨p, hp, rfl⟩ := List.mem_map.mp hy
    refine kind_F T (kd := p.2) nd hp ⟨rfl, ?_⟩
    walk_at "aw"
    refine ends_X T hr ?_
    refine ⟨true, exmS (isNN T), fun _ a o => ?_, fun z => nomatch z⟩
    unfold netAV endsE
    dsimp only [putA, List.set_cons_zero, List.set_cons_succ]
    walk_at "aw"
    refine w_xf rfl rfl rfl ?_
    refine ⟨by decide, ?_⟩
    walk_at "aw"
    exact h1 hy
  · refine kind_X T hy ⟨rfl, ?_⟩
    refine ⟨true, exmS (isNN T), fun _ a o => ?_, fun z => nomatch z⟩
    unfold endsE
    dsimp only
    walk_at "aw"
    refine w_xf rfl rfl rfl ?_
    refine ⟨by decide, ?_⟩
    walk_at "aw"
    refine ends_X T hr ?_
    refine ⟨true, exmS (isNN T), fun _ a o => ?_, fun z => nomatch z⟩
    unfold netAV endsE
    dsimp only [putA, List.set_cons_zero, List.set_cons_succ]
    walk_at "aw"
    refine w_xf rfl rfl rfl ?_
    refine ⟨Nat.le_of_ble_eq_true rfl, ?_⟩
    walk_at "aw"
    exact h2 hy
theorem Sit.line {nodes : List Str} {ks : NK} {rs : NR} {L : List Ln} {y : Str} (S : Sit nodes ks rs L) (hy : y ∈ rs.map (·.1)) : Sit nodes (ks.filter fun p => decide (p.1 ≠ y)) (rs.filter fun p => decide (p.1 ≠ y)) (L.filter fun l => decide (l.n ≠ y)) := by
  have e1 : (L.filter fun l => decide (l.n ≠ y)).map (·.n) = (L.map (·.n)).filter fun x => decide (x ≠ y) := by rw [List.filter_map]; rfl
  have e2 : (rs.filter fun p => decide (p.1 ≠ y)).map (·.1) = (rs.map (·.1)).filter fun x => decide (x ≠ y) := by rw [List.filter_map]; rfl
  refine ⟨S.o.less hy, fun p hp => ?_, by rw [e1, e2]; exact S.pn.filter _, S.pw.filter _, fun l hl => ?_, S.n7, Nat.le_trans (List.length_filter_le _ _) S.r14, S.nn⟩
  · obtain ⟨h1, h2⟩ := List.mem_filter.mp hp
    have h3 : p.1 ≠ y := of_decide_eq_true h2
    rw [S.kd p h1, mem_less]
    exact ⟨fun z => ⟨z, h3⟩, fun z => z.1⟩
  · obtain ⟨h1, h2⟩ := List.mem_filter.mp hl
    obtain ⟨r, hr, k⟩ := S.ro l h1
    exact ⟨r, List.mem_filter.mpr ⟨hr, h2⟩, k⟩
theorem Sit.node {nodes : List Str} {ks : NK} {rs : NR} {L : List Ln} {y : Str} (S : Sit nodes ks rs L) (hy : y ∈ ks.map (·.1)) (hr : y ∉ rs.map (·.1)) (hl : L.find? (lean y) = none) : Sit (nodes.filter fun x => decide (x ≠ y)) (ks.filter fun p => decide (p.1 ≠ y)) (rs.filter fun p => decide (p.1 ≠ y)) (L.filter fun l => decide (l.n ≠ y)) := by
  have o := S.o
  have e : rs.filter (fun q => decide (q.1 ≠ y)) = rs := List.filter_eq_self.mpr fun q hq => decide_eq_true fun z => hr (by rw [← z]; exact List.mem_map.mpr ⟨q, hq, rfl⟩)
  have e3 : L.filter (fun l => decide (l.n ≠ y)) = L := List.filter_eq_self.mpr fun l hl => decide_eq_true fun z => hr (by rw [← z]; exact S.pn.mem_iff.mp (List.mem_map.mpr ⟨l, hl, rfl⟩))
  rw [e, e3]
  have nl : ∀ l ∈ L, y ∉ l.f ∧ y ∉ l.t := fun l h => by
    have := List.find?_eq_none.mp hl l h
    unfold lean at this
    simpa using this
  have nn : ∀ p ∈ rs, y ∉ p.2.s ∧ y ∉ p.2.t := fun p hp => by
    have h1 := S.pn.mem_iff.mpr (List.mem_map.mpr ⟨p, hp, rfl⟩)
    obtain ⟨l, h2, h3⟩ := List.mem_map.mp h1
    obtain ⟨r, h4, h5, h6⟩ := S.ro l h2
    have h7 : (l.n, r) = p := nd_inj (f := fun q : Str × NRow => q.1) o.nr h4 hp h3
    subst h7
    exact ⟨fun z => (nl l h2).1 (h5.mem_iff.mp z), fun z => (nl l h2).2 (h6.mem_iff.mp z)⟩
  have mn : ∀ x, x ∈ nodes.filter (fun x => decide (x ≠ y)) ↔ x ∈ nodes ∧ x ≠ y := fun x => by rw [List.mem_filter]; exact and_congr_right fun _ => decide_eq_true_iff
  refine ⟨⟨(List.Sublist.map _ List.filter_sublist).nodup o.nk, o.nr, fun x hx => mem_less.mpr ⟨o.sub x hx, fun z => hr (z ▸ hx)⟩, fun x hx => ?_, fun x hx => ?_, fun p hp => ⟨fun x hx => (mn x).mpr ⟨(o.rw p hp).1 x hx, fun z => (nn p hp).1 (z ▸ hx)⟩, fun x hx => (mn x).mpr ⟨(o.rw p hp).2 x hx, fun z => (nn p hp).2 (z ▸ hx)⟩⟩, fun x hx => o.gd x ((mn x).mp hx).1, fun p hp => o.kok p (List.mem_filter.mp hp).1⟩, fun p hp => S.kd p (List.mem_filter.mp hp).1, S.pn, S.pw, S.ro, Nat.le_trans (List.length_filter_le _ _) S.n7, S.r14, List.filter_sublist.nodup S.nn⟩
  · obtain ⟨h1, h2⟩ := mem_less.mp hx
    exact (o.cov x h1).imp (fun z => (mn x).mpr ⟨z, h2⟩) id
  · obtain ⟨h1, h2⟩ := (mn x).mp hx
    exact ⟨mem_less.mpr ⟨(o.nin x h1).1, h2⟩, (o.nin x h1).2⟩
def KD (ks : NK) (rs : NR) : Prop := ∀ p ∈ ks, p.2 = "line" ↔ p.1 ∈ rs.map (·.1)
theorem KD.node {nodes : List Str} {ks : NK} {rs : NR} {nm k : Str} (h : KD ks rs) (o : NtOk nodes ks rs) (hn : nm ∉ ks.map (·.1)) (hk : k ≠ "line") : KD (ks ++ [(nm, k)]) rs := fun p hp => by
  rcases List.mem_append.mp hp with hp | hp
  · exact h p hp
  · rw [List.mem_singleton.mp hp]
    exact ⟨fun z => absurd z hk, fun z => absurd (o.sub _ z) hn⟩
theorem KD.line {ks : NK} {rs : NR} {nm : Str} {r : NRow} (h : KD ks rs) (hn : nm ∉ ks.map (·.1)) : KD (ks ++ [(nm, ("line" : Str))]) (rs ++ [(nm, r)]) := fun p hp => by
  have e : (rs ++ [(nm, r)]).map (·.1) = rs.map (·.1) ++ [nm] := by rw [List.map_append]; rfl
  rw [e]
  rcases List.mem_append.mp hp with hp | hp
  · rw [h p hp, List.mem_append]
    exact ⟨.inl, fun z => z.resolve_right fun y => hn (by rw [← List.mem_singleton.mp y]; exact List.mem_map.mpr ⟨p, hp, rfl⟩)⟩
  · rw [List.mem_singleton.mp hp]
    exact ⟨fun _ => List.mem_append_right _ (List.mem_singleton.mpr rfl), fun _ => rfl⟩
theorem cnt_f {nodes : List Str} {ks : NK} {rs : NR} (o : NtOk nodes ks rs) (nn : nodes.Nodup) : nodes.length ≤ (ks.filter fun p => decide (p.1 ∈ rs.map (·.1)) == false).length := by
  have := nodup_sub_len (m := (ks.filter fun p => decide (p.1 ∈ rs.map (·.1)) == false).map (·.1)) nn fun y hy => by
    obtain ⟨h1, h2⟩ := o.nin y hy
    obtain ⟨p, hp, rfl⟩ := List.mem_map.mp h1
    exact List.mem_map.mpr ⟨p, List.mem_filter.mpr ⟨hp, by rw [decide_eq_false h2]; rfl⟩, rfl⟩
  rwa [List.length_map] at this
theorem cnt_t {nodes : List Str} {ks : NK} {rs : NR} (o : NtOk nodes ks rs) : rs.length ≤ (ks.filter fun p => decide (p.1 ∈ rs.map (·.1)) == true).length := by
  have := nodup_sub_len (m := (ks.filter fun p => decide (p.1 ∈ rs.map (·.1)) == true).map (·.1)) o.nr fun y hy => by
    obtain ⟨p, hp, rfl⟩ := List.mem_map.mp (o.sub y hy)
    exact List.mem_map.mpr ⟨p, List.mem_filter.mpr ⟨hp, by rw [decide_eq_true hy]; rfl⟩, rfl⟩
  rwa [List.length_map, List.length_map] at this
theorem isFu (T : Tx K mg base) : IsErr T "Full" T.c_Full := by simp [IsErr, errs1, errs2]
theorem fresh_full (T : Tx K mg base) {dx : Addr} {ws : List V} {ks : NK} {rs : NR} {name : Str} {lined : Bool} {q : AV → List AV → Prop} {x : Exn → List AV → Prop} (g : GoodN name) (hn : name ∉ ks.map (·.1)) (hl : ks.length ≤ 1000) (h16 : 16 ≤ (ks.filter fun p => decide (p.1 ∈ rs.map (·.1)) == lined).length)
    (h : x ⟨T.c_Full, [], []⟩ [netAV T.c_Net dx ws ks rs, .fz (.str name), .fz (.bl lined)]) : A_Net_fresh T [netAV T.c_Net dx ws ks rs, .fz (.str name), .fz (.bl lined)] q x := by
  refine A_Net_fresh_of T _ _ _ _ _ _ _ ?_
  unfold b_Net_fresh
  walk_at "aw"
  refine good_name_A T g ?_
  walk_at "aw"
  rw [show decide ((Sum.inr name : Key) ∈ kinK ks) = false from decide_eq_false (fun z => hn (mem_kin.mp z))]
  walk_at "aw"
  rw [kin_kD]
  refine comp_filt (fun p => decide (p.1 ∈ rs.map (·.1)) == lined) (fun p => .str p.1) (by show 0 + _ ≤ _; omega) (fun p hp Q A hT hF => ?_) ?_
  · walk_at "aw"
    have ed : decide ((Sum.inr p.1 : Key) ∈ rowK rs) = decide (p.1 ∈ rs.map (·.1)) := decide_eq_decide.mpr mem_kin
    rw [ed]
    generalize decide (p.1 ∈ rs.map (·.1)) = bb at hT hF
    cases bb <;> cases lined
    · walk_at "aw"
      exact hT rfl
    · walk_at "aw"
      exact hF rfl
    · walk_at "aw"
      exact hF rfl
    · walk_at "aw"
      exact hT rfl
  · rw [List.nil_append]
    walk_at "aw"
    rw [List.length_map, decide_eq_true (by omega)]
    walk_at "aw"
    exact h
theorem house_full (T : Tx K mg base) {nodes : List Str} {dx : Addr} {ws : List V} {ks : NK} {rs : NR} {name : Str} {q : AV → List AV → Prop} {x : Exn → List AV → Prop} (o : NtOk nodes ks rs) (nn : nodes.Nodup) (n16 : 16 ≤ nodes.length) (hl : ks.length ≤ 1000) (g : GoodN name) (hn : name ∉ ks.map (·.1)) (h : x ⟨T.c_Full, [], []⟩ [netAV T.c_Net dx ws ks rs, .fz (.str name)]) : A_Net_house T [netAV T.c_Net dx ws ks rs, .fz (.str name)] q x := by
  refine A_Net_house_of T _ _ _ _ _ _ ?_
  unfold b_Net_house
  walk_at "aw"
  refine fresh_full T g hn hl (Nat.le_trans n16 (cnt_f o nn)) ?_
  exact h
theorem gate_full (T : Tx K mg base) {nodes : List Str} {dx : Addr} {ws : List V} {ks : NK} {rs : NR} {name : Str} {q : AV → List AV → Prop} {x : Exn → List AV → Prop} (o : NtOk nodes ks rs) (nn : nodes.Nodup) (n16 : 16 ≤ nodes.length) (hl : ks.length ≤ 1000) (g : GoodN name) (hn : name ∉ ks.map (·.1)) (h : x ⟨T.c_Full, [], []⟩ [netAV T.c_Net dx ws ks rs, .fz (.str name)]) : A_Net_gate T [netAV T.c_Net dx ws ks rs, .fz (.str name)] q x := by
  refine A_Net_gate_of T _ _ _ _ _ _ ?_
  unfold b_Net_gate
  walk_at "aw"
  refine fresh_full T g hn hl (Nat.le_trans n16 (cnt_f o nn)) ?_
  exact h
theorem line_full (T : Tx K mg base) {nodes : List Str} {dx : Addr} {ws : List V} {ks : NK} {rs : NR} {name : Str} {d3 d4 d5 : D} {q : AV → List AV → Prop} {x : Exn → List AV → Prop} (o : NtOk nodes ks rs) (r16 : 16 ≤ rs.length) (hl : ks.length ≤ 1000) (g : GoodN name) (hn : name ∉ ks.map (·.1)) (h : x ⟨T.c_Full, [], []⟩ [netAV T.c_Net dx ws ks rs, .fz (.str name), .fz d3, .fz d4, .fz d5]) : A_Net_line T [netAV T.c_Net dx ws ks rs, .fz (.str name), .fz d3, .fz d4, .fz d5] q x := by
  refine A_Net_line_of T _ _ _ _ _ _ _ _ _ ?_
  unfold b_Net_line
  walk_at "aw"
  refine fresh_full T g hn hl (Nat.le_trans r16 (cnt_t o)) ?_
  exact h
def gotF (n : Nat) : Str := ((("none" : Str) ++ " ") ++ toString (((16 - n : Nat) : Nat) : Int)) ++ "Full"
def numS (i : Nat) : Str := toString ((0 : Int) + (i : Nat))
theorem numS_len : ∀ i : Nat, i < 20 → (numS i).length ≤ 10 := by decide +kernel
theorem gotF_ok : ∀ n : Nat, n < 8 → okD 8 (.str (gotF n)) = true := by decide +kernel
theorem w_catS {x y : Str} {Q : D → Prop} (h : x.length + y.length ≤ 1000000) (q : Q (.str (x ++ y))) : oCatS (.str x) (.str y) Q := ⟨h, q⟩
theorem fillH (T : Tx K mg base) {N : AEnds} {a0 a1 : AV} {many : D} {i : Nat} (hi : i < 20) (q : N.nx [some a0, some a1, some .dr, some (.fz many), some (.fz (.str (((("none" : Str) ++ " ") ++ numS i) ++ "Full"))), some (.fz (.int (0 + (i : Nat)))), none]) :
    handleA K false N ⟨T.c_Full, [], []⟩ [some a0, some a1, some .dr, some (.fz many), some (.fz (.str "none")), some (.fz (.int (0 + (i : Nat)))), none] [⟨T.c_NetError, some 6, fun a D o => (aSet 4 (aOp oCatS (aOp oCatS (aOp oCatS (aVar 4) (aC (.str " "))) (aCB oStr (aCons (aVar 5) aNil))) (aKind T a D o (aVar 6))))⟩] := by
  have nl := numS_len i hi
  refine ⟨true, exmN (isFu T), fun _ a o => ?_, fun z => nomatch z⟩
  unfold endsE
  dsimp only
  walk_at "aw"
  refine w_catS (Nat.le_of_ble_eq_true rfl) ?_
  refine w_cb (w_cons (w_var rfl (w_nil (w_str ?_ ?_))))
  · refine Nat.lt_of_le_of_lt (Nat.log2_le_self _) ?_
    omega
  refine w_catS ?_ ?_
  · refine Nat.le_trans (Nat.add_le_add (show _ ≤ 10 from Nat.le_of_ble_eq_true rfl) nl) (Nat.le_of_ble_eq_true rfl)
  refine w_kind T rfl (isFu T) ?_
  refine w_catS ?_ ?_
  · rw [Str.length_append]
    refine Nat.le_trans (Nat.add_le_add (Nat.add_le_add (show _ ≤ 10 from Nat.le_of_ble_eq_true rfl) nl) (show _ ≤ 10 from Nat.le_of_ble_eq_true rfl)) (Nat.le_of_ble_eq_true rfl)
  exact q
theorem law_fill_A (T : Tx K mg base) {nodes : List Str} {dx : Addr} {ws : List V} {ks : NK} {rs : NR} {ns : List Str} {q : AV → List AV → Prop} {x : Exn → List AV → Prop} (o : NtOk nodes ks rs) (kd : KD ks rs) (nn : nodes.Nodup) (n7 : nodes.length ≤ 7) (r14 : rs.length ≤ 14) (nsn : ∀ y ∈ ks.map (·.1), y ∈ ns) (hl : ns.length ≤ 80)
    (h : ∀ (nodes' : List Str) (ks' : NK) (ns' : List Str), NtOk nodes' ks' rs → KD ks' rs → nodes'.Nodup → nodes'.length = 16 → (∀ y ∈ ks'.map (·.1), y ∈ ns') → ns'.length = ns.length + (17 - nodes.length) → q (.fz (.str (gotF nodes.length))) [netAV T.c_Net dx ws ks' rs, .ol (ns'.map .str), .dr, .fz (.int (17 - (nodes.length : Nat)))]) :
    A_law_fill T [netAV T.c_Net dx ws ks rs, .ol (ns.map .str), .dr, .fz (.int (17 - (nodes.length : Nat)))] q x := by
  unfold netAV at h ⊢
  refine A_law_fill_of T _ _ _ _ _ _ _ ?_
  unfold b_law_fill
  walk_at "aw"
  refine ⟨⟨by omega, by omega⟩, ?_⟩
  rw [show (17 - (nodes.length : Int)).toNat = 17 - nodes.length by omega]
  refine loop_rng (fun i ρ => ∃ (nodes' : List Str) (ks' : NK) (ns' : List Str) (got : Str) (v5 : Option AV), ρ = [some (netAV T.c_Net dx ws ks' rs), some (.ol (ns'.map .str)), some .dr, some (.fz (.int (17 - (nodes.length : Nat)))), some (.fz (.str got)), v5, none] ∧ NtOk nodes' ks' rs ∧ KD ks' rs ∧ nodes'.Nodup ∧ (∀ y ∈ ks'.map (·.1), y ∈ ns') ∧ ns'.length = ns.length + i ∧ (i ≤ 16 - nodes.length → nodes'.length = nodes.length + i ∧ got = "none") ∧ (i = 17 - nodes.length → nodes'.length = 16 ∧ got = gotF nodes.length)) ⟨nodes, ks, ns, "none", none, by unfold netAV; rfl, o, kd, nn, nsn, rfl, fun _ => ⟨rfl, rfl⟩, fun z => by omega⟩ ?_ ?_
  · rintro i ρ K' hi ⟨nodes', ks', ns', got, v5, rfl, o', kd', nn', nsn', hl', c1, c2⟩ hK
    obtain ⟨n', rfl⟩ := c1 (by omega)
    have kl := nt_len o'
    walk_at "aw"
    refine cond_dec (fun _ => ?_) (fun _ => ?_)
    · walk_at "aw"
      refine m_meM rfl rfl ?_
      walk_at "aw"
      refine name_A T (by omega) fun nm g hn => ?_
      have hnk : nm ∉ ks'.map (·.1) := fun z => hn (nsn' nm z)
      dsimp only [putA, List.set_cons_zero, List.set_cons_succ]
      walk_at "aw"
      refine ⟨⟨_, rfl⟩, ?_⟩
      walk_at "aw"
      have nsn2 : ∀ y ∈ (ks' ++ [(nm, ("house" : Str))]).map (·.1), y ∈ ns' ++ [nm] := fun y hy => by
        rw [List.map_append] at hy
        rcases List.mem_append.mp hy with hy | hy
        · exact List.mem_append_left _ (nsn' y hy)
        · exact List.mem_append_right _ hy
      by_cases h16 : nodes'.length = 16
      · refine house_full T o' nn' (by omega) (by omega) g hnk ?_
        refine fillH T (i := i) (by omega) ?_
        exact hK _ ⟨nodes', ks', ns' ++ [nm], _, _, rfl, o', kd', nn', fun y hy => List.mem_append_left _ (nsn' y hy), by rw [List.length_append, List.length_singleton]; omega, fun z => by omega, fun z => ⟨h16, by
          have e : i = 16 - nodes.length := by omega
          subst e
          unfold gotF numS
          rw [Int.zero_add]⟩⟩
      · refine house_B T o' (by omega) (by omega) g hnk ?_
        dsimp only [putA, List.set_cons_zero, List.set_cons_succ]
        walk_at "aw"
        exact hK _ ⟨nodes' ++ [nm], ks' ++ [(nm, ("house" : Str))], ns' ++ [nm], _, _, rfl, o'.node g hnk okD_house, kd'.node o' hnk (by decide), nd_snoc nn' fun z => hnk (o'.nin nm z).1, nsn2, by rw [List.length_append, List.length_singleton]; omega, fun z => ⟨by rw [List.length_append, List.length_singleton]; omega, rfl⟩, fun z => by omega⟩
    · walk_at "aw"
      refine m_meM rfl rfl ?_
      walk_at "aw"
      refine name_A T (by omega) fun nm g hn => ?_
      have hnk : nm ∉ ks'.map (·.1) := fun z => hn (nsn' nm z)
      dsimp only [putA, List.set_cons_zero, List.set_cons_succ]
      walk_at "aw"
      refine ⟨⟨_, rfl⟩, ?_⟩
      walk_at "aw"
      have nsn2 : ∀ y ∈ (ks' ++ [(nm, ("gate" : Str))]).map (·.1), y ∈ ns' ++ [nm] := fun y hy => by
        rw [List.map_append] at hy
        rcases List.mem_append.mp hy with hy | hy
        · exact List.mem_append_left _ (nsn' y hy)
        · exact List.mem_append_right _ hy
      by_cases h16 : nodes'.length = 16
      · refine gate_full T o' nn' (by omega) (by omega) g hnk ?_
        refine fillH T (i := i) (by omega) ?_
        exact hK _ ⟨nodes', ks', ns' ++ [nm], _, _, rfl, o', kd', nn', fun y hy => List.mem_append_left _ (nsn' y hy), by rw [List.length_append, List.length_singleton]; omega, fun z => by omega, fun z => ⟨h16, by
          have e : i = 16 - nodes.length := by omega
          subst e
          unfold gotF numS
          rw [Int.zero_add]⟩⟩
      · refine gate_B T o' (by omega) (by omega) g hnk ?_
        dsimp only [putA, List.set_cons_zero, List.set_cons_succ]
        walk_at "aw"
        exact hK _ ⟨nodes' ++ [nm], ks' ++ [(nm, ("gate" : Str))], ns' ++ [nm], _, _, rfl, o'.node g hnk okD_gate, kd'.node o' hnk (by decide), nd_snoc nn' fun z => hnk (o'.nin nm z).1, nsn2, by rw [List.length_append, List.length_singleton]; omega, fun z => ⟨by rw [List.length_append, List.length_singleton]; omega, rfl⟩, fun z => by omega⟩
  · rintro ρ ⟨nodes', ks', ns', got, v5, rfl, o', kd', nn', nsn', hl', c1, c2⟩
    obtain ⟨n', rfl⟩ := c2 rfl
    unfold netAV
    walk_at "aw"
    exact h nodes' ks' ns' o' kd' nn' n' nsn' hl'
theorem gotF_eq : ∀ n : Nat, n < 8 → ((("none " : Str) ++ (toString (((16 - n : Nat) : Nat) : Int) : Str)) ++ "Full") = gotF n := by decide +kernel
theorem tos_len : ∀ n : Nat, n < 8 → (toString (((16 - n : Nat) : Nat) : Int) : Str).length ≤ 10 := by decide +kernel
theorem nodes_p {nodes : List Str} {ks : NK} {rs : NR} {ys : List Str} (o : NtOk nodes ks rs) (nn : nodes.Nodup) (p : ys.Perm (ks.map (·.1))) : (ys.filter fun y => !decide (y ∈ rs.map (·.1))).Perm nodes := by
  have nd : ys.Nodup := p.nodup_iff.mpr o.nk
  refine (List.perm_ext_iff_of_nodup (List.filter_sublist.nodup nd) nn).mpr fun y => ?_
  rw [List.mem_filter, p.mem_iff]
  constructor
  · rintro ⟨h1, h2⟩
    exact (o.cov y h1).resolve_right (by simpa using h2)
  · intro h
    exact ⟨(o.nin y h).1, by simpa using (o.nin y h).2⟩
theorem lines_p {nodes : List Str} {ks : NK} {rs : NR} {ys : List Str} (o : NtOk nodes ks rs) (p : ys.Perm (ks.map (·.1))) : (ys.filter fun y => decide (y ∈ rs.map (·.1))).Perm (rs.map (·.1)) := by
  have nd : ys.Nodup := p.nodup_iff.mpr o.nk
  refine (List.perm_ext_iff_of_nodup (List.filter_sublist.nodup nd) o.nr).mpr fun y => ?_
  rw [List.mem_filter, p.mem_iff]
  exact ⟨fun h => of_decide_eq_true h.2, fun h => ⟨o.sub y h, decide_eq_true h⟩⟩
theorem nt_len2 {nodes : List Str} {ks : NK} {rs : NR} (o : NtOk nodes ks rs) (nn : nodes.Nodup) : ks.length = nodes.length + rs.length := by
  have h1 := nt_len o
  have := nodup_sub_len (l := nodes ++ rs.map (·.1)) (m := ks.map (·.1)) (List.nodup_append.mpr ⟨nn, o.nr, fun a ha b hb e => (o.nin a ha).2 (e ▸ hb)⟩) fun y hy => (List.mem_append.mp hy).elim (fun h => (o.nin y h).1) (o.sub y)
  rw [List.length_append, List.length_map, List.length_map] at this
  omega
theorem law_filled_A (T : Tx K mg base) {nodes : List Str} {w0 w1 w2 w3 w4 w5 : V} {ws : List V} {d0 d1 d2 d3 d4 : D} {dx : Addr} {ks : NK} {rs : NR} {ns : List Str} {q : AV → List AV → Prop} {x : Exn → List AV → Prop} (o : NtOk nodes ks rs) (kd : KD ks rs) (nn : nodes.Nodup) (n7 : nodes.length ≤ 7) (r14 : rs.length ≤ 14) (nsn : ∀ y ∈ ks.map (·.1), y ∈ ns) (hl : ns.length ≤ 50)
    (h : ∀ avs, q (.fz (.bl true)) avs) : A_law_filled T [.dr, .ut [w0, w1, w2, w3, w4, w5] [.fz d0, .fz d1, .fz d2, .fz d3, .fz d4, .ol (ns.map .str)], netAV T.c_Net dx ws ks rs] q x := by
  have kl := nt_len o
  unfold netAV
  refine A_law_filled_of T _ _ _ _ _ _ _ ?_
  unfold b_law_filled
  walk_at "aw"
  refine w_namesF T rfl fun ys py sy => ?_
  have yl : ys.length = ks.length := by rw [py.length_eq, List.length_map]
  walk_at "aw"
  refine comp_filt (fun y => !decide (y ∈ rs.map (·.1))) .str (by show 0 + _ ≤ _; omega) (fun y hy Q A hT hF => ?_) ?_
  · walk_at "aw"
    obtain ⟨p, hp, rfl⟩ := List.mem_map.mp (py.mem_iff.mp hy)
    refine w_kindF T rfl o.nk hp (fun P h => w_var rfl h) ?_
    walk_at "aw"
    rw [show decide (p.2 = ("line" : Str)) = decide (p.1 ∈ rs.map (·.1)) from decide_eq_decide.mpr (kd p hp)]
    generalize decide (p.1 ∈ rs.map (·.1)) = bb at hT hF
    cases bb
    · walk_at "aw"
      exact hT rfl
    · walk_at "aw"
      exact hF rfl
  rw [List.nil_append]
  have pn := nodes_p o nn py
  have ln := pn.length_eq
  walk_at "aw"
  refine w_namesF T rfl fun zs pz sz => ?_
  have zl : zs.length = ks.length := by rw [pz.length_eq, List.length_map]
  walk_at "aw"
  refine comp_filt (fun y => decide (y ∈ rs.map (·.1))) .str (by show 0 + _ ≤ _; omega) (fun y hy Q A hT hF => ?_) ?_
  · walk_at "aw"
    obtain ⟨p, hp, rfl⟩ := List.mem_map.mp (pz.mem_iff.mp hy)
    refine w_kindF T rfl o.nk hp (fun P h => w_var rfl h) ?_
    walk_at "aw"
    rw [show decide (p.2 = ("line" : Str)) = decide (p.1 ∈ rs.map (·.1)) from decide_eq_decide.mpr (kd p hp)]
    generalize decide (p.1 ∈ rs.map (·.1)) = bb at hT hF
    cases bb
    · walk_at "aw"
      exact hF rfl
    · walk_at "aw"
      exact hT rfl
  rw [List.nil_append]
  have pl := lines_p o pz
  have ll := pl.length_eq
  rw [List.length_map] at ll
  walk_at "aw"
  refine w_callW (by decide) (by decide) rfl rfl rfl rfl ?_
  walk_at "aw"
  rw [List.length_map, ln]
  refine law_fill_A T o kd nn n7 r14 nsn (by omega) fun nodes' ks' ns' o' kd' nn' n16 nsn' hl' => ⟨_, _, rfl, ?_⟩
  have kl' := nt_len o'
  walk_at "aw"
  rw [List.length_map, ln]
  rw [show (16 : Int) - (nodes.length : Nat) = ((16 - nodes.length : Nat) : Int) by omega]
  refine w_str (Nat.lt_of_le_of_lt (Nat.log2_le_self _) (by omega)) ?_
  have tl := tos_len nodes.length (by omega)
  refine w_catS (Nat.le_trans (Nat.add_le_add (show _ ≤ 10 from Nat.le_of_ble_eq_true rfl) tl) (Nat.le_of_ble_eq_true rfl)) ?_
  walk_at "aw"
  refine w_catS (by
    rw [Str.length_append]
    exact Nat.le_trans (Nat.add_le_add (Nat.add_le_add (show _ ≤ 10 from Nat.le_of_ble_eq_true rfl) tl) (show _ ≤ 10 from Nat.le_of_ble_eq_true rfl)) (Nat.le_of_ble_eq_true rfl)) ?_
  rw [gotF_eq nodes.length (by omega)]
  have gk := gotF_ok nodes.length (by omega)
  refine w_neD gk gk ?_
  rw [deq_refl 8 _ gk]
  walk_at "aw"
  refine w_namesF T rfl fun us pu su => ?_
  have ul : us.length = ks'.length := by rw [pu.length_eq, List.length_map]
  walk_at "aw"
  refine comp_filt (fun y => !decide (y ∈ rs.map (·.1))) .str (by show 0 + _ ≤ _; omega) (fun y hy Q A hT hF => ?_) ?_
  · walk_at "aw"
    obtain ⟨p, hp, rfl⟩ := List.mem_map.mp (pu.mem_iff.mp hy)
    refine w_kindF T rfl o'.nk hp (fun P h => w_var rfl h) ?_
    walk_at "aw"
    rw [show decide (p.2 = ("line" : Str)) = decide (p.1 ∈ rs.map (·.1)) from decide_eq_decide.mpr (kd' p hp)]
    generalize decide (p.1 ∈ rs.map (·.1)) = bb at hT hF
    cases bb
    · walk_at "aw"
      exact hT rfl
    · walk_at "aw"
      exact hF rfl
  rw [List.nil_append]
  have pm := nodes_p o' nn' pu
  have lm := pm.length_eq
  generalize us.filter (fun y => !decide (y ∈ rs.map (·.1))) = N2 at pm lm
  walk_at "aw"
  rw [show cutD (N2.map D.str) none (some 6) = (N2.take 6).map D.str from cut_take D.str N2 6]
  walk_at "aw"
  have eE : ∀ y ∈ N2.take 6, y ∈ nodes' := fun y hy => pm.mem_iff.mp (List.mem_of_mem_take hy)
  have nE : (N2.take 6).Nodup := (List.take_sublist 6 N2).nodup (pm.nodup_iff.mpr nn')
  have lE : (N2.take 6).length = 6 := by rw [List.length_take]; omega
  generalize N2.take 6 = E at eE nE lE
  obtain ⟨e0, E', rfl⟩ : ∃ a r, E = a :: r := by
    cases E with
    | nil => cases lE
    | cons a r => exact ⟨a, r, rfl⟩
  refine ⟨⟨by rw [List.length_map]; omega, by rw [List.length_map]; omega⟩, ?_⟩
  rw [List.length_map, ll, show ((16 : Int) - (rs.length : Nat)).toNat = 16 - rs.length by omega]
  refine loop_rng (fun i ρ => ∃ (ks2 : NK) (rs2 : NR) (ns2 : List Str) (v7 : Option AV), ρ = [some .dr, some (.ut [w0, w1, w2, w3, w4, w5] [.fz d0, .fz d1, .fz d2, .fz d3, .fz d4, .ol (ns2.map .str)]), some (netAV T.c_Net dx ws ks2 rs2), some (.fz (.lst ((ys.filter fun y => !decide (y ∈ rs.map (·.1))).map .str))), some (.fz (.lst ((zs.filter fun y => decide (y ∈ rs.map (·.1))).map .str))), some (.fz (.str (gotF nodes.length))), some (.fz (.tup ((e0 :: E').map .str))), v7, none, none, none, none] ∧ NtOk nodes' ks2 rs2 ∧ rs2.length = rs.length + i ∧ (∀ y ∈ ks2.map (·.1), y ∈ ns2) ∧ ns2.length = ns'.length + i ∧ flat1 v7 = true) ⟨ks', rs, ns', none, rfl, o', rfl, nsn', rfl, rfl⟩ ?_ ?_
  · rintro i ρ K' hi ⟨ks2, rs2, ns2, v7, rfl, o2, lr, nsn2, lns, _⟩ hK
    have kl2 := nt_len o2
    walk_at "aw"
    refine m_meNM0 rfl rfl ?_
    walk_at "aw"
    refine w_callU rfl rfl rfl ?_
    refine name_A T (by omega) fun nm g hn => ⟨_, rfl, ?_⟩
    have hnk : nm ∉ ks2.map (·.1) := fun z => hn (nsn2 nm z)
    walk_at "aw"
    rw [show (1 : Int) + (0 + (i : Nat)) % 6 = ((1 + i % 6 : Nat) : Int) by omega, cut_take D.str (e0 :: E') (1 + i % 6)]
    walk_at "aw"
    refine ⟨rfl, rfl, rfl, ?_⟩
    show callM _ _ _ _ [.slot 2, .val (.str nm), .val (endsD (e0 :: E')), .val (endsD ((e0 :: E').take (1 + i % 6))), .val (.int ((0 + (i : Nat)) % 31))]
    walk_at "aw"
    refine line_B T o2 (by omega) (by omega) g hnk (fun w hw => ?_) (by omega) (by omega) fun s' t' p1 o1 p2 o2' => ?_
    · simp only [List.mem_cons, List.not_mem_nil, or_false] at hw
      rcases hw with rfl | rfl
      · exact ⟨⟨by omega, by omega⟩, nE, eE⟩
      · have tk : ((e0 :: E').take (1 + i % 6)).length = 1 + i % 6 := by rw [List.length_take]; omega
        exact ⟨⟨by omega, by omega⟩, (List.take_sublist _ _).nodup nE, fun y hy => eE y (List.mem_of_mem_take hy)⟩
    dsimp only [putA, List.set_cons_zero, List.set_cons_succ]
    walk_at "aw"
    have nsn3 : ∀ y ∈ (ks2 ++ [(nm, ("line" : Str))]).map (·.1), y ∈ ns2 ++ [nm] := fun y hy => by
      rw [List.map_append] at hy
      rcases List.mem_append.mp hy with hy | hy
      · exact List.mem_append_left _ (nsn2 y hy)
      · exact List.mem_append_right _ hy
    exact hK _ ⟨_, _, ns2 ++ [nm], _, rfl, o2.line (kd := "line") (r := ⟨s', t', (0 + (i : Nat)) % 31⟩) hnk okD_line (fun y hy => eE y (p1.mem_iff.mp hy)) (fun y hy => eE y (List.mem_of_mem_take (p2.mem_iff.mp hy))), by rw [List.length_append, List.length_singleton]; omega, nsn3, by rw [List.length_append, List.length_singleton]; omega, rfl⟩
  rintro ρ ⟨ks2, rs2, ns2, v7, rfl, o2, lr, nsn2, lns, f7⟩
  have r16 : rs2.length = 16 := by omega
  have k32 := nt_len2 o2 nn'
  walk_at "aw"
  refine m_for (m_itL ?_)
  walk_at "aw"
  refine w_callU rfl rfl rfl ?_
  refine name_A T (by omega) fun nm g hn => ⟨_, rfl, ?_⟩
  have hnk : nm ∉ ks2.map (·.1) := fun z => hn (nsn2 nm z)
  walk_at "aw"
  refine w_ixT (atI_map (f := D.str) (xs := e0 :: E') (i := 0) rfl) ?_
  walk_at "aw"
  generalize hit : [(nm, ("Full" : Str)), ("A", "BadName"), (e0, "Taken"), ("", "BadName")] = items
  show aLoop _ _ _ ([(nm, ("Full" : Str)), ("A", "BadName"), (e0, "Taken"), ("", "BadName")].map fun p : Str × Str => D.str p.1) _
  rw [hit]
  have e0n : e0 ∈ ks2.map (·.1) := (o2.nin e0 (eE e0 List.mem_cons_self)).1
  have hItem : ∀ p ∈ items, ∃ (C : Addr) (fs : List Str) (ds : List D), IsErr T p.2 C ∧ (∀ (q : AV → List AV → Prop) (x : Exn → List AV → Prop), x ⟨C, fs, ds⟩ [netAV T.c_Net dx ws ks2 rs2, .fz (.str p.1)] → A_Net_house T [netAV T.c_Net dx ws ks2 rs2, .fz (.str p.1)] q x) ∧ ∀ (d3 d4 d5 : D) (q : AV → List AV → Prop) (x : Exn → List AV → Prop), x ⟨C, fs, ds⟩ [netAV T.c_Net dx ws ks2 rs2, .fz (.str p.1), .fz d3, .fz d4, .fz d5] → A_Net_line T [netAV T.c_Net dx ws ks2 rs2, .fz (.str p.1), .fz d3, .fz d4, .fz d5] q x := fun p hp => by
    rw [← hit] at hp
    simp only [List.mem_cons, List.not_mem_nil, or_false] at hp
    rcases hp with rfl | rfl | rfl | rfl
    · exact ⟨_, [], [], isFu T, fun q x h => house_full T o2 nn' (by omega) (by omega) g hnk h, fun d3 d4 d5 q x h => line_full T o2 (by omega) (by omega) g hnk h⟩
    · have fb := fresh_bad T (dx := dx) (ws := ws) (ks := ks2) (rs := rs2) (name := "A") (Nat.le_of_ble_eq_true rfl) (by decide +kernel)
      exact ⟨_, [], [], isBN T, fun q x h => house_X T fb h, fun d3 d4 d5 q x h => line_F T fb h⟩
    · have fb := fresh_taken T (dx := dx) (ws := ws) (ks := ks2) (rs := rs2) (name := e0) (o2.gd e0 (eE e0 List.mem_cons_self)) e0n
      exact ⟨_, _, _, isTk T, fun q x h => house_X T fb h, fun d3 d4 d5 q x h => line_F T fb h⟩
    · have fb := fresh_bad T (dx := dx) (ws := ws) (ks := ks2) (rs := rs2) (name := "") (Nat.le_of_ble_eq_true rfl) (by decide +kernel)
      exact ⟨_, [], [], isBN T, fun q x h => house_X T fb h, fun d3 d4 d5 q x h => line_F T fb h⟩
  have l4 : items.length = 4 := by rw [← hit]; rfl
  refine loop_map (fun i ρ => ∃ v7 v8 v9 : Option AV, flat1 v7 = true ∧ ρ = [some .dr, some (.ut [w0, w1, w2, w3, w4, w5] [.fz d0, .fz d1, .fz d2, .fz d3, .fz d4, .ol ((ns2 ++ [nm]).map .str)]), some (netAV T.c_Net dx ws ks2 rs2), some (.fz (.lst ((ys.filter fun y => !decide (y ∈ rs.map (·.1))).map .str))), some (.fz (.lst ((zs.filter fun y => decide (y ∈ rs.map (·.1))).map .str))), some (.ol (((items.take i).flatMap fun p => [p.2, p.2]).map .str)), some (.fz (.tup ((e0 :: E').map .str))), v7, v8, v9, none, none]) ⟨v7, none, none, f7, rfl⟩ ?_ ?_
  · rintro i p ρ K' ep ⟨v7, v8, v9, f7, rfl⟩ hK
    obtain ⟨C, fs, ds, hC, hH, hL⟩ := hItem p (List.mem_of_getElem? ep)
    have hi : i < items.length := (List.getElem?_eq_some_iff.mp ep).1
    have bl : ((items.take i).flatMap fun p => [p.2, p.2]).length ≤ 2 * i := by
      rw [List.length_flatMap]
      simp only [List.length_cons, List.length_nil]
      rw [List.map_const', List.sum_replicate_nat, List.length_take]
      omega
    have e2 : (items.take (i + 1)).flatMap (fun p => [p.2, p.2]) = ((items.take i).flatMap fun p => [p.2, p.2]) ++ List.replicate 2 p.2 := by
      rw [take_snoc ep, List.flatMap_append, List.flatMap_singleton]
      rfl
    rw [e2] at hK
    generalize (items.take i).flatMap (fun p => [p.2, p.2]) = base at bl hK
    walk_at "aw"
    show aLoop _ _ _ ([false, true].map D.bl) _
    refine loop_map (fun j ρ => ∃ v7 v9 : Option AV, flat1 v7 = true ∧ ρ = [some .dr, some (.ut [w0, w1, w2, w3, w4, w5] [.fz d0, .fz d1, .fz d2, .fz d3, .fz d4, .ol ((ns2 ++ [nm]).map .str)]), some (netAV T.c_Net dx ws ks2 rs2), some (.fz (.lst ((ys.filter fun y => !decide (y ∈ rs.map (·.1))).map .str))), some (.fz (.lst ((zs.filter fun y => decide (y ∈ rs.map (·.1))).map .str))), some (.ol ((base ++ List.replicate j p.2).map .str)), some (.fz (.tup ((e0 :: E').map .str))), v7, some (.fz (.str p.1)), v9, none, none]) ⟨v7, v9, f7, by rw [List.replicate_zero, List.append_nil]⟩ ?_ ?_
    · rintro j b ρ K2 eb ⟨v7, v9, f7, rfl⟩ hK2
      have hj : j < 2 := (List.getElem?_eq_some_iff.mp eb).1
      have e3 : ∀ v7' v9' : Option AV, flat1 v7' = true → K2 [some .dr, some (.ut [w0, w1, w2, w3, w4, w5] [.fz d0, .fz d1, .fz d2, .fz d3, .fz d4, .ol ((ns2 ++ [nm]).map .str)]), some (netAV T.c_Net dx ws ks2 rs2), some (.fz (.lst ((ys.filter fun y => !decide (y ∈ rs.map (·.1))).map .str))), some (.fz (.lst ((zs.filter fun y => decide (y ∈ rs.map (·.1))).map .str))), some (.ol ((base ++ List.replicate j p.2).map .str ++ [.str p.2])), some (.fz (.tup ((e0 :: E').map .str))), v7', some (.fz (.str p.1)), v9', none, none] := fun v7' v9' f => hK2 _ ⟨v7', v9', f, by
        rw [List.replicate_succ', ← List.append_assoc, List.map_append (l₁ := base ++ List.replicate j p.2)]
        rfl⟩
      have bl2 : ((base ++ List.replicate j p.2).map D.str).length < 1000000 := by rw [List.length_map, List.length_append, List.length_replicate]; omega
      walk_at "aw"
      refine w_try rfl (by simpa [flatM, flat1] using f7) ?_
      walk_at "aw"
      cases b with
      | true =>
        walk_at "aw"
        refine m_meD rfl rfl ?_
        walk_at "aw"
        refine hL _ _ _ _ _ ?_
        refine ⟨true, exmN hC, fun _ a o => ?_, fun z => nomatch z⟩
        unfold endsE
        dsimp only [putA, List.set_cons_zero, List.set_cons_succ]
        walk_at "aw"
        refine w_kind T rfl hC ?_
        exact ⟨bl2, e3 _ _ rfl⟩
      | false =>
        walk_at "aw"
        refine hH _ _ ?_
        refine ⟨true, exmN hC, fun _ a o => ?_, fun z => nomatch z⟩
        unfold endsE
        dsimp only [putA, List.set_cons_zero, List.set_cons_succ]
        walk_at "aw"
        refine w_kind T rfl hC ?_
        exact ⟨bl2, e3 _ _ rfl⟩
    · rintro ρ ⟨v7, v9', f7, rfl⟩
      exact hK _ ⟨_, _, _, f7, rfl⟩
  rintro ρ ⟨v7, v8, v9, f7, rfl⟩
  rw [l4, ← hit]
  walk_at "aw"
  have okg : okD 8 (.lst ((["Full", "Full", "BadName", "BadName", "Taken", "Taken", "BadName", "BadName"] : List Str).map .str)) = true := by decide +kernel
  refine w_eqD (d := .lst ((["Full", "Full", "BadName", "BadName", "Taken", "Taken", "BadName", "BadName"] : List Str).map .str)) (d' := .lst ((["Full", "Full", "BadName", "BadName", "Taken", "Taken", "BadName", "BadName"] : List Str).map .str)) okg okg ?_
  rw [deq_refl 8 _ okg]
  walk_at "aw"
  refine w_obQ rfl (w_callFO (avs := [.fz (netFD T.c_Net ks2 rs2)]) rfl (len_F T ?_))
  refine ⟨rfl, ⟨by omega, by omega⟩, ?_⟩
  walk_at "aw"
  rw [decide_eq_true (show ((ks2.length : Nat) : Int) = 32 by omega)]
  exact h _
theorem deq_nn (y : Str) : deq (.tup [.str "NoName", .str y]) (.tup [.str "done", .str y]) = false := by
  show ((("NoName" : Str) == "done") && deqs [D.str y] [D.str y]) = false
  rw [show (("NoName" : Str) == "done") = false from by decide +kernel]
  rfl
theorem find_first {L : List Ln} {y : Str} : (L.filter (lean y)).head? = L.find? (lean y) := by
  rw [List.head?_filter]
theorem law_math (T : Tx K mg base) : b_law T (⟨fun _ => False, fun av _ => av = .fz (.bl true), fun _ => False, fun _ => False, fun _ _ => False⟩) (none :: some .dr :: List.replicate 10 none) := by
  unfold b_law
  walk_at "aw"
  refine world_A T (most := 5) (by omega) (by omega) fun w ws hws ok => ?_
  obtain ⟨w0, w1, w2, w3, w4, w5, rfl⟩ : ∃ v0 v1 v2 v3 v4 v5, ws = [v0, v1, v2, v3, v4, v5] := by
    match ws, hws with
    | [v0, v1, v2, v3, v4, v5], _ => exact ⟨v0, v1, v2, v3, v4, v5, rfl⟩
  obtain ⟨es, els, W, _⟩ := ok.ex
  have ct := W.ct
  have le := W.le
  have h2 := ok.h2
  have h4 := ok.h4
  have g3 := ok.g3
  have rm := ok.rm
  rw [List.length_append, List.length_map] at ct
  have lg : ∀ l ∈ w.ls, GoodN l.n ∧ l.n ∉ w.houses ++ w.gates ∧ LnOk (w.houses ++ w.gates) l := fun l hl => by
    rw [els] at hl
    obtain ⟨e, he, rfl⟩ := List.mem_map.mp hl
    exact ⟨W.good _ (W.li e he).1, (W.li e he).2, W.ok e he⟩
  have lns : ∀ l ∈ w.ls, l.n ∈ w.ns := fun l hl => by
    rw [els] at hl
    obtain ⟨e, he, rfl⟩ := List.mem_map.mp hl
    exact (W.li e he).1
  have lnd : (w.ls.map (·.n)).Nodup := by rw [els, List.map_map]; exact W.ln
  have l14 : w.ls.length ≤ 14 := by rw [els, List.length_map]; exact W.le
  have gd : ∀ y ∈ w.houses ++ w.gates, GoodN y := fun y hy => W.good y (W.nn y hy)
  unfold Wrd.av
  walk_at "awt"
  refine law_net_A T ok.nd gd h4 g3 l14 lnd lg fun dx1 ws1 rs1 pr1 => ?_
  have o := nt_of ok.nd gd lnd lg pr1
  have rn := rowsOf_names pr1
  have n7 : (w.houses ++ w.gates).length ≤ 7 := by rw [List.length_append]; omega
  have rl : rs1.length = w.ls.length := by rw [← pr1.length]
  have kn : (hk w.houses ++ gk w.gates ++ lk w.ls).map (·.1) = w.houses ++ w.gates ++ w.ls.map (·.n) := by rw [List.map_append, List.map_append, hk_n, gk_n, lk_n]
  have nsn : ∀ y ∈ (hk w.houses ++ gk w.gates ++ lk w.ls).map (·.1), y ∈ w.ns := fun y hy => by
    rw [kn] at hy
    rcases List.mem_append.mp hy with hy | hy
    · exact W.nn y hy
    · obtain ⟨l, hl, rfl⟩ := List.mem_map.mp hy
      exact lns l hl
  have S : Sit (w.houses ++ w.gates) (hk w.houses ++ gk w.gates ++ lk w.ls) rs1 (byL w.ls) := by
    refine ⟨o, fun p hp => ?_, by rw [rn]; exact (byL_p w.ls).map _, byL_pw w.ls, fun l hl => ?_, n7, by omega, ok.nd⟩
    · have no : ∀ y ∈ rs1.map (·.1), y ∉ w.houses ++ w.gates := fun y hy z => (o.nin y z).2 hy
      rcases List.mem_append.mp hp with hp | hp
      · have hm : p.1 ∈ w.houses ++ w.gates := by
          rcases List.mem_append.mp hp with hp | hp
          · obtain ⟨y, hy, rfl⟩ := List.mem_map.mp hp
            exact List.mem_append_left _ hy
          · obtain ⟨y, hy, rfl⟩ := List.mem_map.mp hp
            exact List.mem_append_right _ hy
        have hk : p.2 ≠ "line" := by
          rcases List.mem_append.mp hp with hp | hp
          · obtain ⟨y, hy, rfl⟩ := List.mem_map.mp hp
            show ("house" : Str) ≠ "line"
            decide
          · obtain ⟨y, hy, rfl⟩ := List.mem_map.mp hp
            show ("gate" : Str) ≠ "line"
            decide
        exact ⟨fun z => absurd z hk, fun z => absurd hm (no _ z)⟩
      · obtain ⟨l, hl, rfl⟩ := List.mem_map.mp hp
        exact ⟨fun _ => by rw [rn]; exact List.mem_map.mpr ⟨l, hl, rfl⟩, fun _ => rfl⟩
    · obtain ⟨⟨n', r⟩, hr, k⟩ := pairedMem pr1 (byL_mem.mp hl)
      have e : n' = l.n := k.n
      subst e
      exact ⟨r, hr, k.s, k.t⟩
  have bl14 : (byL w.ls).length ≤ 14 := by rw [(byL_p w.ls).length_eq]; exact l14
  walk_at "aw"
  refine w_ixT rfl ?_
  dsimp only [seen]
  walk_at "aw"
  refine comp_mapA lnT (by show 0 + _ ≤ _; omega) (fun l hl Q hQ => ?_) ?_
  · unfold Ln.d
    walk_at "aw"
    exact hQ
  rw [List.nil_append]
  walk_at "aw"
  refine w_sortA (okDs_map fun l hl => ?_) (alike_lines _) (sortable_lines _) ?_
  · obtain ⟨g, _, k⟩ := lg l hl
    show (okD 7 (.str l.n) && (okDs 6 (l.f.map .str) && (okDs 6 (l.t.map .str) && (true && true)))) = true
    rw [okD_str g, okDs_strs fun y hy => gd y (k.fi y hy), okDs_strs fun y hy => gd y (k.ti y hy)]
    rfl
  rw [sortD_lines lnd]
  generalize byL w.ls = L0 at S bl14
  generalize hk w.houses ++ gk w.gates ++ lk w.ls = ks1 at S nsn o kn
  have nsn1 := nsn
  walk_at "aw"
  refine w_draw (by omega) (by omega) fun tn t0 t1 => ?_
  walk_at "aw"
  refine w_namesF T rfl fun ys py sy => ?_
  have yl : ys.length = ks1.length := by rw [py.length_eq, List.length_map]
  have kl1 := nt_len o
  walk_at "aw"
  rw [List.length_map]
  refine ⟨⟨by omega, by omega⟩, ?_⟩
  rw [Int.toNat_natCast]
  refine loop_rng (fun i ρ => ∃ (nodes : List Str) (ks : NK) (rs : NR) (L : List Ln) (v7 v8 v9 v10 v11 : Option AV), ρ = [none, some .dr, some (.ut [w0, w1, w2, w3, w4, w5] [.fz (.lst (w.houses.map .str)), .fz (.lst (w.gates.map .str)), .fz (.lst (w.ls.map Ln.d)), .fz (.lst (w.rows.map Row.d)), .fz (.int w.slack), .ol (w.ns.map .str)]), some (netAV T.c_Net dx1 ws1 ks rs), some (.fz (.lst (L.map lnT))), some (.fz (.int tn)), some (.fz (.lst (ys.map .str))), v7, v8, v9, v10, v11] ∧ Sit nodes ks rs L ∧ (∀ y ∈ ks.map (·.1), y ∈ w.ns) ∧ L.length ≤ 14) ⟨_, ks1, rs1, L0, none, none, none, none, none, rfl, S, nsn, bl14⟩ ?_ ?_
  · rintro i ρ K' hi ⟨nodes, ks, rs, L, v7, v8, v9, v10, v11, rfl, S, nsn, bl14⟩ hK
    have hi' : i < ys.length := hi
    walk_at "aw"
    refine w_oIC (by show (0 : Int) < _; rw [List.length_map]; omega) ?_
    refine w_ixE (P := fun d => ∃ y ∈ ys, d = .str y) ?_ ?_
    · have hp : (0 : Int) < ((ys.map D.str).length : Nat) := by rw [List.length_map]; omega
      obtain ⟨k, ek⟩ := Int.eq_ofNat_of_zero_le (Int.emod_nonneg ((0 + (i : Nat)) * 7 + tn) (Int.ne_of_gt hp))
      have hk := Int.emod_lt_of_pos ((0 + (i : Nat)) * 7 + tn) hp
      rw [List.length_map] at hk ek
      have hk2 : k < ys.length := by omega
      refine ⟨.str ys[k], ?_, _, List.getElem_mem hk2, rfl⟩
      rw [List.length_map, ek]
      exact atI_map (f := D.str) (xs := ys) (i := k) (List.getElem?_eq_getElem hk2)
    rintro d ⟨y, hy, rfl⟩
    have gy : GoodN y := W.good y (nsn1 y (py.mem_iff.mp hy))
    have o := S.o
    walk_at "aw"
    refine comp_filt (lean y) (fun l => .str l.n) (by show 0 + _ ≤ _; omega) (fun l hl Q A hT hF => ?_) ?_
    · unfold lnT
      walk_at "aw"
      refine w_ixT rfl ?_
      refine w_inL rfl (flat_strs _) ?_
      rw [inF_str]
      cases h1 : decide (y ∈ l.f) with
      | true =>
        walk_at "aw"
        refine w_ixT rfl ?_
        exact hT (by unfold lean; rw [h1]; rfl)
      | false =>
        walk_at "aw"
        refine w_ixT rfl ?_
        refine w_inL rfl (flat_strs _) ?_
        rw [inF_str]
        cases h2 : decide (y ∈ l.t) with
        | true =>
          walk_at "aw"
          refine w_ixT rfl ?_
          exact hT (by unfold lean; rw [h1, h2]; rfl)
        | false =>
          walk_at "aw"
          exact hF (by unfold lean; rw [h1, h2]; rfl)
    rw [List.nil_append]
    have tail : ∀ (nodes' : List Str) (ks' : NK) (rs' : NR) (d10 : D) (v11 : Option AV) (rt : AV → Env → Prop) (bk ct : Env → Prop) (ex : Exn → Env → Prop), Sit nodes' ks' rs' (L.filter fun l => decide (l.n ≠ y)) → (∀ z ∈ ks'.map (·.1), z ∈ w.ns) → y ∉ rs'.map (·.1) → (y ∈ ks'.map (·.1) ↔ L.filter (lean y) ≠ []) →
        b_law_1 T ⟨K', rt, bk, ct, ex⟩ [none, some .dr, some (.ut [w0, w1, w2, w3, w4, w5] [.fz (.lst (w.houses.map .str)), .fz (.lst (w.gates.map .str)), .fz (.lst (w.ls.map Ln.d)), .fz (.lst (w.rows.map Row.d)), .fz (.int w.slack), .ol (w.ns.map .str)]), some (netAV T.c_Net dx1 ws1 ks' rs'), some (.fz (.lst (L.map lnT))), some (.fz (.int tn)), some (.fz (.lst (ys.map .str))), some (.fz (.int (0 + (i : Nat)))), some (.fz (.str y)), some (.fz (.lst ((L.filter (lean y)).map fun l => .str l.n))), some (.fz d10), v11] := fun nodes' ks' rs' d10 v11 rt bk ct ex S' nsn' hyr hyk => by
      have bl' : (L.filter fun l => decide (l.n ≠ y)).length ≤ 14 := Nat.le_trans (List.length_filter_le _ _) bl14
      have lf := List.length_filter_le (lean y) L
      unfold b_law_1
      walk_at "aw"
      have fin : ∀ v11 : Option AV, K' [none, some .dr, some (.ut [w0, w1, w2, w3, w4, w5] [.fz (.lst (w.houses.map .str)), .fz (.lst (w.gates.map .str)), .fz (.lst (w.ls.map Ln.d)), .fz (.lst (w.rows.map Row.d)), .fz (.int w.slack), .ol (w.ns.map .str)]), some (netAV T.c_Net dx1 ws1 ks' rs'), some (.fz (.lst ((L.filter fun l => decide (l.n ≠ y)).map lnT))), some (.fz (.int tn)), some (.fz (.lst (ys.map .str))), some (.fz (.int (0 + (i : Nat)))), some (.fz (.str y)), some (.fz (.lst ((L.filter (lean y)).map fun l => .str l.n))), some (.fz d10), v11] := fun v11 => hK _ ⟨nodes', ks', rs', _, _, _, _, _, _, rfl, S', nsn', bl'⟩
      refine law_gone_A T S'.o.nk hyr (fun hin => ?_) fun hout => ?_
      · obtain ⟨l, r, er⟩ : ∃ l r, L.filter (lean y) = l :: r := by
          cases e : L.filter (lean y) with
          | nil => exact absurd e (hyk.mp hin)
          | cons l r => exact ⟨l, r, rfl⟩
        rw [er] at fin ⊢
        dsimp only [putA, List.set_cons_zero, List.set_cons_succ]
        walk_at "aw"
        have okY : okD 8 (.lst [.str y]) = true := okDs_strs (k := 7) (w := [y]) fun z hz => by rw [List.mem_singleton.mp hz]; exact gy
        rw [if_neg (by rw [List.length_map, List.length_cons]; omega)]
        rw [show cutD [D.str y, D.str y] none (some (2 - 1)) = [D.str y] from rfl]
        refine w_neD okY okY ?_
        rw [deq_refl 8 _ okY]
        walk_at "aw"
        refine comp_filt (fun l => decide (l.n ≠ y)) lnT (by show 0 + _ ≤ _; omega) (fun l hl Q A hT hF => ?_) ?_
        · have hT' : ¬ l.n = y → Q (lnT l) := fun z => hT (decide_eq_true z)
          have hF' : l.n = y → A := fun z => hF (decide_eq_false fun k => k z)
          unfold lnT at hT' ⊢
          walk_at "aw"
          refine w_ixT rfl ?_
          walk_at "aw"
          by_cases e : l.n = y
          · rw [decide_eq_true e]
            exact hF' e
          · rw [decide_eq_false e]
            walk_at "aw"
            exact hT' e
        rw [List.nil_append]
        exact fin _
      · have er : L.filter (lean y) = [] := by
          cases e : L.filter (lean y) with
          | nil => rfl
          | cons l r => exact absurd (hyk.mpr (by rw [e]; exact fun z => nomatch z)) hout
        rw [er] at fin ⊢
        dsimp only [putA, List.set_cons_zero, List.set_cons_succ]
        walk_at "aw"
        have okY : okD 8 (.lst [.str y, .str y]) = true := okDs_strs (k := 7) (w := [y, y]) fun z hz => by
          simp only [List.mem_cons, List.not_mem_nil, or_false, or_self] at hz
          rw [hz]; exact gy
        rw [show cutD [D.str y, D.str y] none (some (2 - if (((List.map (fun l : Ln => D.str l.n) []).length : Nat) : Int) < 1 then (((List.map (fun l : Ln => D.str l.n) []).length : Nat) : Int) else 1)) = [D.str y, D.str y] from rfl]
        refine w_neD okY okY ?_
        rw [deq_refl 8 _ okY]
        walk_at "aw"
        refine comp_filt (fun l => decide (l.n ≠ y)) lnT (by show 0 + _ ≤ _; omega) (fun l hl Q A hT hF => ?_) ?_
        · have hT' : ¬ l.n = y → Q (lnT l) := fun z => hT (decide_eq_true z)
          have hF' : l.n = y → A := fun z => hF (decide_eq_false fun k => k z)
          unfold lnT at hT' ⊢
          walk_at "aw"
          refine w_ixT rfl ?_
          walk_at "aw"
          by_cases e : l.n = y
          · rw [decide_eq_true e]
            exact hF' e
          · rw [decide_eq_false e]
            walk_at "aw"
            exact hT' e
        rw [List.nil_append]
        exact fin _
    have okT : ∀ a b : Str, PyData.strOk a = true → GoodN b → okD 8 (.tup [.str a, .str b]) = true := fun a b ha hb => by
      show (PyData.strOk a && (okD 7 (.str b) && true)) = true
      rw [ha, okD_str hb]
      rfl
    have sNN : PyData.strOk ("NoName" : Str) = true := by decide +kernel
    have sIU : PyData.strOk ("InUse" : Str) = true := by decide +kernel
    have sDn : PyData.strOk ("done" : Str) = true := by decide +kernel
    have noL : y ∉ ks.map (·.1) → L.filter (lean y) = [] := fun hn => List.filter_eq_nil_iff.mpr fun l hl hb => by
      obtain ⟨r, hr, rf, rt⟩ := S.ro l hl
      obtain ⟨a, b⟩ := o.rw _ hr
      unfold lean at hb
      rw [Bool.or_eq_true, decide_eq_true_iff, decide_eq_true_iff] at hb
      rcases hb with h | h
      · exact hn (o.nin y (a y (rf.mem_iff.mpr h))).1
      · exact hn (o.nin y (b y (rt.mem_iff.mpr h))).1
    walk_at "aw"
    refine law_drop_A T S fun d ks' rs' dr => ?_
    cases dr with
    | no hn =>
      have e0 := noL hn
      have hyr : y ∉ rs.map (·.1) := fun z => hn (o.sub _ z)
      have e4 : L.filter (fun l => decide (l.n ≠ y)) = L := List.filter_eq_self.mpr fun l hl => decide_eq_true fun z => hyr (by rw [← z]; exact S.pn.mem_iff.mp (List.mem_map.mpr ⟨l, hl, rfl⟩))
      have tl := fun d10 v11 rt bk ct ex => tail nodes ks rs d10 v11 rt bk ct ex (by rw [e4]; exact S) nsn hyr ⟨fun z => absurd z hn, fun z => absurd e0 z⟩
      rw [e0] at tl ⊢
      dsimp only [putA, List.set_cons_zero, List.set_cons_succ]
      walk_at "aw"
      rw [show decide ((0 : Int) < (((List.map (fun l : Ln => D.str l.n) []).length : Nat) : Int)) = false from rfl]
      walk_at "aw"
      refine w_neD (okT "NoName" y sNN gy) (okT "done" y sDn gy) ?_
      rw [deq_nn y]
      walk_at "aw"
      refine w_namesF T rfl fun zs pz sz => ?_
      refine w_inL rfl (flat_strs _) ?_
      rw [inF_str, decide_eq_false fun z => hn (pz.mem_iff.mp z)]
      walk_at "aw"
      refine law_drop_A T S fun d2 ks2 rs2 dr2 => ?_
      cases dr2 with
      | no _ =>
        dsimp only [putA, List.set_cons_zero, List.set_cons_succ]
        walk_at "aw"
        refine w_neD (okT "NoName" y sNN gy) (okT "NoName" y sNN gy) ?_
        rw [deq_refl 8 _ (okT "NoName" y sNN gy)]
        walk_at "aw"
        exact tl _ _ _ _ _ _
      | use h2 => exact absurd h2 hn
      | done h2 => exact absurd h2 hn
    | use hy l f =>
      obtain ⟨r, er⟩ : ∃ r, L.filter (lean y) = l :: r := by
        have := find_first (L := L) (y := y)
        rw [f] at this
        cases e : L.filter (lean y) with
        | nil => rw [e] at this; cases this
        | cons a r => rw [e] at this; cases this; exact ⟨r, rfl⟩
      have hl := List.mem_of_find?_eq_some f
      have hb := List.find?_some f
      have hin : y ∈ nodes := by
        obtain ⟨r, hr, rf, rt⟩ := S.ro l hl
        obtain ⟨a, b⟩ := o.rw _ hr
        unfold lean at hb
        rw [Bool.or_eq_true, decide_eq_true_iff, decide_eq_true_iff] at hb
        rcases hb with h | h
        · exact a y (rf.mem_iff.mpr h)
        · exact b y (rt.mem_iff.mpr h)
      have hyr := (o.nin y hin).2
      have gl : GoodN l.n := W.good _ (nsn _ (o.sub _ (S.pn.mem_iff.mp (List.mem_map.mpr ⟨l, hl, rfl⟩))))
      have e4 : L.filter (fun l => decide (l.n ≠ y)) = L := List.filter_eq_self.mpr fun l hl => decide_eq_true fun z => hyr (by rw [← z]; exact S.pn.mem_iff.mp (List.mem_map.mpr ⟨l, hl, rfl⟩))
      have tl := fun d10 v11 rt bk ct ex => tail nodes ks rs d10 v11 rt bk ct ex (by rw [e4]; exact S) nsn hyr ⟨fun _ => (by rw [er]; exact fun z => (nomatch z)), fun _ => hy⟩
      rw [er] at tl ⊢
      dsimp only [putA, List.set_cons_zero, List.set_cons_succ]
      walk_at "aw"
      rw [show decide ((0 : Int) < (((List.map (fun l : Ln => D.str l.n) (l :: r)).length : Nat) : Int)) = true from decide_eq_true (by rw [List.length_map, List.length_cons]; omega)]
      walk_at "aw"
      refine w_ixL (atI_map (f := fun l : Ln => D.str l.n) (xs := l :: r) (i := 0) rfl) ?_
      walk_at "aw"
      refine w_neD (okT "InUse" l.n sIU gl) (okT "InUse" l.n sIU gl) ?_
      rw [deq_refl 8 _ (okT "InUse" l.n sIU gl)]
      walk_at "aw"
      refine w_namesF T rfl fun zs pz sz => ?_
      refine w_ninL rfl (flat_strs _) ?_
      rw [inF_str, decide_eq_true (pz.mem_iff.mpr hy)]
      walk_at "aw"
      exact tl _ _ _ _ _ _
    | done hy f =>
      have e0 : L.filter (lean y) = [] := List.filter_eq_nil_iff.mpr fun l hl => List.find?_eq_none.mp f l hl
      obtain ⟨nodes', S'⟩ : ∃ nodes', Sit nodes' (ks.filter fun p => decide (p.1 ≠ y)) (rs.filter fun p => decide (p.1 ≠ y)) (L.filter fun l => decide (l.n ≠ y)) := by
        by_cases hr : y ∈ rs.map (·.1)
        · exact ⟨_, S.line hr⟩
        · exact ⟨_, S.node hy hr f⟩
      have nk : y ∉ (ks.filter fun p => decide (p.1 ≠ y)).map (·.1) := fun z => (mem_less.mp z).2 rfl
      have tl := fun d10 v11 rt bk ct ex => tail nodes' _ _ d10 v11 rt bk ct ex S' (fun z hz => nsn z (mem_less.mp hz).1) (fun z => (mem_less.mp z).2 rfl) ⟨fun z => absurd z nk, fun z => absurd e0 z⟩
      rw [e0] at tl ⊢
      dsimp only [putA, List.set_cons_zero, List.set_cons_succ]
      walk_at "aw"
      rw [show decide ((0 : Int) < (((List.map (fun l : Ln => D.str l.n) []).length : Nat) : Int)) = false from rfl]
      walk_at "aw"
      refine w_neD (okT "done" y sDn gy) (okT "done" y sDn gy) ?_
      rw [deq_refl 8 _ (okT "done" y sDn gy)]
      walk_at "aw"
      refine law_drop_A T S' fun d2 ks2 rs2 dr2 => ?_
      cases dr2 with
      | no _ =>
        dsimp only [putA, List.set_cons_zero, List.set_cons_succ]
        walk_at "aw"
        refine w_neD (okT "NoName" y sNN gy) (okT "NoName" y sNN gy) ?_
        rw [deq_refl 8 _ (okT "NoName" y sNN gy)]
        walk_at "aw"
        exact tl _ _ _ _ _ _
      | use h2 => exact absurd h2 nk
      | done h2 => exact absurd h2 nk
  rintro ρ ⟨nodes, ks, rs, L, v7, v8, v9, v10, v11, rfl, S, nsn, bl14⟩
  have o := S.o
  have kl := nt_len o
  have n7 := S.n7
  have r14 := S.r14
  walk_at "aw"
  refine w_namesF T rfl fun zs pz sz => ?_
  have zl : zs.length = ks.length := by rw [pz.length_eq, List.length_map]
  walk_at "aw"
  refine comp_filt (fun y => decide (y ∈ rs.map (·.1))) .str (by show 0 + _ ≤ _; omega) (fun y hy Q A hT hF => ?_) ?_
  · walk_at "aw"
    obtain ⟨p, hp, rfl⟩ := List.mem_map.mp (pz.mem_iff.mp hy)
    refine w_kindF T rfl o.nk hp (fun P h => w_var rfl h) ?_
    walk_at "aw"
    rw [show decide (p.2 = ("line" : Str)) = decide (p.1 ∈ rs.map (·.1)) from decide_eq_decide.mpr (S.kd p hp)]
    generalize decide (p.1 ∈ rs.map (·.1)) = bb at hT hF
    cases bb
    · walk_at "aw"
      exact hF rfl
    · walk_at "aw"
      exact hT rfl
  rw [List.nil_append]
  walk_at "aw"
  refine comp_mapA (fun l => .str l.n) (by show 0 + _ ≤ _; omega) (fun l hl Q hQ => ?_) ?_
  · unfold lnT
    walk_at "aw"
    refine w_ixT rfl ?_
    exact hQ
  rw [List.nil_append]
  have e1 : (zs.filter fun y => decide (y ∈ rs.map (·.1))) = L.map (·.n) := by
    have h1 : (zs.filter fun y => decide (y ∈ rs.map (·.1))).Pairwise fun a b : Str => a.cps.toList ≤ b.cps.toList := List.Pairwise.sublist List.filter_sublist (sortedS_pw sz)
    have h2 : (L.map (·.n)).Pairwise fun a b : Str => a.cps.toList ≤ b.cps.toList := List.pairwise_map.mpr S.pw
    exact ((lines_p o pz).trans S.pn.symm).eq_of_pairwise (fun a b _ _ h1 h2 => str_ext (List.le_antisymm h1 h2)) h1 h2
  rw [e1, show L.map (fun l => D.str l.n) = (L.map (·.n)).map D.str from by rw [List.map_map]; rfl]
  have okl : okD 8 (.lst ((L.map (·.n)).map .str)) = true := okDs_strs (k := 7) fun y hy => W.good _ (nsn _ (o.sub _ (S.pn.mem_iff.mp hy)))
  refine w_neD okl okl ?_
  rw [deq_refl 8 _ okl]
  walk_at "aw"
  refine law_filled_A T o S.kd S.nn n7 r14 nsn (by omega) fun avs => ?_
  rfl
theorem ok_law (T : Tx K mg base) : FnOk P w K mg base CX0 7 T.f_law T.fd_law ["_law_script"] (spLaw K T.tb) := by
  refine T.F_law.ok sc_law (fun vs H Q E h => ?_) (fun cdv A outer s0 H vs Q E hr h => ?_)
  · obtain ⟨a, ns, rfl, _⟩ := h
    rfl
  · obtain ⟨a, ns, rfl, hS, hlen, hbits, htb, q⟩ := h
    have cl_Net := T.C_Net
    refine ⟨_, (pss_cons (ps_set (i := 1) sc_law.nd rfl (Or.inl rfl) (pe_call (ok_law_start T) (hr.mono (by decide)) (by rfl) T.g_law_start T.F_law_start.kp T.b_law_start .nil pass0 (pa_cons (pv 0) pa_nil)))
      (pss_cons (ps_set (i := 2) sc_law.nd rfl (Or.inl rfl) (pe_call (ok_law_world T) (hr.mono (by decide)) (by rfl) T.g_law_world T.F_law_world.kp T.b_law_world .nil pass0 (pa_cons (pv 1) (pa_cons pe_int pa_nil))))
      (pss_cons (ps_set (i := 3) sc_law.nd rfl (Or.inr rfl) (pe_call (ok_law_net T) (hr.mono (by decide)) (by rfl) T.g_law_net T.F_law_net.kp T.b_law_net .nil pass0 (pa_cons (pv 2) pa_nil)))
      (pss_cons (ps_set (i := 4) sc_law.nd rfl (Or.inl rfl) (pe_callB (cr_sortA (K := K) rfl (units65 hr)) (by rfl) T.z_sorted bt_sorted (pa_cons (pe_lc (own := [("_law_line", 11)]) (by rfl) sc_law.nd (pi_listK (K := K) rfl (pe_ix (ix_tupK (K := K) rfl) (pv 2) pe_int (fun _ _ => rfl))) (blkOk_by (own := [("_law_line", 11)]) (N := ["_law_script", "_law_s", "_law_world_here", "_law_net_here", "_law_lines", "_law_turn", "_law_all_names", "_law_k", "_law_name_here", "_law_leans", "_law_found", "_law_line"]) (sc := defScope s_law) (by decide +kernel)) (fun _ _ _ _ _ => (pg_name (i := 11) sc_law.nd rfl (Or.inl rfl))) (fun _ _ _ _ _ => pts_nil) (fun _ _ _ _ _ => (pe_callTy (call_tupleK (K := K) rfl) (by rfl) T.z_tuple bt_tuple (pa_cons (pv 11) pa_nil)))) pa_nil)))
      (pss_cons (ps_set (i := 5) sc_law.nd rfl (Or.inl rfl) (pe_call (ok_law_draw T) (hr.mono (by decide)) (by rfl) T.g_law_draw T.F_law_draw.kp T.b_law_draw .nil pass0 (pa_cons (pv 1) (pa_cons pe_int pa_nil))))
      (pss_cons (ps_set (i := 6) sc_law.nd rfl (Or.inl rfl) (pe_meth0 (pv 3) T.C_Net T.m_Net_names (ok_Net_names T) (hr.mono (by decide)) T.b_Net_names .nil pass0))
      (pss_cons (ps_for PassesOwn.never rfl (pi_range1 (by rfl) T.z_range (pa_cons (pe_callB (call_lenK (K := K) rfl) (by rfl) T.z_len bt_len (pa_cons (pv 6) pa_nil)) pa_nil)) (pg_name (i := 7) sc_law.nd rfl (Or.inl rfl))
      (pss_cons (ps_set (i := 8) sc_law.nd rfl (Or.inr rfl) (pe_ix (ix_listK (K := K) rfl) (pv 6) (pe_op op_mod (pe_op op_add (pe_op op_mul (pv 7) pe_int) (pv 5)) (pe_callB (call_lenK (K := K) rfl) (by rfl) T.z_len bt_len (pa_cons (pv 6) pa_nil))) (fun _ _ => rfl)))
      (pss_cons (ps_setLc (i := 9) (own := [("_law_line", 11)]) (by rfl) sc_law.nd rfl rfl (sw_true rfl rfl rfl (by decide +kernel)) (pi_listK (K := K) rfl (pv 4)) (blkOk_by (own := [("_law_line", 11)]) (N := ["_law_script", "_law_s", "_law_world_here", "_law_net_here", "_law_lines", "_law_turn", "_law_all_names", "_law_k", "_law_name_here", "_law_leans", "_law_found", "_law_line"]) (sc := defScope s_law) (by decide +kernel)) (fun _ _ _ _ _ => (pg_name (i := 11) sc_law.nd rfl (Or.inl rfl))) (fun _ _ _ _ _ => (pts_one ((pw_or (pt_cmpR (op_inK (K := K) rfl) (pv 8) (pe_ix (ix_tupK (K := K) rfl) (pv 11) pe_int (fun _ _ => rfl)) (by with_unfolding_all rfl)) (pw_or1 (pt_cmpR (op_inK (K := K) rfl) (pv 8) (pe_ix (ix_tupK (K := K) rfl) (pv 11) pe_int (fun _ _ => rfl)) (by with_unfolding_all rfl))))).pt)) (fun _ _ _ _ _ => (pe_ix (ix_tupK (K := K) rfl) (pv 11) pe_int (fun _ _ => rfl))))
      (pss_cons (ps_set (i := 10) sc_law.nd rfl (Or.inl rfl) (pe_call (ok_law_drop T) (hr.mono (by decide)) (by rfl) T.g_law_drop T.F_law_drop.kp T.b_law_drop .nil pass0 (pa_cons (pv 3) (pa_cons (pv 8) pa_nil))))
      (pss_cons (ps_if (pt_cmpR op_gt (pe_callB (call_lenK (K := K) rfl) (by rfl) T.z_len bt_len (pa_cons (pv 9) pa_nil)) pe_int (nomark _))
      (pss_one (ps_if ((pw_or (pt_cmpR (op_neDK (K := K) rfl hr.units) (pv 10) (pe_tup (pa_cons pe_str (pa_cons (pe_ix (ix_listK (K := K) rfl) (pv 9) pe_int (fun _ _ => rfl)) pa_nil))) (nomark _)) (pw_or1 (pt_cmpR (op_notInK (K := K) rfl) (pv 8) (pe_meth0 (pv 3) T.C_Net T.m_Net_names (ok_Net_names T) (hr.mono (by decide)) T.b_Net_names .nil pass0) (by with_unfolding_all rfl))))).pt
      (pss_one (ps_ret pe_bl))
      pss_nil))
      (pss_one (ps_if ((pw_or ((pw_and (pt_cmpR (op_neDK (K := K) rfl hr.units) (pv 10) (pe_tup (pa_cons pe_str (pa_cons (pv 8) pa_nil))) (nomark _)) (pw_and1 (pt_cmpR (op_inK (K := K) rfl) (pv 8) (pe_meth0 (pv 3) T.C_Net T.m_Net_names (ok_Net_names T) (hr.mono (by decide)) T.b_Net_names .nil pass0) (by with_unfolding_all rfl))))).pt (pw_or1 (pt_cmpR (op_neDK (K := K) rfl hr.units) (pe_call (ok_law_drop T) (hr.mono (by decide)) (by rfl) T.g_law_drop T.F_law_drop.kp T.b_law_drop .nil pass0 (pa_cons (pv 3) (pa_cons (pv 8) pa_nil))) (pe_tup (pa_cons pe_str (pa_cons (pv 8) pa_nil))) (nomark _))))).pt
      (pss_one (ps_ret pe_bl))
      pss_nil)))
      (pss_cons (ps_if (pt_cmpR (op_neDK (K := K) rfl hr.units) (pe_call (ok_law_gone T) (hr.mono (by decide)) (by rfl) T.g_law_gone T.F_law_gone.kp T.b_law_gone .nil pass0 (pa_cons (pv 3) (pa_cons (pv 8) pa_nil))) (pe_slice (sl_listK (K := K) rfl) (pe_lst (pa_cons (pv 8) (pa_cons (pv 8) pa_nil))) po_none (po_some (pe_op op_sub pe_int (pe_callB (call_min2 (by rfl)) (by rfl) T.z_min bt_min (pa_cons pe_int (pa_cons (pe_callB (call_lenK (K := K) rfl) (by rfl) T.z_len bt_len (pa_cons (pv 9) pa_nil)) pa_nil)))))) (nomark _))
      (pss_one (ps_ret pe_bl))
      pss_nil)
      (pss_one (ps_setLc (i := 4) (own := [("_law_line", 11)]) (by rfl) sc_law.nd rfl rfl (sw_true rfl rfl rfl (by decide +kernel)) (pi_listK (K := K) rfl (pv 4)) (blkOk_by (own := [("_law_line", 11)]) (N := ["_law_script", "_law_s", "_law_world_here", "_law_net_here", "_law_lines", "_law_turn", "_law_all_names", "_law_k", "_law_name_here", "_law_leans", "_law_found", "_law_line"]) (sc := defScope s_law) (by decide +kernel)) (fun _ _ _ _ _ => (pg_name (i := 11) sc_law.nd rfl (Or.inl rfl))) (fun _ _ _ _ _ => (pts_one (pt_cmpR op_ne (pe_ix (ix_tupK (K := K) rfl) (pv 11) pe_int (fun _ _ => rfl)) (pv 8) (nomark _)))) (fun _ _ _ _ _ => (pv 11))))))))))
      (pss_cons (ps_if (pt_cmpR (op_neDK (K := K) rfl hr.units) (pe_lc (own := [("_law_name_here", 8)]) (by rfl) sc_law.nd (pi_listK (K := K) rfl (pe_meth0 (pv 3) T.C_Net T.m_Net_names (ok_Net_names T) (hr.mono (by decide)) T.b_Net_names .nil pass0)) (blkOk_by (own := [("_law_name_here", 8)]) (N := ["_law_script", "_law_s", "_law_world_here", "_law_net_here", "_law_lines", "_law_turn", "_law_all_names", "_law_k", "_law_name_here", "_law_leans", "_law_found", "_law_line"]) (sc := defScope s_law) (by decide +kernel)) (fun _ _ _ _ _ => (pg_name (i := 8) sc_law.nd rfl (Or.inl rfl))) (fun _ _ _ _ _ => (pts_one (pt_cmpR op_eq (pe_meS (pv 3) T.C_Net T.m_Net_kind (ok_Net_kind T) (hr.mono (by decide)) T.b_Net_kind .nil coldAt (pa_cons (pv 8) pa_nil)) pe_str (nomark _)))) (fun _ _ _ _ _ => (pv 8))) (pe_lc (own := [("_law_line", 11)]) (by rfl) sc_law.nd (pi_listK (K := K) rfl (pv 4)) (blkOk_by (own := [("_law_line", 11)]) (N := ["_law_script", "_law_s", "_law_world_here", "_law_net_here", "_law_lines", "_law_turn", "_law_all_names", "_law_k", "_law_name_here", "_law_leans", "_law_found", "_law_line"]) (sc := defScope s_law) (by decide +kernel)) (fun _ _ _ _ _ => (pg_name (i := 11) sc_law.nd rfl (Or.inl rfl))) (fun _ _ _ _ _ => pts_nil) (fun _ _ _ _ _ => (pe_ix (ix_tupK (K := K) rfl) (pv 11) pe_int (fun _ _ => rfl)))) (nomark _))
      (pss_one (ps_ret pe_bl))
      pss_nil)
      (pss_one (ps_ret (pe_call (ok_law_filled T) (hr.mono (by decide)) (by rfl) T.g_law_filled T.F_law_filled.kp T.b_law_filled .nil pass0 (pa_cons (pv 1) (pa_cons (pv 2) (pa_cons (pv 3) pa_nil)))))))))))))), ?_⟩
    refine i_seq (i_set (i_call (i_cons (i_var rfl (i_nil ?_)))))
    refine ⟨a, ns, fun _ => none, rfl, hS, fun _ _ z => (nomatch z), fun s U H1 g D n0 => ?_⟩
    refine law_run (K := K) (nl := 10) (x := a) (U := fun _ => none) ⟨htb, fun _ _ z => (by cases z)⟩ g D n0 q (fun U0 H0 X E => ?_) (law_math T)
    unfold b_law b_law_1
    exact (sim_seq (sim_setO rfl (sim_call (sim_slot (sim_arg sim_int sim_args))))
    (sim_seq (sim_setO rfl (sim_call (sim_arg (sim_tupE sim_varW) sim_args)))
    (sim_seq (sim_set rfl (sim_fz (sim_cbO bu_sortA (sim_consW (SimE.w (sim_fz (sim_lc (sim_itLW (SimE.w (sim_op op_ixT sim_varW (SimE.w sim_int)))) (sim_gN rfl) sim_yes (sim_cb bu_tuple (sim_consW (SimE.w sim_var) sim_nilW)) rfl rfl))) sim_nilW))))
    (sim_seq (sim_set rfl (sim_fz (sim_call (sim_slot (sim_arg sim_int sim_args)))))
    (sim_seq (sim_set rfl (sim_fz (sim_meF0 sim_args)))
    (sim_seq (sim_for (sim_rng1 (sim_consW (SimE.w (sim_cb bu_len (sim_consW (SimE.w sim_var) sim_nilW))) sim_nilW)) (sim_gN rfl)
    (sim_seq (sim_set rfl (sim_op op_ixL (SimE.w sim_var) (SimE.w (sim_op (op_ic (fun _ _ _ => rfl)) (SimE.w (sim_op (op_i0 (fun _ _ _ => rfl)) (SimE.w (sim_op (op_ic (fun _ _ _ => rfl)) (SimE.w sim_var) (SimE.w sim_int))) (SimE.w sim_var))) (SimE.w (sim_cb bu_len (sim_consW (SimE.w sim_var) sim_nilW)))))))
    (sim_seq (sim_set rfl (sim_fz (sim_lc (sim_itLW (SimE.w sim_var)) (sim_gN rfl) (sim_or (sim_test (SimE.w (sim_op op_inS' (SimE.w sim_var) (SimE.w (sim_op op_ixT (SimE.w sim_var) (SimE.w sim_int)))))) (sim_test (SimE.w (sim_op op_inS' (SimE.w sim_var) (SimE.w (sim_op op_ixT (SimE.w sim_var) (SimE.w sim_int))))))) (sim_op op_ixT (SimE.w sim_var) (SimE.w sim_int)) rfl rfl)))
    (sim_seq (simM_set rfl (simM_fz (simM_call (sim_slotO (sim_arg sim_var sim_args)))))
    (sim_seq (sim_if (sim_test (SimE.w (sim_op (op_i0 (fun _ _ _ => rfl)) (SimE.w (sim_cb bu_len (sim_consW (SimE.w sim_var) sim_nilW))) (SimE.w sim_int))))
    (sim_if (sim_or (sim_test (SimE.w (sim_op op_neDD (SimE.w sim_var) (SimE.w (sim_tup (sim_cons sim_str (sim_cons (sim_op op_ixL (SimE.w sim_var) (SimE.w sim_int)) sim_nil))))))) (sim_test (SimE.w (sim_op op_notInS' (SimE.w sim_var) (SimE.w (sim_fz (sim_meF0 sim_args)))))))
    (sim_ret sim_bl)
    sim_next)
    (simM_if (simM_or (simM_T (sim_and (sim_test (SimE.w (sim_op op_neDD (SimE.w sim_var) (SimE.w (sim_tup (sim_cons sim_str (sim_cons sim_var sim_nil))))))) (sim_test (SimE.w (sim_op op_inS' (SimE.w sim_var) (SimE.w (sim_fz (sim_meF0 sim_args)))))))) (simM_test (simM_opL op_neDD (simM_fz (simM_call (sim_slotO (sim_arg sim_var sim_args)))) (SimE.w (sim_tup (sim_cons sim_str (sim_cons sim_var sim_nil)))))))
    (sim_ret sim_bl)
    sim_next))
    (sim_seq (simM_if (simM_test (simM_opL op_neDD (simM_fz (simM_call (sim_slotO (sim_arg sim_var sim_args)))) (SimE.w (sim_fz (sim_slO sl_lD (SimE.w (sim_fz (sim_lst (sim_cons sim_var (sim_cons sim_var sim_nil))))) sim_noPart (sim_part (SimE.w (sim_op (op_i0 (fun _ _ _ => rfl)) (SimE.w sim_int) (SimE.w (sim_cb bu_min2 (sim_consW (SimE.w sim_int) (sim_consW (SimE.w (sim_cb bu_len (sim_consW (SimE.w sim_var) sim_nilW))) sim_nilW))))))))))))
    (sim_ret sim_bl)
    sim_next)
    (sim_set rfl (sim_fz (sim_lc (sim_itLW (SimE.w sim_var)) (sim_gN rfl) (sim_test (SimE.w (sim_op op_neS (SimE.w (sim_op op_ixT (SimE.w sim_var) (SimE.w sim_int))) (SimE.w sim_var)))) sim_var rfl rfl)))))))))
    (sim_seq (sim_if (sim_test (SimE.w (sim_op op_neDD (SimE.w (sim_fz (sim_lc (sim_itLW (SimE.w (sim_fz (sim_meF0 sim_args)))) (sim_gN rfl) (sim_test (SimE.w (sim_op op_eqS (SimE.w (sim_fz (sim_meFS0 (sim_arg sim_var sim_args)))) (SimE.w sim_str)))) sim_var rfl rfl))) (SimE.w (sim_fz (sim_lc (sim_itLW (SimE.w sim_var)) (sim_gN rfl) sim_yes (sim_op op_ixT (SimE.w sim_var) (SimE.w sim_int)) rfl rfl))))))
    (sim_ret sim_bl)
    sim_next)
    (simM_retO (simM_call (sim_slot (sim_slotO (sim_slotO sim_args))))))))))))
end
theorem all_mk {l : PySem.W.OpenLaw} {w : World} {K : PySem.W.Frag} {h : Heap} {mg : Str → Option Value} {fa : Addr} (X : K.In h) (G : h.Ns mainGlobals mg) (hfa : mg "law" = some (.ref fa))
    {oc_Net : Addr}
    {f0 : Addr} {od0 an0 : Option Addr} {sl0 : Array (Option Value)} {oc0 kV0 dc0 pm0 cd0 ct0 : Value}
    {f1 : Addr} {od1 an1 : Option Addr} {sl1 : Array (Option Value)} {oc1 kV1 dc1 pm1 cd1 ct1 : Value}
    {f2 : Addr} {od2 an2 : Option Addr} {sl2 : Array (Option Value)} {oc2 kV2 dc2 pm2 cd2 ct2 : Value}
    {f3 : Addr} {od3 an3 : Option Addr} {sl3 : Array (Option Value)} {oc3 kV3 dc3 pm3 cd3 ct3 : Value}
    {f4 : Addr} {od4 an4 : Option Addr} {sl4 : Array (Option Value)} {oc4 kV4 dc4 pm4 cd4 ct4 : Value}
    {f5 : Addr} {od5 an5 : Option Addr} {sl5 : Array (Option Value)} {oc5 kV5 dc5 pm5 cd5 ct5 : Value}
    {f6 : Addr} {od6 an6 : Option Addr} {sl6 : Array (Option Value)} {oc6 kV6 dc6 pm6 cd6 ct6 : Value}
    {f7 : Addr} {od7 an7 : Option Addr} {sl7 : Array (Option Value)} {oc7 kV7 dc7 pm7 cd7 ct7 : Value}
    {f8 : Addr} {od8 an8 : Option Addr} {sl8 : Array (Option Value)} {oc8 kV8 dc8 pm8 cd8 ct8 : Value}
    {f9 : Addr} {od9 an9 : Option Addr} {sl9 : Array (Option Value)} {oc9 kV9 dc9 pm9 cd9 ct9 : Value}
    {f10 : Addr} {od10 an10 : Option Addr} {sl10 : Array (Option Value)} {oc10 dc10 pm10 cd10 ct10 : Value} {DD10 : Addr} {tk10_0 : Tok}
    {f11 : Addr} {od11 an11 : Option Addr} {sl11 : Array (Option Value)} {oc11 kV11 dc11 pm11 cd11 ct11 : Value}
    {f12 : Addr} {od12 an12 : Option Addr} {sl12 : Array (Option Value)} {oc12 kV12 dc12 pm12 cd12 ct12 : Value}
    {f13 : Addr} {od13 an13 : Option Addr} {sl13 : Array (Option Value)} {oc13 kV13 dc13 pm13 cd13 ct13 : Value}
    {f14 : Addr} {od14 an14 : Option Addr} {sl14 : Array (Option Value)} {oc14 kV14 dc14 pm14 cd14 ct14 : Value}
    {f15 : Addr} {od15 an15 : Option Addr} {sl15 : Array (Option Value)} {oc15 kV15 dc15 pm15 cd15 ct15 : Value}
    {f16 : Addr} {od16 an16 : Option Addr} {sl16 : Array (Option Value)} {oc16 kV16 dc16 pm16 cd16 ct16 : Value}
    {f17 : Addr} {od17 an17 : Option Addr} {sl17 : Array (Option Value)} {oc17 kV17 dc17 pm17 cd17 ct17 : Value}
    {f18 : Addr} {od18 an18 : Option Addr} {sl18 : Array (Option Value)} {oc18 kV18 dc18 pm18 cd18 ct18 : Value}
    {f19 : Addr} {od19 an19 : Option Addr} {sl19 : Array (Option Value)} {oc19 kV19 dc19 pm19 cd19 ct19 : Value}
    {f20 : Addr} {od20 an20 : Option Addr} {sl20 : Array (Option Value)} {oc20 kV20 dc20 pm20 cd20 ct20 : Value}
    {f21 : Addr} {od21 an21 : Option Addr} {sl21 : Array (Option Value)} {oc21 kV21 dc21 pm21 cd21 ct21 : Value}
    {f22 : Addr} {od22 an22 : Option Addr} {sl22 : Array (Option Value)} {oc22 kV22 dc22 pm22 cd22 ct22 : Value}
    {f23 : Addr} {od23 an23 : Option Addr} {sl23 : Array (Option Value)} {oc23 kV23 dc23 pm23 cd23 ct23 : Value}
    {f24 : Addr} {od24 an24 : Option Addr} {sl24 : Array (Option Value)} {oc24 kV24 dc24 pm24 cd24 ct24 : Value}
    {f25 : Addr} {od25 an25 : Option Addr} {sl25 : Array (Option Value)} {oc25 kV25 dc25 pm25 cd25 ct25 : Value}
    {f26 : Addr} {od26 an26 : Option Addr} {sl26 : Array (Option Value)} {oc26 kV26 dc26 pm26 cd26 ct26 : Value}
    {f27 : Addr} {od27 an27 : Option Addr} {sl27 : Array (Option Value)} {oc27 kV27 dc27 pm27 cd27 ct27 : Value}
    {f28 : Addr} {od28 an28 : Option Addr} {sl28 : Array (Option Value)} {oc28 kV28 dc28 pm28 cd28 ct28 : Value}
    {f29 : Addr} {od29 an29 : Option Addr} {sl29 : Array (Option Value)} {oc29 kV29 dc29 pm29 cd29 ct29 : Value}
    {f30 : Addr} {od30 an30 : Option Addr} {sl30 : Array (Option Value)} {oc30 kV30 dc30 pm30 cd30 ct30 : Value}
    {f31 : Addr} {od31 an31 : Option Addr} {sl31 : Array (Option Value)} {oc31 kV31 dc31 pm31 cd31 ct31 : Value}
    {f32 : Addr} {od32 an32 : Option Addr} {sl32 : Array (Option Value)} {oc32 kV32 dc32 pm32 cd32 ct32 : Value}
    {f33 : Addr} {od33 an33 : Option Addr} {sl33 : Array (Option Value)} {oc33 kV33 dc33 pm33 cd33 ct33 : Value}
    {tc_LETTERS : Tok}
    {tc_MOST : Tok}
    {tc_MOST_ENDS : Tok}
    {ec_NetError : Addr} {ec_BadName : Addr} {ec_BadNumber : Addr} {ec_BadWay : Addr} {ec_BadEnds : Addr} {ec_BadLine : Addr} {ec_Taken : Addr} {ec_NoName : Addr} {ec_InUse : Addr} {ec_Full : Addr} {ec_Tight : Addr} {ec_Late : Addr} {ec_Heavy : Addr} {ec_NoPlan : Addr} {ec_NoRoom : Addr} {ec_NoStep : Addr} {ec_TooFew : Addr} {ec_BadPage : Addr}
    {on_Taken oq_Taken : Str} {oN_Taken : Addr} {ob_Taken : List Value} {os_Taken : List Str} {ou_Taken : List Value} {oa_Taken : Bool} {ol_Taken : Option Bool} {od_Taken : Option Addr} {oA_Taken oB_Taken oC_Taken oD_Taken oE_Taken : Option Value}
    {on_NoName oq_NoName : Str} {oN_NoName : Addr} {ob_NoName : List Value} {os_NoName : List Str} {ou_NoName : List Value} {oa_NoName : Bool} {ol_NoName : Option Bool} {od_NoName : Option Addr} {oA_NoName oB_NoName oC_NoName oD_NoName oE_NoName : Option Value}
    {on_InUse oq_InUse : Str} {oN_InUse : Addr} {ob_InUse : List Value} {os_InUse : List Str} {ou_InUse : List Value} {oa_InUse : Bool} {ol_InUse : Option Bool} {od_InUse : Option Addr} {oA_InUse oB_InUse oC_InUse oD_InUse oE_InUse : Option Value}
    (oa_Net : PySem.W.nsIn K mainGlobals "Net" = some (some (.ref oc_Net))) (opg_Net : PySem.W.plainGet K oc_Net Str.empty = true) (ohd_Net : PySem.W.hasDictIn K oc_Net = true) (opo_Net : PySem.W.plainOver K oc_Net = true) (osa_Net : PySem.W.findIn K (.ref oc_Net) "__setattr__" = some (some (.builtin "object.__setattr__")))
    (on_Net_kinds : PySem.W.findIn K (.ref oc_Net) "kinds" = some none)
    (on_Net_rows : PySem.W.findIn K (.ref oc_Net) "rows" = some none)
    (iA_Net : PySem.W.kitCls K (.type "str") (.ref oc_Net) = some false) (iB_Net : PySem.W.findIn K (.ref oc_Net) "__class__" = some (some (.builtin "object.__class__"))) (iC_Net : PySem.W.specialIn K (.builtin "object.__class__") "__get__" = some (some (.builtin "getset_descriptor.__get__"))) (iD_Net : PySem.W.takesIn K (.builtin "object.__class__") = some true) (iE_Net : PySem.W.mroIn K oc_Net (.type "object") = some true) (iF_Net : PySem.W.subIn K (.type "str") (.ref oc_Net) = some false)
    (jA_Net : PySem.W.kitCls K (.type "int") (.ref oc_Net) = some false) (jB_Net : PySem.W.subIn K (.type "int") (.ref oc_Net) = some false)
    (omk_Net : PySem.W.makesIn K oc_Net = true) (okp_Net : PySem.W.keepIn K (.ref oc_Net) = true)
    (a0 : PySem.W.findIn K (.ref ec_NoName) "__init__" = some (some (.ref f0))) (i0 : PySem.W.typeIn K (.ref f0) = some (.type "function")) (l0 : K.lookup f0 = some ⟨oc0, od0, .func (PySem.W.fnOf "__init__" "NoName.__init__" (defArgs s_NoName_init) (defBody s_NoName_init) (defScope s_NoName_init) .none kV0 dc0 pm0 an0 cd0 ct0), sl0⟩) (c0 : PySem.W.codeIn K cd0 "NoName.__init__" = true) (k0 : PySem.W.keepIn K (.ref f0) = true)
    (a1 : PySem.W.findIn K (.ref ec_Taken) "__init__" = some (some (.ref f1))) (i1 : PySem.W.typeIn K (.ref f1) = some (.type "function")) (l1 : K.lookup f1 = some ⟨oc1, od1, .func (PySem.W.fnOf "__init__" "Taken.__init__" (defArgs s_Taken_init) (defBody s_Taken_init) (defScope s_Taken_init) .none kV1 dc1 pm1 an1 cd1 ct1), sl1⟩) (c1 : PySem.W.codeIn K cd1 "Taken.__init__" = true) (k1 : PySem.W.keepIn K (.ref f1) = true)
    (a2 : PySem.W.findIn K (.ref ec_InUse) "__init__" = some (some (.ref f2))) (i2 : PySem.W.typeIn K (.ref f2) = some (.type "function")) (l2 : K.lookup f2 = some ⟨oc2, od2, .func (PySem.W.fnOf "__init__" "InUse.__init__" (defArgs s_InUse_init) (defBody s_InUse_init) (defScope s_InUse_init) .none kV2 dc2 pm2 an2 cd2 ct2), sl2⟩) (c2 : PySem.W.codeIn K cd2 "InUse.__init__" = true) (k2 : PySem.W.keepIn K (.ref f2) = true)
    (a3 : PySem.W.nsIn K mainGlobals "within" = some (some (.ref f3))) (l3 : K.lookup f3 = some ⟨oc3, od3, .func (PySem.W.fnOf "within" "within" (defArgs s_within) (defBody s_within) (defScope s_within) .none kV3 dc3 pm3 an3 cd3 ct3), sl3⟩) (c3 : PySem.W.codeIn K cd3 "within" = true) (k3 : PySem.W.keepIn K (.ref f3) = true)
    (a4 : PySem.W.nsIn K mainGlobals "check" = some (some (.ref f4))) (l4 : K.lookup f4 = some ⟨oc4, od4, .func (PySem.W.fnOf "check" "check" (defArgs s_check) (defBody s_check) (defScope s_check) .none kV4 dc4 pm4 an4 cd4 ct4), sl4⟩) (c4 : PySem.W.codeIn K cd4 "check" = true) (k4 : PySem.W.keepIn K (.ref f4) = true)
    (a5 : PySem.W.nsIn K mainGlobals "good_name" = some (some (.ref f5))) (l5 : K.lookup f5 = some ⟨oc5, od5, .func (PySem.W.fnOf "good_name" "good_name" (defArgs s_good_name) (defBody s_good_name) (defScope s_good_name) .none kV5 dc5 pm5 an5 cd5 ct5), sl5⟩) (c5 : PySem.W.codeIn K cd5 "good_name" = true) (k5 : PySem.W.keepIn K (.ref f5) = true)
    (a6 : PySem.W.findIn K (.ref oc_Net) "__init__" = some (some (.ref f6))) (i6 : PySem.W.isFn K (.ref f6) = true) (l6 : K.lookup f6 = some ⟨oc6, od6, .func (PySem.W.fnOf "__init__" "Net.__init__" (defArgs s_Net_init) (defBody s_Net_init) (defScope s_Net_init) .none kV6 dc6 pm6 an6 cd6 ct6), sl6⟩) (c6 : PySem.W.codeIn K cd6 "Net.__init__" = true) (k6 : PySem.W.keepIn K (.ref f6) = true)
    (a7 : PySem.W.findIn K (.ref oc_Net) "fresh" = some (some (.ref f7))) (i7 : PySem.W.isFn K (.ref f7) = true) (l7 : K.lookup f7 = some ⟨oc7, od7, .func (PySem.W.fnOf "fresh" "Net.fresh" (defArgs s_Net_fresh) (defBody s_Net_fresh) (defScope s_Net_fresh) .none kV7 dc7 pm7 an7 cd7 ct7), sl7⟩) (c7 : PySem.W.codeIn K cd7 "Net.fresh" = true) (k7 : PySem.W.keepIn K (.ref f7) = true)
    (a8 : PySem.W.findIn K (.ref oc_Net) "house" = some (some (.ref f8))) (i8 : PySem.W.isFn K (.ref f8) = true) (l8 : K.lookup f8 = some ⟨oc8, od8, .func (PySem.W.fnOf "house" "Net.house" (defArgs s_Net_house) (defBody s_Net_house) (defScope s_Net_house) .none kV8 dc8 pm8 an8 cd8 ct8), sl8⟩) (c8 : PySem.W.codeIn K cd8 "Net.house" = true) (k8 : PySem.W.keepIn K (.ref f8) = true)
    (a9 : PySem.W.findIn K (.ref oc_Net) "gate" = some (some (.ref f9))) (i9 : PySem.W.isFn K (.ref f9) = true) (l9 : K.lookup f9 = some ⟨oc9, od9, .func (PySem.W.fnOf "gate" "Net.gate" (defArgs s_Net_gate) (defBody s_Net_gate) (defScope s_Net_gate) .none kV9 dc9 pm9 an9 cd9 ct9), sl9⟩) (c9 : PySem.W.codeIn K cd9 "Net.gate" = true) (k9 : PySem.W.keepIn K (.ref f9) = true)
    (a10 : PySem.W.findIn K (.ref oc_Net) "line" = some (some (.ref f10))) (i10 : PySem.W.isFn K (.ref f10) = true) (l10 : K.lookup f10 = some ⟨oc10, od10, .func (PySem.W.fnOf "line" "Net.line" (defArgs s_Net_line) (defBody s_Net_line) (defScope s_Net_line) .none (.ref DD10) dc10 pm10 an10 cd10 ct10), sl10⟩) (c10 : PySem.W.codeIn K cd10 "Net.line" = true) (k10 : PySem.W.keepIn K (.ref f10) = true)
    (q10_0 : PySem.W.nsIn K DD10 "wire" = some (some (.int 1 tk10_0)))
    (a11 : PySem.W.findIn K (.ref oc_Net) "names" = some (some (.ref f11))) (i11 : PySem.W.isFn K (.ref f11) = true) (l11 : K.lookup f11 = some ⟨oc11, od11, .func (PySem.W.fnOf "names" "Net.names" (defArgs s_Net_names) (defBody s_Net_names) (defScope s_Net_names) .none kV11 dc11 pm11 an11 cd11 ct11), sl11⟩) (c11 : PySem.W.codeIn K cd11 "Net.names" = true) (k11 : PySem.W.keepIn K (.ref f11) = true)
    (a12 : PySem.W.findIn K (.ref oc_Net) "kind" = some (some (.ref f12))) (i12 : PySem.W.isFn K (.ref f12) = true) (l12 : K.lookup f12 = some ⟨oc12, od12, .func (PySem.W.fnOf "kind" "Net.kind" (defArgs s_Net_kind) (defBody s_Net_kind) (defScope s_Net_kind) .none kV12 dc12 pm12 an12 cd12 ct12), sl12⟩) (c12 : PySem.W.codeIn K cd12 "Net.kind" = true) (k12 : PySem.W.keepIn K (.ref f12) = true)
    (a13 : PySem.W.findIn K (.ref oc_Net) "ends" = some (some (.ref f13))) (i13 : PySem.W.isFn K (.ref f13) = true) (l13 : K.lookup f13 = some ⟨oc13, od13, .func (PySem.W.fnOf "ends" "Net.ends" (defArgs s_Net_ends) (defBody s_Net_ends) (defScope s_Net_ends) .none kV13 dc13 pm13 an13 cd13 ct13), sl13⟩) (c13 : PySem.W.codeIn K cd13 "Net.ends" = true) (k13 : PySem.W.keepIn K (.ref f13) = true)
    (a14 : PySem.W.findIn K (.ref oc_Net) "drop" = some (some (.ref f14))) (i14 : PySem.W.isFn K (.ref f14) = true) (l14 : K.lookup f14 = some ⟨oc14, od14, .func (PySem.W.fnOf "drop" "Net.drop" (defArgs s_Net_drop) (defBody s_Net_drop) (defScope s_Net_drop) .none kV14 dc14 pm14 an14 cd14 ct14), sl14⟩) (c14 : PySem.W.codeIn K cd14 "Net.drop" = true) (k14 : PySem.W.keepIn K (.ref f14) = true)
    (a15 : PySem.W.findIn K (.ref oc_Net) "__len__" = some (some (.ref f15))) (i15 : PySem.W.isFn K (.ref f15) = true) (l15 : K.lookup f15 = some ⟨oc15, od15, .func (PySem.W.fnOf "__len__" "Net.__len__" (defArgs s_Net_len) (defBody s_Net_len) (defScope s_Net_len) .none kV15 dc15 pm15 an15 cd15 ct15), sl15⟩) (c15 : PySem.W.codeIn K cd15 "Net.__len__" = true) (k15 : PySem.W.keepIn K (.ref f15) = true)
    (a16 : PySem.W.nsIn K mainGlobals "_law_start" = some (some (.ref f16))) (l16 : K.lookup f16 = some ⟨oc16, od16, .func (PySem.W.fnOf "_law_start" "_law_start" (defArgs s_law_start) (defBody s_law_start) (defScope s_law_start) .none kV16 dc16 pm16 an16 cd16 ct16), sl16⟩) (c16 : PySem.W.codeIn K cd16 "_law_start" = true) (k16 : PySem.W.keepIn K (.ref f16) = true)
    (a17 : PySem.W.nsIn K mainGlobals "_law_draw" = some (some (.ref f17))) (l17 : K.lookup f17 = some ⟨oc17, od17, .func (PySem.W.fnOf "_law_draw" "_law_draw" (defArgs s_law_draw) (defBody s_law_draw) (defScope s_law_draw) .none kV17 dc17 pm17 an17 cd17 ct17), sl17⟩) (c17 : PySem.W.codeIn K cd17 "_law_draw" = true) (k17 : PySem.W.keepIn K (.ref f17) = true)
    (a18 : PySem.W.nsIn K mainGlobals "_law_pick" = some (some (.ref f18))) (l18 : K.lookup f18 = some ⟨oc18, od18, .func (PySem.W.fnOf "_law_pick" "_law_pick" (defArgs s_law_pick) (defBody s_law_pick) (defScope s_law_pick) .none kV18 dc18 pm18 an18 cd18 ct18), sl18⟩) (c18 : PySem.W.codeIn K cd18 "_law_pick" = true) (k18 : PySem.W.keepIn K (.ref f18) = true)
    (a19 : PySem.W.nsIn K mainGlobals "_law_name" = some (some (.ref f19))) (l19 : K.lookup f19 = some ⟨oc19, od19, .func (PySem.W.fnOf "_law_name" "_law_name" (defArgs s_law_name) (defBody s_law_name) (defScope s_law_name) .none kV19 dc19 pm19 an19 cd19 ct19), sl19⟩) (c19 : PySem.W.codeIn K cd19 "_law_name" = true) (k19 : PySem.W.keepIn K (.ref f19) = true)
    (a20 : PySem.W.nsIn K mainGlobals "_law_hop" = some (some (.ref f20))) (l20 : K.lookup f20 = some ⟨oc20, od20, .func (PySem.W.fnOf "_law_hop" "_law_hop" (defArgs s_law_hop) (defBody s_law_hop) (defScope s_law_hop) .none kV20 dc20 pm20 an20 cd20 ct20), sl20⟩) (c20 : PySem.W.codeIn K cd20 "_law_hop" = true) (k20 : PySem.W.keepIn K (.ref f20) = true)
    (a21 : PySem.W.nsIn K mainGlobals "_law_way" = some (some (.ref f21))) (l21 : K.lookup f21 = some ⟨oc21, od21, .func (PySem.W.fnOf "_law_way" "_law_way" (defArgs s_law_way) (defBody s_law_way) (defScope s_law_way) .none kV21 dc21 pm21 an21 cd21 ct21), sl21⟩) (c21 : PySem.W.codeIn K cd21 "_law_way" = true) (k21 : PySem.W.keepIn K (.ref f21) = true)
    (a22 : PySem.W.nsIn K mainGlobals "_law_need" = some (some (.ref f22))) (l22 : K.lookup f22 = some ⟨oc22, od22, .func (PySem.W.fnOf "_law_need" "_law_need" (defArgs s_law_need) (defBody s_law_need) (defScope s_law_need) .none kV22 dc22 pm22 an22 cd22 ct22), sl22⟩) (c22 : PySem.W.codeIn K cd22 "_law_need" = true) (k22 : PySem.W.keepIn K (.ref f22) = true)
    (a23 : PySem.W.nsIn K mainGlobals "_law_row" = some (some (.ref f23))) (l23 : K.lookup f23 = some ⟨oc23, od23, .func (PySem.W.fnOf "_law_row" "_law_row" (defArgs s_law_row) (defBody s_law_row) (defScope s_law_row) .none kV23 dc23 pm23 an23 cd23 ct23), sl23⟩) (c23 : PySem.W.codeIn K cd23 "_law_row" = true) (k23 : PySem.W.keepIn K (.ref f23) = true)
    (a24 : PySem.W.nsIn K mainGlobals "_law_world" = some (some (.ref f24))) (l24 : K.lookup f24 = some ⟨oc24, od24, .func (PySem.W.fnOf "_law_world" "_law_world" (defArgs s_law_world) (defBody s_law_world) (defScope s_law_world) .none kV24 dc24 pm24 an24 cd24 ct24), sl24⟩) (c24 : PySem.W.codeIn K cd24 "_law_world" = true) (k24 : PySem.W.keepIn K (.ref f24) = true)
    (a25 : PySem.W.nsIn K mainGlobals "_law_net" = some (some (.ref f25))) (l25 : K.lookup f25 = some ⟨oc25, od25, .func (PySem.W.fnOf "_law_net" "_law_net" (defArgs s_law_net) (defBody s_law_net) (defScope s_law_net) .none kV25 dc25 pm25 an25 cd25 ct25), sl25⟩) (c25 : PySem.W.codeIn K cd25 "_law_net" = true) (k25 : PySem.W.keepIn K (.ref f25) = true)
    (a26 : PySem.W.nsIn K mainGlobals "_law_drop" = some (some (.ref f26))) (l26 : K.lookup f26 = some ⟨oc26, od26, .func (PySem.W.fnOf "_law_drop" "_law_drop" (defArgs s_law_drop) (defBody s_law_drop) (defScope s_law_drop) .none kV26 dc26 pm26 an26 cd26 ct26), sl26⟩) (c26 : PySem.W.codeIn K cd26 "_law_drop" = true) (k26 : PySem.W.keepIn K (.ref f26) = true)
    (a27 : PySem.W.nsIn K mainGlobals "_law_gone" = some (some (.ref f27))) (l27 : K.lookup f27 = some ⟨oc27, od27, .func (PySem.W.fnOf "_law_gone" "_law_gone" (defArgs s_law_gone) (defBody s_law_gone) (defScope s_law_gone) .none kV27 dc27 pm27 an27 cd27 ct27), sl27⟩) (c27 : PySem.W.codeIn K cd27 "_law_gone" = true) (k27 : PySem.W.keepIn K (.ref f27) = true)
    (a28 : PySem.W.nsIn K mainGlobals "_law_fill" = some (some (.ref f28))) (l28 : K.lookup f28 = some ⟨oc28, od28, .func (PySem.W.fnOf "_law_fill" "_law_fill" (defArgs s_law_fill) (defBody s_law_fill) (defScope s_law_fill) .none kV28 dc28 pm28 an28 cd28 ct28), sl28⟩) (c28 : PySem.W.codeIn K cd28 "_law_fill" = true) (k28 : PySem.W.keepIn K (.ref f28) = true)
    (a29 : PySem.W.nsIn K mainGlobals "_law_filled" = some (some (.ref f29))) (l29 : K.lookup f29 = some ⟨oc29, od29, .func (PySem.W.fnOf "_law_filled" "_law_filled" (defArgs s_law_filled) (defBody s_law_filled) (defScope s_law_filled) .none kV29 dc29 pm29 an29 cd29 ct29), sl29⟩) (c29 : PySem.W.codeIn K cd29 "_law_filled" = true) (k29 : PySem.W.keepIn K (.ref f29) = true)
    (a30 : PySem.W.nsIn K mainGlobals "_law_kinds_one" = some (some (.ref f30))) (l30 : K.lookup f30 = some ⟨oc30, od30, .func (PySem.W.fnOf "_law_kinds_one" "_law_kinds_one" (defArgs s_law_kinds_one) (defBody s_law_kinds_one) (defScope s_law_kinds_one) .none kV30 dc30 pm30 an30 cd30 ct30), sl30⟩) (c30 : PySem.W.codeIn K cd30 "_law_kinds_one" = true) (k30 : PySem.W.keepIn K (.ref f30) = true)
    (a31 : PySem.W.nsIn K mainGlobals "_law_kinds_two" = some (some (.ref f31))) (l31 : K.lookup f31 = some ⟨oc31, od31, .func (PySem.W.fnOf "_law_kinds_two" "_law_kinds_two" (defArgs s_law_kinds_two) (defBody s_law_kinds_two) (defScope s_law_kinds_two) .none kV31 dc31 pm31 an31 cd31 ct31), sl31⟩) (c31 : PySem.W.codeIn K cd31 "_law_kinds_two" = true) (k31 : PySem.W.keepIn K (.ref f31) = true)
    (a32 : PySem.W.nsIn K mainGlobals "_law_kind" = some (some (.ref f32))) (l32 : K.lookup f32 = some ⟨oc32, od32, .func (PySem.W.fnOf "_law_kind" "_law_kind" (defArgs s_law_kind) (defBody s_law_kind) (defScope s_law_kind) .none kV32 dc32 pm32 an32 cd32 ct32), sl32⟩) (c32 : PySem.W.codeIn K cd32 "_law_kind" = true) (k32 : PySem.W.keepIn K (.ref f32) = true)
    (a33 : PySem.W.nsIn K mainGlobals "law" = some (some (.ref f33))) (l33 : K.lookup f33 = some ⟨oc33, od33, .func (PySem.W.fnOf "law" "law" (defArgs s_law) (defBody s_law) (defScope s_law) .none kV33 dc33 pm33 an33 cd33 ct33), sl33⟩) (c33 : PySem.W.codeIn K cd33 "law" = true) (k33 : PySem.W.keepIn K (.ref f33) = true)
    (ac_LETTERS : PySem.W.nsIn K mainGlobals "LETTERS" = some (some (.str "abcdefghijklmnopqrstuvwxyz" tc_LETTERS)))
    (ac_MOST : PySem.W.nsIn K mainGlobals "MOST" = some (some (.int 16 tc_MOST)))
    (ac_MOST_ENDS : PySem.W.nsIn K mainGlobals "MOST_ENDS" = some (some (.int 6 tc_MOST_ENDS)))
    (z_ValueError : PySem.W.nsIn K mainGlobals "ValueError" = some none)
    (z_abs : PySem.W.nsIn K mainGlobals "abs" = some none)
    (z_all : PySem.W.nsIn K mainGlobals "all" = some none)
    (z_bool : PySem.W.nsIn K mainGlobals "bool" = some none)
    (z_int : PySem.W.nsIn K mainGlobals "int" = some none)
    (z_isinstance : PySem.W.nsIn K mainGlobals "isinstance" = some none)
    (z_len : PySem.W.nsIn K mainGlobals "len" = some none)
    (z_list : PySem.W.nsIn K mainGlobals "list" = some none)
    (z_max : PySem.W.nsIn K mainGlobals "max" = some none)
    (z_min : PySem.W.nsIn K mainGlobals "min" = some none)
    (z_range : PySem.W.nsIn K mainGlobals "range" = some none)
    (z_set : PySem.W.nsIn K mainGlobals "set" = some none)
    (z_sorted : PySem.W.nsIn K mainGlobals "sorted" = some none)
    (z_str : PySem.W.nsIn K mainGlobals "str" = some none)
    (z_tuple : PySem.W.nsIn K mainGlobals "tuple" = some none)
    (ea_NetError : PySem.W.nsIn K mainGlobals "NetError" = some (some (.ref ec_NetError))) (eb_base : PySem.W.subIn K (.ref ec_NetError) (.type "BaseException") = some true) (eb_dict : PySem.W.hasDictIn K ec_NetError = true) (eb_type : PySem.W.typeIn K (.ref ec_NetError) = some (.type "type")) (eb_get : PySem.W.specialIn K (.builtin "object.__class__") "__get__" = some (some (.builtin "getset_descriptor.__get__"))) (eb_tak : PySem.W.takesIn K (.builtin "object.__class__") = some true)
    (ea_BadName : PySem.W.nsIn K mainGlobals "BadName" = some (some (.ref ec_BadName))) (ee_BadName : errB K ec_BadName ec_NetError = true)
    (ex_BadName : PySem.W.excIn K ec_BadName [.type "ValueError", .type "Exception", .type "BaseException", .type "object"] "ValueError.__new__" = true)
    (ea_BadNumber : PySem.W.nsIn K mainGlobals "BadNumber" = some (some (.ref ec_BadNumber))) (ee_BadNumber : errB K ec_BadNumber ec_NetError = true)
    (ex_BadNumber : PySem.W.excIn K ec_BadNumber [.type "ValueError", .type "Exception", .type "BaseException", .type "object"] "ValueError.__new__" = true)
    (ea_BadWay : PySem.W.nsIn K mainGlobals "BadWay" = some (some (.ref ec_BadWay))) (ee_BadWay : errB K ec_BadWay ec_NetError = true)
    (ex_BadWay : PySem.W.excIn K ec_BadWay [.type "ValueError", .type "Exception", .type "BaseException", .type "object"] "ValueError.__new__" = true)
    (ea_BadEnds : PySem.W.nsIn K mainGlobals "BadEnds" = some (some (.ref ec_BadEnds))) (ee_BadEnds : errB K ec_BadEnds ec_NetError = true)
    (ex_BadEnds : PySem.W.excIn K ec_BadEnds [.type "ValueError", .type "Exception", .type "BaseException", .type "object"] "ValueError.__new__" = true)
    (ea_BadLine : PySem.W.nsIn K mainGlobals "BadLine" = some (some (.ref ec_BadLine))) (ee_BadLine : errB K ec_BadLine ec_NetError = true)
    (ex_BadLine : PySem.W.excIn K ec_BadLine [.type "ValueError", .type "Exception", .type "BaseException", .type "object"] "ValueError.__new__" = true)
    (ea_Taken : PySem.W.nsIn K mainGlobals "Taken" = some (some (.ref ec_Taken))) (ee_Taken : errB K ec_Taken ec_NetError = true)
    (ea_NoName : PySem.W.nsIn K mainGlobals "NoName" = some (some (.ref ec_NoName))) (ee_NoName : errB K ec_NoName ec_NetError = true)
    (ea_InUse : PySem.W.nsIn K mainGlobals "InUse" = some (some (.ref ec_InUse))) (ee_InUse : errB K ec_InUse ec_NetError = true)
    (ea_Full : PySem.W.nsIn K mainGlobals "Full" = some (some (.ref ec_Full))) (ee_Full : errB K ec_Full ec_NetError = true)
    (ex_Full : PySem.W.excIn K ec_Full [.type "ValueError", .type "Exception", .type "BaseException", .type "object"] "ValueError.__new__" = true)
    (ea_Tight : PySem.W.nsIn K mainGlobals "Tight" = some (some (.ref ec_Tight))) (ee_Tight : errB K ec_Tight ec_NetError = true)
    (ea_Late : PySem.W.nsIn K mainGlobals "Late" = some (some (.ref ec_Late))) (ee_Late : errB K ec_Late ec_NetError = true)
    (ea_Heavy : PySem.W.nsIn K mainGlobals "Heavy" = some (some (.ref ec_Heavy))) (ee_Heavy : errB K ec_Heavy ec_NetError = true)
    (ea_NoPlan : PySem.W.nsIn K mainGlobals "NoPlan" = some (some (.ref ec_NoPlan))) (ee_NoPlan : errB K ec_NoPlan ec_NetError = true)
    (ea_NoRoom : PySem.W.nsIn K mainGlobals "NoRoom" = some (some (.ref ec_NoRoom))) (ee_NoRoom : errB K ec_NoRoom ec_NetError = true)
    (ex_NoRoom : PySem.W.excIn K ec_NoRoom [.type "ValueError", .type "Exception", .type "BaseException", .type "object"] "ValueError.__new__" = true)
    (ea_NoStep : PySem.W.nsIn K mainGlobals "NoStep" = some (some (.ref ec_NoStep))) (ee_NoStep : errB K ec_NoStep ec_NetError = true)
    (ex_NoStep : PySem.W.excIn K ec_NoStep [.type "ValueError", .type "Exception", .type "BaseException", .type "object"] "ValueError.__new__" = true)
    (ea_TooFew : PySem.W.nsIn K mainGlobals "TooFew" = some (some (.ref ec_TooFew))) (ee_TooFew : errB K ec_TooFew ec_NetError = true)
    (ex_TooFew : PySem.W.excIn K ec_TooFew [.type "ValueError", .type "Exception", .type "BaseException", .type "object"] "ValueError.__new__" = true)
    (ea_BadPage : PySem.W.nsIn K mainGlobals "BadPage" = some (some (.ref ec_BadPage))) (ee_BadPage : errB K ec_BadPage ec_NetError = true)
    (ex_BadPage : PySem.W.excIn K ec_BadPage [.type "ValueError", .type "Exception", .type "BaseException", .type "object"] "ValueError.__new__" = true)
    (xl_Taken : K.lookup ec_Taken = some (excClassObj on_Taken oq_Taken ec_Taken oN_Taken ob_Taken [.ref ec_NetError, .type "ValueError", .type "Exception", .type "BaseException", .type "object"] true os_Taken ou_Taken oa_Taken ol_Taken od_Taken oA_Taken oB_Taken oC_Taken oD_Taken oE_Taken "ValueError.__new__")) (xr_Taken : PySem.HandSPX.refsVE [.ref ec_NetError, .type "ValueError", .type "Exception", .type "BaseException", .type "object"] = true) (xs_Taken : PySem.W.findIn K (.ref ec_Taken) "__setattr__" = some (some (.builtin "object.__setattr__")))
    (xn_Taken_name : PySem.W.findIn K (.ref ec_Taken) "name" = some none)
    (xl_NoName : K.lookup ec_NoName = some (excClassObj on_NoName oq_NoName ec_NoName oN_NoName ob_NoName [.ref ec_NetError, .type "ValueError", .type "Exception", .type "BaseException", .type "object"] true os_NoName ou_NoName oa_NoName ol_NoName od_NoName oA_NoName oB_NoName oC_NoName oD_NoName oE_NoName "ValueError.__new__")) (xr_NoName : PySem.HandSPX.refsVE [.ref ec_NetError, .type "ValueError", .type "Exception", .type "BaseException", .type "object"] = true) (xs_NoName : PySem.W.findIn K (.ref ec_NoName) "__setattr__" = some (some (.builtin "object.__setattr__")))
    (xn_NoName_name : PySem.W.findIn K (.ref ec_NoName) "name" = some none)
    (xl_InUse : K.lookup ec_InUse = some (excClassObj on_InUse oq_InUse ec_InUse oN_InUse ob_InUse [.ref ec_NetError, .type "ValueError", .type "Exception", .type "BaseException", .type "object"] true os_InUse ou_InUse oa_InUse ol_InUse od_InUse oA_InUse oB_InUse oC_InUse oD_InUse oE_InUse "ValueError.__new__")) (xr_InUse : PySem.HandSPX.refsVE [.ref ec_NetError, .type "ValueError", .type "Exception", .type "BaseException", .type "object"] = true) (xs_InUse : PySem.W.findIn K (.ref ec_InUse) "__setattr__" = some (some (.builtin "object.__setattr__")))
    (xn_InUse_name : PySem.W.findIn K (.ref ec_InUse) "name" = some none)
    (e_nd : [ec_NetError, ec_BadName, ec_BadNumber, ec_BadWay, ec_BadEnds, ec_BadLine, ec_Taken, ec_NoName, ec_InUse, ec_Full, ec_Tight, ec_Late, ec_Heavy, ec_NoPlan, ec_NoRoom, ec_NoStep, ec_TooFew, ec_BadPage].Nodup) :
    ∃ fd : FuncData, (∀ (s : Shared) (v : Value), BindsTo s fd ⟨[v], []⟩ [("_law_script", v)]) ∧ ∀ base : Heap, K.In base → base.Ns mainGlobals mg → FnOk l.prog w K mg base CX0 7 fa fd ["_law_script"] (spLaw K []) := by
  have e := hfa.symm.trans (PySem.W.mg_of X G a33)
  cases e
  have F0 := fun_mk (st := s_NoName_init) l0 c0 k0
  have b0 := F0.binds (ps := ["self", "name"]) fun _ _ _ _ _ _ us hl => match us, hl with | [_, _], _ => rfl
  have F1 := fun_mk (st := s_Taken_init) l1 c1 k1
  have b1 := F1.binds (ps := ["self", "name"]) fun _ _ _ _ _ _ us hl => match us, hl with | [_, _], _ => rfl
  have F2 := fun_mk (st := s_InUse_init) l2 c2 k2
  have b2 := F2.binds (ps := ["self", "name"]) fun _ _ _ _ _ _ us hl => match us, hl with | [_, _], _ => rfl
  have F3 := fun_mk (st := s_within) l3 c3 k3
  have b3 := F3.binds (ps := ["value", "low", "high"]) fun _ _ _ _ _ _ us hl => match us, hl with | [_, _, _], _ => rfl
  have F4 := fun_mk (st := s_check) l4 c4 k4
  have b4 := F4.binds (ps := ["value", "low", "high"]) fun _ _ _ _ _ _ us hl => match us, hl with | [_, _, _], _ => rfl
  have F5 := fun_mk (st := s_good_name) l5 c5 k5
  have b5 := F5.binds (ps := ["name"]) fun _ _ _ _ _ _ us hl => match us, hl with | [_], _ => rfl
  have F6 := fun_mk (st := s_Net_init) l6 c6 k6
  have b6 := F6.binds (ps := ["self"]) fun _ _ _ _ _ _ us hl => match us, hl with | [_], _ => rfl
  have F7 := fun_mk (st := s_Net_fresh) l7 c7 k7
  have b7 := F7.binds (ps := ["self", "name", "lined"]) fun _ _ _ _ _ _ us hl => match us, hl with | [_, _, _], _ => rfl
  have F8 := fun_mk (st := s_Net_house) l8 c8 k8
  have b8 := F8.binds (ps := ["self", "name"]) fun _ _ _ _ _ _ us hl => match us, hl with | [_, _], _ => rfl
  have F9 := fun_mk (st := s_Net_gate) l9 c9 k9
  have b9 := F9.binds (ps := ["self", "name"]) fun _ _ _ _ _ _ us hl => match us, hl with | [_, _], _ => rfl
  have F10 := fun_mk (st := s_Net_line) l10 c10 k10
  have D10 : FunD K "line" "Net.line" (defArgs s_Net_line) (defBody s_Net_line) (defScope s_Net_line) [] [("wire", V.int 1)] f10 _ := ⟨⟨_, _, _, _, _, _, _, _, _, _, rfl, l10, c10, .inl ⟨rfl, rfl⟩, .inr ⟨_, rfl, (by intro q h; simp only [List.mem_cons, List.not_mem_nil, or_false] at h; rcases h with rfl <;> first | exact ⟨_, q10_0, ⟨_, rfl⟩⟩)⟩⟩, k10⟩
  have F11 := fun_mk (st := s_Net_names) l11 c11 k11
  have b11 := F11.binds (ps := ["self"]) fun _ _ _ _ _ _ us hl => match us, hl with | [_], _ => rfl
  have F12 := fun_mk (st := s_Net_kind) l12 c12 k12
  have b12 := F12.binds (ps := ["self", "name"]) fun _ _ _ _ _ _ us hl => match us, hl with | [_, _], _ => rfl
  have F13 := fun_mk (st := s_Net_ends) l13 c13 k13
  have b13 := F13.binds (ps := ["self", "name"]) fun _ _ _ _ _ _ us hl => match us, hl with | [_, _], _ => rfl
  have F14 := fun_mk (st := s_Net_drop) l14 c14 k14
  have b14 := F14.binds (ps := ["self", "name"]) fun _ _ _ _ _ _ us hl => match us, hl with | [_, _], _ => rfl
  have F15 := fun_mk (st := s_Net_len) l15 c15 k15
  have b15 := F15.binds (ps := ["self"]) fun _ _ _ _ _ _ us hl => match us, hl with | [_], _ => rfl
  have F16 := fun_mk (st := s_law_start) l16 c16 k16
  have b16 := F16.binds (ps := ["_law_script"]) fun _ _ _ _ _ _ us hl => match us, hl with | [_], _ => rfl
  have F17 := fun_mk (st := s_law_draw) l17 c17 k17
  have b17 := F17.binds (ps := ["_law_s", "_law_many"]) fun _ _ _ _ _ _ us hl => match us, hl with | [_, _], _ => rfl
  have F18 := fun_mk (st := s_law_pick) l18 c18 k18
  have b18 := F18.binds (ps := ["_law_s", "_law_row_here"]) fun _ _ _ _ _ _ us hl => match us, hl with | [_, _], _ => rfl
  have F19 := fun_mk (st := s_law_name) l19 c19 k19
  have b19 := F19.binds (ps := ["_law_s", "_law_names"]) fun _ _ _ _ _ _ us hl => match us, hl with | [_, _], _ => rfl
  have F20 := fun_mk (st := s_law_hop) l20 c20 k20
  have b20 := F20.binds (ps := ["_law_s", "_law_names", "_law_lines", "_law_one", "_law_two", "_law_barred"]) fun _ _ _ _ _ _ us hl => match us, hl with | [_, _, _, _, _, _], _ => rfl
  have F21 := fun_mk (st := s_law_way) l21 c21 k21
  have b21 := F21.binds (ps := ["_law_s", "_law_names", "_law_lines", "_law_gates", "_law_first", "_law_the_last", "_law_barred"]) fun _ _ _ _ _ _ us hl => match us, hl with | [_, _, _, _, _, _, _], _ => rfl
  have F22 := fun_mk (st := s_law_need) l22 c22 k22
  have b22 := F22.binds (ps := ["_law_row_here", "_law_lines", "_law_the_slack"]) fun _ _ _ _ _ _ us hl => match us, hl with | [_, _, _], _ => rfl
  have F23 := fun_mk (st := s_law_row) l23 c23 k23
  have b23 := F23.binds (ps := ["_law_s", "_law_names", "_law_lines", "_law_houses", "_law_gates", "_law_the_slack"]) fun _ _ _ _ _ _ us hl => match us, hl with | [_, _, _, _, _, _], _ => rfl
  have F24 := fun_mk (st := s_law_world) l24 c24 k24
  have b24 := F24.binds (ps := ["_law_s", "_law_the_most"]) fun _ _ _ _ _ _ us hl => match us, hl with | [_, _], _ => rfl
  have F25 := fun_mk (st := s_law_net) l25 c25 k25
  have b25 := F25.binds (ps := ["_law_world_here"]) fun _ _ _ _ _ _ us hl => match us, hl with | [_], _ => rfl
  have F26 := fun_mk (st := s_law_drop) l26 c26 k26
  have b26 := F26.binds (ps := ["_law_net_here", "_law_name_here"]) fun _ _ _ _ _ _ us hl => match us, hl with | [_, _], _ => rfl
  have F27 := fun_mk (st := s_law_gone) l27 c27 k27
  have b27 := F27.binds (ps := ["_law_net_here", "_law_name_here"]) fun _ _ _ _ _ _ us hl => match us, hl with | [_, _], _ => rfl
  have F28 := fun_mk (st := s_law_fill) l28 c28 k28
  have b28 := F28.binds (ps := ["_law_net_here", "_law_names", "_law_s", "_law_many"]) fun _ _ _ _ _ _ us hl => match us, hl with | [_, _, _, _], _ => rfl
  have F29 := fun_mk (st := s_law_filled) l29 c29 k29
  have b29 := F29.binds (ps := ["_law_s", "_law_world_here", "_law_net_here"]) fun _ _ _ _ _ _ us hl => match us, hl with | [_, _, _], _ => rfl
  have F30 := fun_mk (st := s_law_kinds_one) l30 c30 k30
  have b30 := F30.binds (ps := ["_law_e"]) fun _ _ _ _ _ _ us hl => match us, hl with | [_], _ => rfl
  have F31 := fun_mk (st := s_law_kinds_two) l31 c31 k31
  have b31 := F31.binds (ps := ["_law_e"]) fun _ _ _ _ _ _ us hl => match us, hl with | [_], _ => rfl
  have F32 := fun_mk (st := s_law_kind) l32 c32 k32
  have b32 := F32.binds (ps := ["_law_e"]) fun _ _ _ _ _ _ us hl => match us, hl with | [_], _ => rfl
  have F33 := fun_mk (st := s_law) l33 c33 k33
  have b33 := F33.binds (ps := ["_law_script"]) fun _ _ _ _ _ _ us hl => match us, hl with | [_], _ => rfl
  refine ⟨PySem.W.fnOf "law" "law" (defArgs s_law) (defBody s_law) (defScope s_law) .none kV33 dc33 pm33 an33 cd33 ct33, fun s v => .of_eq rfl, fun base _ _ => ?_⟩
  exact ok_law (T := ({ c_Net := oc_Net, g_Net := PySem.W.mg_of X G oa_Net, C_Net := ⟨opg_Net, ohd_Net, opo_Net, osa_Net⟩, N_Net_kinds := on_Net_kinds, N_Net_rows := on_Net_rows, I_Net := ⟨iA_Net, iB_Net, iC_Net, iD_Net, iE_Net, iF_Net⟩, J_Net := ⟨jA_Net, jB_Net⟩, f_NoName_init := f0, fd_NoName_init := _, F_NoName_init := F0, b_NoName_init := b0, XI_NoName := a0, XT_NoName := i0, f_Taken_init := f1, fd_Taken_init := _, F_Taken_init := F1, b_Taken_init := b1, XI_Taken := a1, XT_Taken := i1, f_InUse_init := f2, fd_InUse_init := _, F_InUse_init := F2, b_InUse_init := b2, XI_InUse := a2, XT_InUse := i2, f_within := f3, fd_within := _, F_within := F3, b_within := b3, g_within := PySem.W.mg_of X G a3, f_check := f4, fd_check := _, F_check := F4, b_check := b4, g_check := PySem.W.mg_of X G a4, f_good_name := f5, fd_good_name := _, F_good_name := F5, b_good_name := b5, g_good_name := PySem.W.mg_of X G a5, f_Net_init := f6, fd_Net_init := _, F_Net_init := F6, b_Net_init := b6, m_Net_init := ⟨a6, i6, k6⟩, M_Net := ⟨omk_Net, a6, i6, okp_Net⟩, f_Net_fresh := f7, fd_Net_fresh := _, F_Net_fresh := F7, b_Net_fresh := b7, m_Net_fresh := ⟨a7, i7, k7⟩, f_Net_house := f8, fd_Net_house := _, F_Net_house := F8, b_Net_house := b8, m_Net_house := ⟨a8, i8, k8⟩, f_Net_gate := f9, fd_Net_gate := _, F_Net_gate := F9, b_Net_gate := b9, m_Net_gate := ⟨a9, i9, k9⟩, f_Net_line := f10, fd_Net_line := _, F_Net_line := F10, D_Net_line := D10, m_Net_line := ⟨a10, i10, k10⟩, f_Net_names := f11, fd_Net_names := _, F_Net_names := F11, b_Net_names := b11, m_Net_names := ⟨a11, i11, k11⟩, f_Net_kind := f12, fd_Net_kind := _, F_Net_kind := F12, b_Net_kind := b12, m_Net_kind := ⟨a12, i12, k12⟩, f_Net_ends := f13, fd_Net_ends := _, F_Net_ends := F13, b_Net_ends := b13, m_Net_ends := ⟨a13, i13, k13⟩, f_Net_drop := f14, fd_Net_drop := _, F_Net_drop := F14, b_Net_drop := b14, m_Net_drop := ⟨a14, i14, k14⟩, f_Net_len := f15, fd_Net_len := _, F_Net_len := F15, b_Net_len := b15, m_Net_len := ⟨a15, i15, k15⟩, f_law_start := f16, fd_law_start := _, F_law_start := F16, b_law_start := b16, g_law_start := PySem.W.mg_of X G a16, f_law_draw := f17, fd_law_draw := _, F_law_draw := F17, b_law_draw := b17, g_law_draw := PySem.W.mg_of X G a17, f_law_pick := f18, fd_law_pick := _, F_law_pick := F18, b_law_pick := b18, g_law_pick := PySem.W.mg_of X G a18, f_law_name := f19, fd_law_name := _, F_law_name := F19, b_law_name := b19, g_law_name := PySem.W.mg_of X G a19, f_law_hop := f20, fd_law_hop := _, F_law_hop := F20, b_law_hop := b20, g_law_hop := PySem.W.mg_of X G a20, f_law_way := f21, fd_law_way := _, F_law_way := F21, b_law_way := b21, g_law_way := PySem.W.mg_of X G a21, f_law_need := f22, fd_law_need := _, F_law_need := F22, b_law_need := b22, g_law_need := PySem.W.mg_of X G a22, f_law_row := f23, fd_law_row := _, F_law_row := F23, b_law_row := b23, g_law_row := PySem.W.mg_of X G a23, f_law_world := f24, fd_law_world := _, F_law_world := F24, b_law_world := b24, g_law_world := PySem.W.mg_of X G a24, f_law_net := f25, fd_law_net := _, F_law_net := F25, b_law_net := b25, g_law_net := PySem.W.mg_of X G a25, f_law_drop := f26, fd_law_drop := _, F_law_drop := F26, b_law_drop := b26, g_law_drop := PySem.W.mg_of X G a26, f_law_gone := f27, fd_law_gone := _, F_law_gone := F27, b_law_gone := b27, g_law_gone := PySem.W.mg_of X G a27, f_law_fill := f28, fd_law_fill := _, F_law_fill := F28, b_law_fill := b28, g_law_fill := PySem.W.mg_of X G a28, f_law_filled := f29, fd_law_filled := _, F_law_filled := F29, b_law_filled := b29, g_law_filled := PySem.W.mg_of X G a29, f_law_kinds_one := f30, fd_law_kinds_one := _, F_law_kinds_one := F30, b_law_kinds_one := b30, g_law_kinds_one := PySem.W.mg_of X G a30, f_law_kinds_two := f31, fd_law_kinds_two := _, F_law_kinds_two := F31, b_law_kinds_two := b31, g_law_kinds_two := PySem.W.mg_of X G a31, f_law_kind := f32, fd_law_kind := _, F_law_kind := F32, b_law_kind := b32, g_law_kind := PySem.W.mg_of X G a32, f_law := fa, fd_law := _, F_law := F33, b_law := b33, g_law := PySem.W.mg_of X G a33, t_LETTERS := tc_LETTERS, g_LETTERS := PySem.W.mg_of X G ac_LETTERS, t_MOST := tc_MOST, g_MOST := PySem.W.mg_of X G ac_MOST, t_MOST_ENDS := tc_MOST_ENDS, g_MOST_ENDS := PySem.W.mg_of X G ac_MOST_ENDS, z_ValueError := PySem.W.mg_none_of X G z_ValueError, z_abs := PySem.W.mg_none_of X G z_abs, z_all := PySem.W.mg_none_of X G z_all, z_bool := PySem.W.mg_none_of X G z_bool, z_int := PySem.W.mg_none_of X G z_int, z_isinstance := PySem.W.mg_none_of X G z_isinstance, z_len := PySem.W.mg_none_of X G z_len, z_list := PySem.W.mg_none_of X G z_list, z_max := PySem.W.mg_none_of X G z_max, z_min := PySem.W.mg_none_of X G z_min, z_range := PySem.W.mg_none_of X G z_range, z_set := PySem.W.mg_none_of X G z_set, z_sorted := PySem.W.mg_none_of X G z_sorted, z_str := PySem.W.mg_none_of X G z_str, z_tuple := PySem.W.mg_none_of X G z_tuple, c_NetError := ec_NetError, g_NetError := PySem.W.mg_of X G ea_NetError, k_base := eb_base, k_dict := eb_dict, k_type := eb_type, k_get := eb_get, k_tak := eb_tak, c_BadName := ec_BadName, g_BadName := PySem.W.mg_of X G ea_BadName, e_BadName := errC_of ee_BadName, x_BadName := ex_BadName, c_BadNumber := ec_BadNumber, g_BadNumber := PySem.W.mg_of X G ea_BadNumber, e_BadNumber := errC_of ee_BadNumber, x_BadNumber := ex_BadNumber, c_BadWay := ec_BadWay, g_BadWay := PySem.W.mg_of X G ea_BadWay, e_BadWay := errC_of ee_BadWay, x_BadWay := ex_BadWay, c_BadEnds := ec_BadEnds, g_BadEnds := PySem.W.mg_of X G ea_BadEnds, e_BadEnds := errC_of ee_BadEnds, x_BadEnds := ex_BadEnds, c_BadLine := ec_BadLine, g_BadLine := PySem.W.mg_of X G ea_BadLine, e_BadLine := errC_of ee_BadLine, x_BadLine := ex_BadLine, c_Taken := ec_Taken, g_Taken := PySem.W.mg_of X G ea_Taken, e_Taken := errC_of ee_Taken, c_NoName := ec_NoName, g_NoName := PySem.W.mg_of X G ea_NoName, e_NoName := errC_of ee_NoName, c_InUse := ec_InUse, g_InUse := PySem.W.mg_of X G ea_InUse, e_InUse := errC_of ee_InUse, c_Full := ec_Full, g_Full := PySem.W.mg_of X G ea_Full, e_Full := errC_of ee_Full, x_Full := ex_Full, c_Tight := ec_Tight, g_Tight := PySem.W.mg_of X G ea_Tight, e_Tight := errC_of ee_Tight, c_Late := ec_Late, g_Late := PySem.W.mg_of X G ea_Late, e_Late := errC_of ee_Late, c_Heavy := ec_Heavy, g_Heavy := PySem.W.mg_of X G ea_Heavy, e_Heavy := errC_of ee_Heavy, c_NoPlan := ec_NoPlan, g_NoPlan := PySem.W.mg_of X G ea_NoPlan, e_NoPlan := errC_of ee_NoPlan, c_NoRoom := ec_NoRoom, g_NoRoom := PySem.W.mg_of X G ea_NoRoom, e_NoRoom := errC_of ee_NoRoom, x_NoRoom := ex_NoRoom, c_NoStep := ec_NoStep, g_NoStep := PySem.W.mg_of X G ea_NoStep, e_NoStep := errC_of ee_NoStep, x_NoStep := ex_NoStep, c_TooFew := ec_TooFew, g_TooFew := PySem.W.mg_of X G ea_TooFew, e_TooFew := errC_of ee_TooFew, x_TooFew := ex_TooFew, c_BadPage := ec_BadPage, g_BadPage := PySem.W.mg_of X G ea_BadPage, e_BadPage := errC_of ee_BadPage, x_BadPage := ex_BadPage, OX_Taken := ⟨⟨_, _, _, _, _, _, _, _, _, _, _, _, _, _, _, xl_Taken, xr_Taken⟩, xs_Taken, (errC_of ee_Taken).base, (errC_of ee_Taken).ty, (errC_of ee_Taken).kp⟩, XN_Taken_name := xn_Taken_name, XF_Taken := ⟨(errC_of ee_Taken).ga, (errC_of ee_Taken).gt, (errC_of ee_Taken).base, (errC_of ee_Taken).hd⟩, OX_NoName := ⟨⟨_, _, _, _, _, _, _, _, _, _, _, _, _, _, _, xl_NoName, xr_NoName⟩, xs_NoName, (errC_of ee_NoName).base, (errC_of ee_NoName).ty, (errC_of ee_NoName).kp⟩, XN_NoName_name := xn_NoName_name, XF_NoName := ⟨(errC_of ee_NoName).ga, (errC_of ee_NoName).gt, (errC_of ee_NoName).base, (errC_of ee_NoName).hd⟩, OX_InUse := ⟨⟨_, _, _, _, _, _, _, _, _, _, _, _, _, _, _, xl_InUse, xr_InUse⟩, xs_InUse, (errC_of ee_InUse).base, (errC_of ee_InUse).ty, (errC_of ee_InUse).kp⟩, XN_InUse_name := xn_InUse_name, XF_InUse := ⟨(errC_of ee_InUse).ga, (errC_of ee_InUse).gt, (errC_of ee_InUse).base, (errC_of ee_InUse).hd⟩, k_nd := e_nd, tb := [] } : Tx K mg base))
end SW
open PySem PySem.W PyProof.Rows
set_option maxRecDepth 100000 in
set_option maxHeartbeats 0 in
theorem PySem.Challenge.cw_slotwright_k07_drop_and_full_holds : PySem.Challenge.rw_slotwright_k07_drop_and_full.Holds := by
  w_on; o_law; k_head; (case hw => w_witness2)
  k_fill
  letI : SW.QN := SW.qnc ("-")
  refine L2.walk_ofB (l := PySem.Challenge.rw_slotwright_k07_drop_and_full) (n := 63) (k := 7) (x := "_law_script") (CX := fun _ => L2.CX0) (sp := fun w => SW.spLaw _ []) rfl (by decide) rfl ⟨rfl, by decide, by decide⟩ (fun w h Y => PySem.W.kIn_of Y) ?F (fun _ _ a ns hl hb _ hS => ⟨a, ns, rfl, hS, hl, hb, (fun _ h => nomatch h), fun _ => rfl⟩) (fun _ _ _ _ _ h => h)
  case F =>
    intro w mg fa h KX G hmg
    letI : SW.QN := SW.qnc ("-")
    refine' SW.all_mk KX G hmg ?oa_Net ?opg_Net ?ohd_Net ?opo_Net ?osa_Net ?on_Net_kinds ?on_Net_rows ?iA_Net ?iB_Net ?iC_Net ?iD_Net ?iE_Net ?iF_Net ?jA_Net ?jB_Net ?omk_Net ?okp_Net ?a0 ?i0 ?l0 ?c0 ?k0 ?a1 ?i1 ?l1 ?c1 ?k1 ?a2 ?i2 ?l2 ?c2 ?k2 ?a3 ?l3 ?c3 ?k3 ?a4 ?l4 ?c4 ?k4 ?a5 ?l5 ?c5 ?k5 ?a6 ?i6 ?l6 ?c6 ?k6 ?a7 ?i7 ?l7 ?c7 ?k7 ?a8 ?i8 ?l8 ?c8 ?k8 ?a9 ?i9 ?l9 ?c9 ?k9 ?a10 ?i10 ?l10 ?c10 ?k10 ?q10_0 ?a11 ?i11 ?l11 ?c11 ?k11 ?a12 ?i12 ?l12 ?c12 ?k12 ?a13 ?i13 ?l13 ?c13 ?k13 ?a14 ?i14 ?l14 ?c14 ?k14 ?a15 ?i15 ?l15 ?c15 ?k15 ?a16 ?l16 ?c16 ?k16 ?a17 ?l17 ?c17 ?k17 ?a18 ?l18 ?c18 ?k18 ?a19 ?l19 ?c19 ?k19 ?a20 ?l20 ?c20 ?k20 ?a21 ?l21 ?c21 ?k21 ?a22 ?l22 ?c22 ?k22 ?a23 ?l23 ?c23 ?k23 ?a24 ?l24 ?c24 ?k24 ?a25 ?l25 ?c25 ?k25 ?a26 ?l26 ?c26 ?k26 ?a27 ?l27 ?c27 ?k27 ?a28 ?l28 ?c28 ?k28 ?a29 ?l29 ?c29 ?k29 ?a30 ?l30 ?c30 ?k30 ?a31 ?l31 ?c31 ?k31 ?a32 ?l32 ?c32 ?k32 ?a33 ?l33 ?c33 ?k33 ?ac_LETTERS ?ac_MOST ?ac_MOST_ENDS ?z_ValueError ?z_abs ?z_all ?z_bool ?z_int ?z_isinstance ?z_len ?z_list ?z_max ?z_min ?z_range ?z_set ?z_sorted ?z_str ?z_tuple ?ea_NetError ?eb_base ?eb_dict ?eb_type ?eb_get ?eb_tak ?ea_BadName ?ee_BadName ?ex_BadName ?ea_BadNumber ?ee_BadNumber ?ex_BadNumber ?ea_BadWay ?ee_BadWay ?ex_BadWay ?ea_BadEnds ?ee_BadEnds ?ex_BadEnds ?ea_BadLine ?ee_BadLine ?ex_BadLine ?ea_Taken ?ee_Taken ?ea_NoName ?ee_NoName ?ea_InUse ?ee_InUse ?ea_Full ?ee_Full ?ex_Full ?ea_Tight ?ee_Tight ?ea_Late ?ee_Late ?ea_Heavy ?ee_Heavy ?ea_NoPlan ?ee_NoPlan ?ea_NoRoom ?ee_NoRoom ?ex_NoRoom ?ea_NoStep ?ee_NoStep ?ex_NoStep ?ea_TooFew ?ee_TooFew ?ex_TooFew ?ea_BadPage ?ee_BadPage ?ex_BadPage ?xl_Taken ?xr_Taken ?xs_Taken ?xn_Taken_name ?xl_NoName ?xr_NoName ?xs_NoName ?xn_NoName_name ?xl_InUse ?xr_InUse ?xs_InUse ?xn_InUse_name ?e_nd
    (case ea_NetError => k_is)
    (case ea_BadName => k_is)
    (case ea_BadNumber => k_is)
    (case ea_BadWay => k_is)
    (case ea_BadEnds => k_is)
    (case ea_BadLine => k_is)
    (case ea_Taken => k_is)
    (case ea_NoName => k_is)
    (case ea_InUse => k_is)
    (case ea_Full => k_is)
    (case ea_Tight => k_is)
    (case ea_Late => k_is)
    (case ea_Heavy => k_is)
    (case ea_NoPlan => k_is)
    (case ea_NoRoom => k_is)
    (case ea_NoStep => k_is)
    (case ea_TooFew => k_is)
    (case ea_BadPage => k_is)
    (case oa_Net => k_is)
    (case opg_Net => k_is)
    (case ohd_Net => k_is)
    (case opo_Net => k_is)
    (case osa_Net => k_is)
    (case on_Net_kinds => k_is)
    (case on_Net_rows => k_is)
    (case iA_Net => kernel_rfl)
    (case iB_Net => k_is)
    (case iC_Net => k_is)
    (case iD_Net => k_is)
    (case iE_Net => k_is)
    (case iF_Net => k_is)
    (case jA_Net => kernel_rfl)
    (case jB_Net => k_is)
    (case omk_Net => k_is)
    (case okp_Net => k_is)
    (case a0 => k_is)
    (case i0 => k_is)
    (case l0 => k_is)
    (case c0 => k_is)
    (case k0 => k_is)
    (case a1 => k_is)
    (case i1 => k_is)
    (case l1 => k_is)
    (case c1 => k_is)
    (case k1 => k_is)
    (case a2 => k_is)
    (case i2 => k_is)
    (case l2 => k_is)
    (case c2 => k_is)
    (case k2 => k_is)
    (case a3 => k_is)
    (case l3 => k_is)
    (case c3 => k_is)
    (case k3 => k_is)
    (case a4 => k_is)
    (case l4 => k_is)
    (case c4 => k_is)
    (case k4 => k_is)
    (case a5 => k_is)
    (case l5 => k_is)
    (case c5 => k_is)
    (case k5 => k_is)
    (case a6 => k_is)
    (case i6 => k_is)
    (case l6 => k_is)
    (case c6 => k_is)
    (case k6 => k_is)
    (case a7 => k_is)
    (case i7 => k_is)
    (case l7 => k_is)
    (case c7 => k_is)
    (case k7 => k_is)
    (case a8 => k_is)
    (case i8 => k_is)
    (case l8 => k_is)
    (case c8 => k_is)
    (case k8 => k_is)
    (case a9 => k_is)
    (case i9 => k_is)
    (case l9 => k_is)
    (case c9 => k_is)
    (case k9 => k_is)
    (case a10 => k_is)
    (case i10 => k_is)
    (case l10 => k_is)
    (case c10 => k_is)
    (case k10 => k_is)
    (case q10_0 => k_is)
    (case a11 => k_is)
    (case i11 => k_is)
    (case l11 => k_is)
    (case c11 => k_is)
    (case k11 => k_is)
    (case a12 => k_is)
    (case i12 => k_is)
    (case l12 => k_is)
    (case c12 => k_is)
    (case k12 => k_is)
    (case a13 => k_is)
    (case i13 => k_is)
    (case l13 => k_is)
    (case c13 => k_is)
    (case k13 => k_is)
    (case a14 => k_is)
    (case i14 => k_is)
    (case l14 => k_is)
    (case c14 => k_is)
    (case k14 => k_is)
    (case a15 => k_is)
    (case i15 => k_is)
    (case l15 => k_is)
    (case c15 => k_is)
    (case k15 => k_is)
    (case a16 => k_is)
    (case l16 => k_is)
    (case c16 => k_is)
    (case k16 => k_is)
    (case a17 => k_is)
    (case l17 => k_is)
    (case c17 => k_is)
    (case k17 => k_is)
    (case a18 => k_is)
    (case l18 => k_is)
    (case c18 => k_is)
    (case k18 => k_is)
    (case a19 => k_is)
    (case l19 => k_is)
    (case c19 => k_is)
    (case k19 => k_is)
    (case a20 => k_is)
    (case l20 => k_is)
    (case c20 => k_is)
    (case k20 => k_is)
    (case a21 => k_is)
    (case l21 => k_is)
    (case c21 => k_is)
    (case k21 => k_is)
    (case a22 => k_is)
    (case l22 => k_is)
    (case c22 => k_is)
    (case k22 => k_is)
    (case a23 => k_is)
    (case l23 => k_is)
    (case c23 => k_is)
    (case k23 => k_is)
    (case a24 => k_is)
    (case l24 => k_is)
    (case c24 => k_is)
    (case k24 => k_is)
    (case a25 => k_is)
    (case l25 => k_is)
    (case c25 => k_is)
    (case k25 => k_is)
    (case a26 => k_is)
    (case l26 => k_is)
    (case c26 => k_is)
    (case k26 => k_is)
    (case a27 => k_is)
    (case l27 => k_is)
    (case c27 => k_is)
    (case k27 => k_is)
    (case a28 => k_is)
    (case l28 => k_is)
    (case c28 => k_is)
    (case k28 => k_is)
    (case a29 => k_is)
    (case l29 => k_is)
    (case c29 => k_is)
    (case k29 => k_is)
    (case a30 => k_is)
    (case l30 => k_is)
    (case c30 => k_is)
    (case k30 => k_is)
    (case a31 => k_is)
    (case l31 => k_is)
    (case c31 => k_is)
    (case k31 => k_is)
    (case a32 => k_is)
    (case l32 => k_is)
    (case c32 => k_is)
    (case k32 => k_is)
    (case a33 => k_is)
    (case l33 => k_is)
    (case c33 => k_is)
    (case k33 => k_is)
    (case ac_LETTERS => k_is)
    (case ac_MOST => k_is)
    (case ac_MOST_ENDS => k_is)
    (case z_ValueError => k_is)
    (case z_abs => k_is)
    (case z_all => k_is)
    (case z_bool => k_is)
    (case z_int => k_is)
    (case z_isinstance => k_is)
    (case z_len => k_is)
    (case z_list => k_is)
    (case z_max => k_is)
    (case z_min => k_is)
    (case z_range => k_is)
    (case z_set => k_is)
    (case z_sorted => k_is)
    (case z_str => k_is)
    (case z_tuple => k_is)
    (case eb_base => k_is)
    (case eb_dict => k_is)
    (case eb_type => k_is)
    (case eb_get => k_is)
    (case eb_tak => k_is)
    (case ee_BadName => kernel_rfl)
    (case ex_BadName => kernel_rfl)
    (case ee_BadNumber => kernel_rfl)
    (case ex_BadNumber => kernel_rfl)
    (case ee_BadWay => kernel_rfl)
    (case ex_BadWay => kernel_rfl)
    (case ee_BadEnds => kernel_rfl)
    (case ex_BadEnds => kernel_rfl)
    (case ee_BadLine => kernel_rfl)
    (case ex_BadLine => kernel_rfl)
    (case ee_Taken => kernel_rfl)
    (case ee_NoName => kernel_rfl)
    (case ee_InUse => kernel_rfl)
    (case ee_Full => kernel_rfl)
    (case ex_Full => kernel_rfl)
    (case ee_Tight => kernel_rfl)
    (case ee_Late => kernel_rfl)
    (case ee_Heavy => kernel_rfl)
    (case ee_NoPlan => kernel_rfl)
    (case ee_NoRoom => kernel_rfl)
    (case ex_NoRoom => kernel_rfl)
    (case ee_NoStep => kernel_rfl)
    (case ex_NoStep => kernel_rfl)
    (case ee_TooFew => kernel_rfl)
    (case ex_TooFew => kernel_rfl)
    (case ee_BadPage => kernel_rfl)
    (case ex_BadPage => kernel_rfl)
    (case xl_Taken => k_is)
    (case xr_Taken => decide +kernel)
    (case xs_Taken => k_is)
    (case xn_Taken_name => k_is)
    (case xl_NoName => k_is)
    (case xr_NoName => decide +kernel)
    (case xs_NoName => k_is)
    (case xn_NoName_name => k_is)
    (case xl_InUse => k_is)
    (case xr_InUse => decide +kernel)
    (case xs_InUse => k_is)
    (case xn_InUse_name => k_is)
    (case e_nd => decide +kernel)
#print axioms PySem.Challenge.cw_slotwright_k07_drop_and_full_holds
