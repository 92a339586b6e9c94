import PyProof.Rows.All
import Wide.All
import OpenK.AllK
import Wide.FinOn
import HandS.ForMost
import HandS.Wide
import HandS.IsInst
import HandS.EndBits
import HandS.Flow
import HandS.Defaults
import HandS.MakeKwOnly
import HandS.Exc
import HandS.ExcOwn
import HandS.WordsExc
import HandS.TryOnly
import HandS.HotCalls
import HandS.Small
import HandS.ExcField
import KE.KExcIs
import HandS.ExcIs
import HandS.CallSlots
import HandS.MakeKw
import HandS.Walk
import HandS.Style
import HandS.TupAny
import HandS.Deep
import HandS.Strs
import HandS.Set
import HandS.Zip
import HandS.Text
import HandS.Codes
import HandS.Steps
import PyProof.Rows.SortShellAny
import HandS.Sort
import HandS.TryOnly
import KE.KDictSum
import HandS.ExcValue
import HandS.WordsDict
import KE.GoesMore
import KE.SortKeyHeap
import HandS.Lambda
import HandS.SortKw
import HandS.EndOwn
import KE.KNestM
import HandS.DictComp
import HandS.TupLen
import KE.KDictCopyH
import KE.DataMinMax
import HandS.ExcInit
import PyProof.TwoTypesSub
import PyProof.IsRules
import HandS.DictComp
import HandS.Conv
import KE.SortData
import PyProof.ZipIter
import KE.KEqDict
import PySem.Challenge.RW_slotwright_k27_table_told
set_option Elab.async false
set_option linter.all false
set_option maxRecDepth 100000
set_option maxHeartbeats 4000000
namespace SW
open PySem L2
theorem same_new {U : Hp} {p : Addr} {o : HO} (h : U p = none) : Same U (upd U p o) := fun b x e => by
  rw [upd_ne (ne_of_none e h)]
  exact e
theorem same_mut {U H : Hp} {p : Addr} {o : HO} (e : Same U H) (h : U p = none) : Same U (upd H p o) := fun a u ha => by
  rw [upd_ne (ne_of_none ha h)]
  exact e a u ha
theorem upd_get {H : Hp} {p a : Addr} {o x : HO} (n : H p = none) (h : H a = some x) : upd H p o a = some x := by
  rw [upd_ne (ne_of_none h n)]
  exact h
/-- neither a table of codes nor a code -/
def plO : HO → Bool
  | .tbl _ => false
  | .ext _ => false
  | _ => true
def Pl (H : Hp) (p : Addr) : Prop := ∃ o, H p = some o ∧ plO o = true
theorem ntb {o : HO} (h : plO o = true) : ∀ ps, o ≠ .tbl ps := fun ps z => by
  subst z
  cases h
theorem Pl.ne {H : Hp} {p : Addr} (h : Pl H p) : H p ≠ none := by
  obtain ⟨o, e, _⟩ := h
  rw [e]
  intro z
  cases z
theorem Pl.of {H : Hp} {p : Addr} {o : HO} (h : H p = some o) (k : plO o = true) : Pl H p := ⟨o, h, k⟩
/-- a view without tables -/
def NT (U : Hp) : Prop := ∀ a ps, U a ≠ some (.tbl ps)
theorem nt_upd {U : Hp} {p : Addr} {o : HO} (h : NT U) (n : ∀ ps, o ≠ .tbl ps) : NT (upd U p o) := fun a ps z => by
  by_cases e : a = p
  · subst e
    rw [upd_same] at z
    exact n ps (Option.some.inj z)
  · rw [upd_ne e] at z
    exact h a ps z
/-- a table of codes stands on where it and its codes do -/
theorem tab_keep {H H' : Hp} {P : Addr} {q : Str} (h : LamX.TabS H P q) (k : ∀ b o, H b = some o → plO o = false → H' b = some o) : LamX.TabS H' P q := by
  obtain ⟨ps, h1, h2, h3⟩ := h
  refine ⟨ps, k _ _ h1 rfl, h2, fun pos cv hc => ?_⟩
  obtain ⟨c, e1, e2⟩ := h3 pos cv hc
  exact ⟨c, e1, k _ _ e2 rfl⟩
theorem tab_mut {H : Hp} {p P : Addr} {q : Str} {o : HO} (h : LamX.TabS H P q) (old : ∀ x, H p = some x → plO x = true) : LamX.TabS (upd H p o) P q := tab_keep h fun b x e n => by
  rw [upd_ne fun z => by
    subst z
    rw [old x e] at n
    cases n]
  exact e
/-- the name of the codes that a table holds -/
class QN where
  qn : Addr → Str
variable [QN]
structure Gr (M : List Addr) (U H U' H' : Hp) : Prop where
  vv : Same U U'
  vh : Same U' H'
  hh : ∀ a o, a ∉ M → (∀ ps, o ≠ .tbl ps) → H a = some o → H' a = some o
  dom : ∀ a, H a ≠ none → H' a ≠ none
  fr : ∀ a, U a = none → H a ≠ none → U' a = none
  tb : ∀ P, LamX.TabS H P (QN.qn P) → LamX.TabS H' P (QN.qn P)
  nt : NT U → NT U'
theorem Gr.refl {M : List Addr} {U H : Hp} (e : Same U H) : Gr M U H U H := ⟨Same.refl _, e, fun _ _ _ _ h => h, fun _ h => h, fun _ h _ => h, fun _ h => h, id⟩
theorem Gr.trans {M : List Addr} {U0 H0 U1 H1 U2 H2 : Hp} (a : Gr M U0 H0 U1 H1) (b : Gr M U1 H1 U2 H2) : Gr M U0 H0 U2 H2 :=
  ⟨a.vv.trans b.vv, b.vh, fun x o m n h => b.hh x o m n (a.hh x o m n h), fun x h => b.dom x (a.dom x h), fun x h k => b.fr x (a.fr x h k) (a.dom x k), fun P h => b.tb P (a.tb P h), fun h => b.nt (a.nt h)⟩
theorem Gr.weak {M N : List Addr} {U0 H0 U1 H1 : Hp} (a : Gr M U0 H0 U1 H1) (s : ∀ x, x ∈ M → x ∈ N) : Gr N U0 H0 U1 H1 :=
  ⟨a.vv, a.vh, fun x o m n h => a.hh x o (fun z => m (s x z)) n h, a.dom, a.fr, a.tb, a.nt⟩
theorem Gr.any {N : List Addr} {U0 H0 U1 H1 : Hp} (a : Gr [] U0 H0 U1 H1) : Gr N U0 H0 U1 H1 := a.weak fun _ h => nomatch h
theorem Gr.at {M : List Addr} {U0 H0 U1 H1 : Hp} {p : Addr} (a : Gr M U0 H0 U1 H1) (m : p ∉ M) (h : Pl H0 p) : H1 p = H0 p := by
  obtain ⟨o, e, n⟩ := h
  rw [e, a.hh p o m (ntb n) e]
/-- a new object that never changes -/
theorem Gr.new {M : List Addr} {U0 H0 U H : Hp} {p : Addr} {o : HO} (g : Gr M U0 H0 U H) (n : H p = none) (no : ∀ ps, o ≠ .tbl ps := by intro _ z; cases z) : Gr M U0 H0 (upd U p o) (upd H p o) := by
  have nu : U p = none := g.vh.free n
  have n0 : H0 p = none := by
    cases e : H0 p with
    | none => rfl
    | some x => exact absurd n (g.dom p (by rw [e]; intro z; cases z))
  refine ⟨g.vv.trans (same_new nu), fun a x h => ?_, fun a x m nn h => ?_, fun a h => ?_, fun a h k => ?_, fun P h => tab_mut (g.tb P h) (fun x e => by rw [n] at e; cases e), fun h => nt_upd (g.nt h) no⟩
  · by_cases e : a = p
    · subst e
      rw [upd_same] at h ⊢
      exact h
    · rw [upd_ne e] at h ⊢
      exact g.vh a x h
  · rw [upd_ne (ne_of_none h n0)]
    exact g.hh a x m nn h
  · by_cases e : a = p
    · subst e
      rw [upd_same]
      intro z
      cases z
    · rw [upd_ne e]
      exact g.dom a h
  · have e : a ≠ p := fun z => by
      subst z
      exact k n0
    rw [upd_ne e]
    exact g.fr a h k
/-- a new object that will change -/
theorem Gr.newM {M : List Addr} {U0 H0 U H : Hp} {p : Addr} {o : HO} (g : Gr M U0 H0 U H) (n : H p = none) : Gr M U0 H0 U (upd H p o) := by
  have nu : U p = none := g.vh.free n
  refine ⟨g.vv, same_mut g.vh nu, fun a x m nn h => ?_, fun a h => ?_, g.fr, fun P h => tab_mut (g.tb P h) (fun x e => by rw [n] at e; cases e), g.nt⟩
  · rw [upd_ne (ne_of_none (g.hh a x m nn h) n)]
    exact g.hh a x m nn h
  · by_cases e : a = p
    · subst e
      rw [upd_same]
      intro z
      cases z
    · rw [upd_ne e]
      exact g.dom a h
/-- an object outside of the view changes: one of M, or one that is newer than H0 -/
theorem Gr.mut {M : List Addr} {U0 H0 U H : Hp} {p : Addr} {o : HO} (g : Gr M U0 H0 U H) (nu : U p = none) (n0 : p ∈ M ∨ H0 p = none) (old : Pl H p) : Gr M U0 H0 U (upd H p o) := by
  refine ⟨g.vv, same_mut g.vh nu, fun a x m nn h => ?_, fun a h => ?_, g.fr, fun P h => tab_mut (g.tb P h) (fun x e => by
    obtain ⟨y, e1, e2⟩ := old
    rw [e1] at e
    cases e
    exact e2), g.nt⟩
  · have e : a ≠ p := fun z => by
      subst z
      rcases n0 with n0 | n0
      · exact m n0
      · rw [n0] at h
        cases h
    rw [upd_ne e]
    exact g.hh a x m nn h
  · by_cases e : a = p
    · subst e
      rw [upd_same]
      intro z
      cases z
    · rw [upd_ne e]
      exact g.dom a h
theorem Gr.fresh {M : List Addr} {U0 H0 U H : Hp} {p : Addr} (g : Gr M U0 H0 U H) (n : H p = none) : H0 p = none := by
  cases e : H0 p with
  | none => rfl
  | some x => exact absurd n (g.dom p (by rw [e]; intro z; cases z))
section
variable {X : Cx} {K : PySem.W.Frag}
theorem ix_listK (h : X.K = K) : IxR X (rIxL K) := by subst h; exact ix_list
theorem ix_tupK (h : X.K = K) : IxR X (rIxT K) := by subst h; exact ix_tup
theorem sl_listK (h : X.K = K) : SlR X (rSlL K) := by subst h; exact sl_list
theorem op_notInK (h : X.K = K) : OpR X (compareOp .NotIn) (rIn K true) := by subst h; exact op_notIn_seq
theorem op_eqDK (h : X.K = K) (hu : X.A.units + 64 < cLine) : OpR X (compareOp .Eq) (rEqD K) := by subst h; exact op_eqD hu
theorem op_neDK (h : X.K = K) (hu : X.A.units + 64 < cLine) : OpR X (compareOp .NotEq) (rNeD K) := by subst h; exact op_neD hu
def rLenK (K : PySem.W.Frag) : List V → Hp → VK → Prop := fun xs H Q => ∃ p ys, xs = [.ref p] ∧ (SqL K H p ys ∨ SqT K H p ys) ∧ Q (.int ys.length) H
def rListK (K : PySem.W.Frag) : List V → Hp → VK → Prop := fun xs H Q => ∃ p ys, xs = [.ref p] ∧ (SqL K H p ys ∨ SqT K H p ys) ∧ ∀ l, H l = none → Q (.ref l) (upd H l (.lst ys))
def rTupleK (K : PySem.W.Frag) : List V → Hp → VK → Prop := fun xs H Q => ∃ p ys, xs = [.ref p] ∧ ((SqL K H p ys ∧ ∀ l, H l = none → Q (.ref l) (upd H l (.tup ys))) ∨ (SqT K H p ys ∧ Q (.ref p) H))
theorem call_lenK (h : X.K = K) : CallR X (.builtin "len") (rLenK K) := by subst h; exact call_len_seq
theorem call_listK (h : X.K = K) : CallR X (.type "list") (rListK K) := by subst h; exact call_list_of
theorem call_tupleK (h : X.K = K) : CallR X (.type "tuple") (rTupleK K) := by subst h; exact call_tuple_of
theorem call_isiKK (h : X.K = K) : CallR X (.builtin "isinstance") (rIsi K) := by subst h; exact call_isi
theorem pi_listK {tg e : Expr} {te : TE} (h : X.K = K) (he : PE X e te) : PI X tg e (iList K te) := by subst h; exact pi_list he
theorem pi_tupK {tg e : Expr} {te : TE} (h : X.K = K) (he : PE X e te) : PI X tg e (iTup K te) := by subst h; exact pi_tup he
theorem pg_tupK {pos : Pos} {es : List Expr} {k : Nat} {t : TGs} {n : Nat} (h : X.K = K) (hc : X.calm = true) (hh : PGs X es t) (hn : (assignEach es X.env).length = n := by rfl) (hst : (assignEach es X.env).findIdx? (·.1) = none := by rfl) : PG X (.Tuple es k pos) (gTup K n t) := by subst h; exact pg_tup hc hh hn hst
theorem pe_fldK {pos : Pos} {e : Expr} {ta : TE} {f : Str} (h : X.K = K) (he : PE X e ta) (hb : attributeBase e f X.env (eval e X.env) = eval e X.env) : PE X (.Attribute e f pos) (tFld K ta f) := by subst h; exact pe_fld he hb
end
section
variable {σ : L2.St} {H : Hp} {Q : VK} {te ta tb tc : TE} {i : Nat} {v x y : V} {K : PySem.W.Frag} {n bk ct : L2.St → Hp → Prop} {rt : VK} {t u : TS} {g : TG}
theorem i_var (h : σ[i]? = some (some v)) (q : Q v H) : tVar i σ H Q := ⟨v, h, q⟩
theorem i_c (q : Q v H) : tC v σ H Q := q
theorem i_op {r : R2} (q : ta σ H (fun x H1 => tb σ H1 fun y H2 => r x y H2 Q)) : tOp r ta tb σ H Q := q
theorem i_un {r : V → Hp → VK → Prop} (q : ta σ H (fun x H1 => r x H1 Q)) : tUn r ta σ H Q := q
theorem i_rI0 {f : Int → Int → V} {a b : Int} (q : Q (f a b) H) : rI0 f (.int a) (.int b) H Q := ⟨a, b, rfl, rfl, q⟩
theorem i_rI {C : Int → Int → Prop} {f : Int → Int → V} {a b : Int} (c : C a b) (q : Q (f a b) H) : rI C f (.int a) (.int b) H Q := ⟨a, b, rfl, rfl, c, q⟩
theorem i_rU {f : Int → V} {a : Int} (q : Q (f a) H) : rU f (.int a) H Q := ⟨a, rfl, q⟩
theorem i_eqI {a b : Int} (q : Q (.bl (decide (a = b))) H) : rEq (.int a) (.int b) H Q := ⟨rfl, by
  have e : decide (V.int a = V.int b) = decide (a = b) := by
    by_cases h : a = b
    · rw [decide_eq_true h, decide_eq_true (congrArg V.int h)]
    · rw [decide_eq_false h, decide_eq_false (fun z => h (V.int.inj z))]
  show Q (.bl (decide (V.int a = V.int b))) H
  rw [e]
  exact q⟩
theorem i_neI {a b : Int} (q : Q (.bl (!decide (a = b))) H) : rNe (.int a) (.int b) H Q := ⟨rfl, by
  have e : decide (V.int a = V.int b) = decide (a = b) := by
    by_cases h : a = b
    · rw [decide_eq_true h, decide_eq_true (congrArg V.int h)]
    · rw [decide_eq_false h, decide_eq_false (fun z => h (V.int.inj z))]
  show Q (.bl (!decide (V.int a = V.int b))) H
  rw [e]
  exact q⟩
theorem i_eqS {a b : Str} (q : Q (.bl (decide (a = b))) H) : rEq (.str a) (.str b) H Q := ⟨rfl, by
  have e : decide (V.str a = V.str b) = decide (a = b) := by
    by_cases h : a = b
    · rw [decide_eq_true h, decide_eq_true (congrArg V.str h)]
    · rw [decide_eq_false h, decide_eq_false (fun z => h (V.str.inj z))]
  show Q (.bl (decide (V.str a = V.str b))) H
  rw [e]
  exact q⟩
theorem i_neS {a b : Str} (q : Q (.bl (!decide (a = b))) H) : rNe (.str a) (.str b) H Q := ⟨rfl, by
  have e : decide (V.str a = V.str b) = decide (a = b) := by
    by_cases h : a = b
    · rw [decide_eq_true h, decide_eq_true (congrArg V.str h)]
    · rw [decide_eq_false h, decide_eq_false (fun z => h (V.str.inj z))]
  show Q (.bl (!decide (V.str a = V.str b))) H
  rw [e]
  exact q⟩
theorem i_nil {R : List V → Hp → Prop} (q : R [] H) : tNil σ H R := q
theorem i_cons {R : List V → Hp → Prop} {tr : TA} (q : ta σ H (fun x H1 => tr σ H1 fun xs H2 => R (x :: xs) H2)) : tCons ta tr σ H R := q
theorem i_cb {r : List V → Hp → VK → Prop} {tr : TA} (q : tr σ H (fun vs H1 => r vs H1 Q)) : tCB r tr σ H Q := q
theorem i_call {sp : Sp} {dvs : List V} {E : XK} {tr : TA} (q : tr σ H (fun vs H1 => sp (vs ++ dvs) H1 Q E)) : tCall sp dvs E tr σ H Q := q
theorem i_callN {k m : Nat} {sp : Sp} {gV : List V → List V → List V} {E : XK} {tr tk : TA} (q : tr σ H fun vs H1 => tk σ H1 fun zs H2 => vs.length = k ∧ zs.length = m ∧ sp (gV vs zs) H2 Q E) : tCallN k m sp gV E tr tk σ H Q := q
theorem i_seq (q : t ⟨u ⟨n, rt, bk, ct⟩, rt, bk, ct⟩ σ H) : tSeq t u ⟨n, rt, bk, ct⟩ σ H := q
theorem i_next (q : n σ H) : tNext ⟨n, rt, bk, ct⟩ σ H := q
theorem i_brk (q : bk σ H) : tBreak ⟨n, rt, bk, ct⟩ σ H := q
theorem i_cont (q : ct σ H) : tCont ⟨n, rt, bk, ct⟩ σ H := q
theorem i_set (q : te σ H (fun x H1 => n (σ.set i (some x)) H1)) : tAsg te (gName i) ⟨n, rt, bk, ct⟩ σ H := q
theorem i_asg (q : te σ H (fun x H1 => g x σ H1 n)) : tAsg te g ⟨n, rt, bk, ct⟩ σ H := q
theorem i_drop (q : te σ H (fun _ H1 => n σ H1)) : tDrop te ⟨n, rt, bk, ct⟩ σ H := q
theorem i_ret (q : te σ H rt) : tRet te ⟨n, rt, bk, ct⟩ σ H := q
theorem i_retN (q : rt .non H) : tRetN ⟨n, rt, bk, ct⟩ σ H := q
theorem i_if {c : TT} (q : c σ H (fun b H1 => if b = true then t ⟨n, rt, bk, ct⟩ σ H1 else u ⟨n, rt, bk, ct⟩ σ H1)) : tIfS c t u ⟨n, rt, bk, ct⟩ σ H := q
theorem i_test {R : Bool → Hp → Prop} (q : te σ H (fun x H1 => ∃ k, x = .bl k ∧ R k H1)) : tTest te σ H R := q
theorem i_B {R : Bool → Hp → Prop} (q : te σ H (fun x H1 => ∃ k, x = .bl k ∧ R k H1)) : tB te σ H R := q
theorem i_bl {b : Bool} {R : Bool → Hp → Prop} (q : R b H) : ∃ k, V.bl b = .bl k ∧ R k H := ⟨b, rfl, q⟩
theorem i_not {c : TT} {R : Bool → Hp → Prop} (q : c σ H (fun b H1 => R (!b) H1)) : tNot c σ H R := q
theorem i_and {c d : TT} {R : Bool → Hp → Prop} (q : c σ H (fun b H1 => if b = true then d σ H1 R else R false H1)) : tAnd c d σ H R := q
theorem i_or {c d : TT} {R : Bool → Hp → Prop} (q : c σ H (fun b H1 => if b = true then R true H1 else d σ H1 R)) : tOr c d σ H R := q
theorem i_andV (q : ta σ H (fun x H1 => ∃ c, x = .bl c ∧ if c = true then tb σ H1 Q else Q (.bl false) H1)) : tAndV ta tb σ H Q := q
theorem i_orV (q : ta σ H (fun x H1 => ∃ c, x = .bl c ∧ if c = true then Q (.bl true) H1 else tb σ H1 Q)) : tOrV ta tb σ H Q := q
theorem i_notV (q : ta σ H (fun x H1 => ∃ c, x = .bl c ∧ Q (.bl (!c)) H1)) : tNotV ta σ H Q := q
theorem i_blV {b : Bool} {R : Bool → Prop} (q : R b) : ∃ k, V.bl b = .bl k ∧ R k := ⟨b, rfl, q⟩
theorem i_ifE {c : TT} (q : c σ H (fun b H1 => if b = true then ta σ H1 Q else tb σ H1 Q)) : tIf c ta tb σ H Q := q
theorem i_chain {r r' : R2} (q : ta σ H fun x H1 => tb σ H1 fun y H2 => r x y H2 fun z H3 => ∃ k, z = .bl k ∧ (if k = true then tc σ H3 fun w' H4 => r' y w' H4 Q else Q (.bl false) H3)) : tChain r r' ta tb tc σ H Q := q
theorem i_itT {A B : Prop} (q : A) : if true = true then A else B := by rw [if_pos rfl]; exact q
theorem i_itF {A B : Prop} (q : B) : if false = true then A else B := by rw [if_neg Bool.false_ne_true]; exact q
theorem i_ite {p : Prop} [Decidable p] {A B : Prop} (h1 : p → A) (h2 : ¬ p → B) : if decide p = true then A else B := by
  by_cases h : p
  · rw [decide_eq_true h, if_pos rfl]; exact h1 h
  · rw [decide_eq_false h, if_neg Bool.false_ne_true]; exact h2 h
theorem i_iteNT {A B : Prop} (q : B) : if (!true) = true then A else B := i_itF q
theorem i_iteNF {A B : Prop} (q : A) : if (!false) = true then A else B := i_itT q
theorem i_iteNN {b : Bool} {A B : Prop} (q : if b = true then A else B) : if (!!b) = true then A else B := by rw [Bool.not_not]; exact q
theorem i_ixL {p : Addr} {xs : List V} {k : Int} (h : H p = some (.lst xs)) (ha : atI xs k = some v) (q : Q v H) : rIxL K (.ref p) (.int k) H Q := ⟨p, xs, k, v, rfl, rfl, SqL.of h, ha, q⟩
theorem i_ixT {p : Addr} {xs : List V} {k : Int} (h : H p = some (.tup xs)) (ha : atI xs k = some v) (q : Q v H) : rIxT K (.ref p) (.int k) H Q := ⟨p, xs, k, v, rfl, rfl, SqT.of h, ha, q⟩
theorem i_sub {to ti : TE} {s : TSet} {R : L2.St → Hp → Prop} (q : to σ H fun o H1 => ti σ H1 fun j H2 => s o j v H2 fun H3 => R σ H3) : gSub to ti s v σ H R := q
theorem i_setL {p : Addr} {xs : List V} {k : Int} {j : Nat} {R : Hp → Prop} (h : H p = some (.lst xs)) (hk : ixN xs.length k = some j) (q : R (upd H p (.lst (xs.set j v)))) : rSetL (.ref p) (.int k) v H R := ⟨p, xs, k, j, rfl, rfl, h, hk, q⟩
theorem i_lst {tr : TA} (q : tr σ H fun xs H1 => xs.length ≤ sizeLine ∧ ∀ p, H1 p = none → Q (.ref p) (upd H1 p (.lst xs))) : tLst tr σ H Q := q
theorem i_tup {tr : TA} (q : tr σ H fun xs H1 => xs.length ≤ sizeLine ∧ ∀ p, H1 p = none → Q (.ref p) (upd H1 p (.tup xs))) : tTup tr σ H Q := q
theorem i_sl {r : V → Option Int → Option Int → Hp → VK → Prop} {tl th : TO} (q : te σ H fun x H1 => tl σ H1 fun l H2 => th σ H2 fun u H3 => r x l u H3 Q) : tSl r te tl th σ H Q := q
theorem i_nopart {R : Option Int → Hp → Prop} (q : R none H) : tNoPart σ H R := q
theorem i_part {R : Option Int → Hp → Prop} (q : te σ H fun x H1 => ∃ i, x = .int i ∧ R (some i) H1) : tPart te σ H R := q
theorem i_partE {k : Int} {R : Int → Prop} (q : R k) : ∃ i, V.int k = .int i ∧ R i := ⟨k, rfl, q⟩
theorem i_slL {a : Addr} {xs : List V} {lo hi : Option Int} (h : H a = some (.lst xs)) (q : ∀ p, H p = none → Q (.ref p) (upd H p (.lst (cutV xs lo hi)))) : rSlL K (.ref a) lo hi H Q := ⟨a, xs, rfl, SqL.of h, q⟩
theorem i_lenL {p : Addr} {xs : List V} (h : H p = some (.lst xs)) (q : Q (.int xs.length) H) : rLenK K [.ref p] H Q := ⟨p, xs, rfl, .inl (SqL.of h), q⟩
theorem i_lenT {p : Addr} {xs : List V} (h : H p = some (.tup xs)) (q : Q (.int xs.length) H) : rLenK K [.ref p] H Q := ⟨p, xs, rfl, .inr (SqT.of h), q⟩
theorem i_listL {p : Addr} {xs : List V} (h : H p = some (.lst xs)) (q : ∀ l, H l = none → Q (.ref l) (upd H l (.lst xs))) : rListK K [.ref p] H Q := ⟨p, xs, rfl, .inl (SqL.of h), q⟩
theorem i_listT {p : Addr} {xs : List V} (h : H p = some (.tup xs)) (q : ∀ l, H l = none → Q (.ref l) (upd H l (.lst xs))) : rListK K [.ref p] H Q := ⟨p, xs, rfl, .inr (SqT.of h), q⟩
theorem i_tupleL {p : Addr} {xs : List V} (h : H p = some (.lst xs)) (q : ∀ l, H l = none → Q (.ref l) (upd H l (.tup xs))) : rTupleK K [.ref p] H Q := ⟨p, xs, rfl, .inl ⟨SqL.of h, q⟩⟩
theorem i_tupleT {p : Addr} {xs : List V} (h : H p = some (.tup xs)) (q : Q (.ref p) H) : rTupleK K [.ref p] H Q := ⟨p, xs, rfl, .inr ⟨SqT.of h, q⟩⟩
theorem i_bm {Ty : String} {r : V → List V → Hp → VK → Prop} {to : TE} {t : TA} (q : to σ H fun x H1 => tyV K Ty x H1 ∧ t σ H1 fun xs H2 => r x xs H2 Q) : tBM K Ty r to t σ H Q := q
theorem i_bm0 {Ty : String} {r : V → List V → Hp → VK → Prop} {to : TE} (q : to σ H fun x H1 => tyV K Ty x H1 ∧ r x [] H1 Q) : tBM0 K Ty r to σ H Q := q
theorem i_tyL {p : Addr} {xs : List V} {R : Prop} (h : H p = some (.lst xs)) (q : R) : tyV K "list" (.ref p) H ∧ R := ⟨.inl ⟨rfl, _, SqL.of h⟩, q⟩
theorem i_app {p : Addr} {xs : List V} {y : V} (h : H p = some (.lst xs)) (hl : xs.length ≤ 1000) (q : Q .non (upd H p (.lst (xs ++ [y])))) : rAppend (.ref p) [y] H Q := ⟨p, xs, y, rfl, rfl, h, small1000 hl, q⟩
end
def LOOP (J : It) (g : TG) (tb : TS) (D : Ends) (σ : L2.St) (H : Hp) : Prop := ∃ W : Nat → Nat → L2.St → Hp → Prop, (∃ m, W 0 m σ H) ∧ ∀ i m σ H, W i m σ H →
  (J.stop i H ∧ D.nx σ H) ∨ (J.go i H ∧ ∃ N : L2.St → Hp → Prop, (∀ σ' H', N σ' H' → ∃ m', m' < m ∧ W (i + 1) m' σ' H') ∧ ∀ x H', J.yld i H x H' → g x σ H' fun σ2 H2 => tb { D with nx := N, ct := N, bk := D.nx } σ2 H2)
section
variable {σ : L2.St} {H : Hp} {K : PySem.W.Frag} {n bk ct : L2.St → Hp → Prop} {rt : VK} {tb : TS} {g : TG} {te : TE} {ta : TA}
theorem i_for1 (q : ta σ H fun vs H1 => ∃ j : Int, vs = [.int j] ∧ -(2 ^ 62) ≤ j ∧ j < 2 ^ 62 ∧ LOOP (Itr 0 j.toNat) g tb ⟨n, rt, bk, ct⟩ σ H1) : tFor (iRng1 ta) g tb ⟨n, rt, bk, ct⟩ σ H := q
theorem i_for2 (q : ta σ H fun vs H1 => ∃ i j : Int, vs = [.int i, .int j] ∧ (-(2 ^ 62) ≤ i ∧ i < 2 ^ 62 ∧ -(2 ^ 62) ≤ j ∧ j < 2 ^ 62) ∧ LOOP (Itr i (j - i).toNat) g tb ⟨n, rt, bk, ct⟩ σ H1) : tFor (iRng2 ta) g tb ⟨n, rt, bk, ct⟩ σ H := q
theorem i_for3 (q : ta σ H fun vs H1 => ∃ (i j c : Int) (m : Nat), vs = [.int i, .int j, .int c] ∧ RgC i j c m ∧ LOOP (Itc i c m) g tb ⟨n, rt, bk, ct⟩ σ H1) : tFor (iRng3 ta) g tb ⟨n, rt, bk, ct⟩ σ H := q
theorem i_forL (q : te σ H fun x H1 => ∃ a, x = .ref a ∧ (∃ xs, SqL K H1 a xs) ∧ LOOP (Itl K a) g tb ⟨n, rt, bk, ct⟩ σ H1) : tFor (iList K te) g tb ⟨n, rt, bk, ct⟩ σ H := q
theorem i_forT (q : te σ H fun x H1 => ∃ a, x = .ref a ∧ (∃ xs, SqT K H1 a xs) ∧ LOOP (Itt K a) g tb ⟨n, rt, bk, ct⟩ σ H1) : tFor (iTup K te) g tb ⟨n, rt, bk, ct⟩ σ H := q
theorem i_par {i j : Nat} (q : ta σ H fun vs H1 => ∃ v w, vs = [v, w] ∧ n ((σ.set i (some v)).set j (some w)) H1) : tPar i j ta ⟨n, rt, bk, ct⟩ σ H := q
theorem i_parE {x y : V} {R : V → V → Prop} (q : R x y) : ∃ v w, [x, y] = [v, w] ∧ R v w := ⟨x, y, rfl, q⟩
theorem i_aug {i : Nat} {ti : TIp} {x : V} (h : σ[i]? = some (some x)) (q : te σ H fun y H1 => ti x y H1 fun z H2 => n (σ.set i (some z)) H2) : tAug i te ti ⟨n, rt, bk, ct⟩ σ H := ⟨_, h, q⟩
theorem i_ipI {f : Int → Int → Int} {a b : Int} {Q : VK} (q : Q (.int (f a b)) H) : ipI f (.int a) (.int b) H Q := ⟨a, b, rfl, rfl, q⟩
theorem i_asg2 {g1 g2 : TG} (q : te σ H fun x H1 => g1 x σ H1 fun σ1 H2 => g2 x σ1 H2 n) : tAsg2 te g1 g2 ⟨n, rt, bk, ct⟩ σ H := q
theorem i_gtup {a : Addr} {xs : List V} {k : Nat} {tg : TGs} {R : L2.St → Hp → Prop} (h : H a = some (.tup xs)) (hl : xs.length = k) (q : tg xs σ H R) : gTup K k tg (.ref a) σ H R := ⟨a, xs, rfl, SqT.of h, hl, q⟩
theorem i_gcons {v : V} {r : List V} {tg : TGs} {R : L2.St → Hp → Prop} (q : g v σ H fun σ' H' => tg r σ' H' R) : gCons g tg (v :: r) σ H R := ⟨v, r, rfl, q⟩
theorem i_gnil {R : L2.St → Hp → Prop} (q : R σ H) : gNil [] σ H R := ⟨rfl, q⟩
theorem i_gname {i : Nat} {x : V} {R : L2.St → Hp → Prop} (q : R (σ.set i (some x)) H) : gName i x σ H R := q
end
def COMP (J : It) (g : TG) (tt : TT) (te : TE) (vs : List Nat) (σ : L2.St) (H1 : Hp) (D : Addr) (Q : VK) : Prop := ∃ W : Nat → Nat → Hp → Prop, (∃ m, W 0 m (upd H1 D (.lst []))) ∧ ∀ i m H, W i m H →
  (J.stop i H ∧ Q (.ref D) H) ∨ (J.go i H ∧ ∃ Nx : Hp → Prop, (∀ H', Nx H' → ∃ m', m' < m ∧ W (i + 1) m' H') ∧ ∀ x H', J.yld i H x H' → g x (wipe σ vs) H' fun σ2 H2 => wipe σ2 vs = wipe σ vs ∧ tt σ2 H2 fun b H3 =>
    if b = true then te σ2 H3 fun y H4 => ∃ acc, H4 D = some (.lst acc) ∧ acc.length < sizeLine ∧ Nx (upd H4 D (.lst (acc ++ [y]))) else Nx H3)
section
variable {σ : L2.St} {H : Hp} {K : PySem.W.Frag} {Q : VK} {g : TG} {tt : TT} {te tl : TE} {ta : TA} {vs : List Nat}
theorem i_lc1 (q : ta σ H fun us H1 => ∃ j : Int, us = [.int j] ∧ -(2 ^ 62) ≤ j ∧ j < 2 ^ 62 ∧ ∀ D, H1 D = none → COMP (Itr 0 j.toNat) g tt te vs σ H1 D Q) : tLc (iRng1 ta) g tt te vs σ H Q := q
theorem i_lc2 (q : ta σ H fun us H1 => ∃ i j : Int, us = [.int i, .int j] ∧ (-(2 ^ 62) ≤ i ∧ i < 2 ^ 62 ∧ -(2 ^ 62) ≤ j ∧ j < 2 ^ 62) ∧ ∀ D, H1 D = none → COMP (Itr i (j - i).toNat) g tt te vs σ H1 D Q) : tLc (iRng2 ta) g tt te vs σ H Q := q
theorem i_lcL (q : tl σ H fun x H1 => ∃ a, x = .ref a ∧ (∃ xs, SqL K H1 a xs) ∧ ∀ D, H1 D = none → COMP (Itl K a) g tt te vs σ H1 D Q) : tLc (iList K tl) g tt te vs σ H Q := q
theorem i_lcT (q : tl σ H fun x H1 => ∃ a, x = .ref a ∧ (∃ xs, SqT K H1 a xs) ∧ ∀ D, H1 D = none → COMP (Itt K a) g tt te vs σ H1 D Q) : tLc (iTup K tl) g tt te vs σ H Q := q
theorem i_yes {R : Bool → Hp → Prop} (q : R true H) : tYes σ H R := q
end
def LT (U : Hp) (p : Addr) (rows : List (List V)) : Prop := ∃ as : List Addr, U p = some (.lst (as.map V.ref)) ∧ Paired (fun a r => U a = some (.tup r)) as rows
theorem Paired.imp {α β : Type} {F G : α → β → Prop} (h : ∀ a b, F a b → G a b) : ∀ {xs : List α} {ys : List β}, Paired F xs ys → Paired G xs ys
  | _, _, .nil => .nil
  | _, _, .cons a t => .cons (h _ _ a) (Paired.imp h t)
theorem Paired.at {α β : Type} {F : α → β → Prop} : ∀ {xs : List α} {ys : List β}, Paired F xs ys → ∀ (i : Nat) (y : β), ys[i]? = some y → ∃ x, xs[i]? = some x ∧ F x y
  | _, _, .nil, i, y, e => by simp at e
  | _, _, .cons a t, 0, y, e => by
    have e' := Option.some.inj e
    subst e'
    exact ⟨_, rfl, a⟩
  | _, _, .cons a t, i + 1, y, e => Paired.at t i y e
theorem Paired.at' {α β : Type} {F : α → β → Prop} : ∀ {xs : List α} {ys : List β}, Paired F xs ys → ∀ (i : Nat) (x : α), xs[i]? = some x → ∃ y, ys[i]? = some y ∧ F x y
  | _, _, .nil, i, y, e => by simp at e
  | _, _, .cons a t, 0, y, e => by
    have e' := Option.some.inj e
    subst e'
    exact ⟨_, rfl, a⟩
  | _, _, .cons a t, i + 1, y, e => Paired.at' t i y e
theorem Paired.len {α β : Type} {F : α → β → Prop} : ∀ {xs : List α} {ys : List β}, Paired F xs ys → xs.length = ys.length
  | _, _, .nil => rfl
  | _, _, .cons _ t => congrArg (· + 1) (Paired.len t)
theorem Paired.mp {α β γ : Type} {F : α → γ → Prop} {f : β → γ} : ∀ {xs : List α} {ys : List β}, Paired (fun a b => F a (f b)) xs ys → Paired F xs (ys.map f)
  | _, _, .nil => .nil
  | _, _, .cons a t => .cons a (Paired.mp t)
theorem LT.mono {U U' : Hp} {p : Addr} {rows : List (List V)} (e : Same U U') (h : LT U p rows) : LT U' p rows := by
  obtain ⟨as, h1, h2⟩ := h
  exact ⟨as, e _ _ h1, Paired.imp (fun a r x => e _ _ x) h2⟩
section
variable {σ : L2.St} {H U : Hp} {K : PySem.W.Frag} {n bk ct : L2.St → Hp → Prop} {rt : VK} {tb : TS} {g : TG} {te : TE} {ta : TA} {p : Addr} {rows : List (List V)}
theorem LT.len (h : LT U p rows) : ∃ xs : List V, U p = some (.lst xs) ∧ xs.length = rows.length := by
  obtain ⟨as, h1, h2⟩ := h
  exact ⟨_, h1, by rw [List.length_map, Paired.len h2]⟩
end
def Lay (n : Nat) (d : PyData) : Prop := d.canLay0 = true ∧ d.depth ≤ n
theorem lay_int {n : Nat} {i : Int} : Lay n (.int i) := ⟨rfl, Nat.zero_le _⟩
theorem lay_none {n : Nat} : Lay n .none := ⟨rfl, Nat.zero_le _⟩
theorem lay_bool {n : Nat} {b : Bool} : Lay n (.bool b) := ⟨rfl, Nat.zero_le _⟩
theorem Lay.shaped {n : Nat} {d : PyData} (h : Lay n d) (hn : n ≤ 64) : SeqAt.shaped d = true := by
  unfold SeqAt.shaped
  rw [h.1, decide_eq_true (Nat.le_trans h.2 hn)]
  rfl
theorem bt_len : bootBuiltins "len" = some (.builtin "len") := by decide +kernel
theorem bt_abs : bootBuiltins "abs" = some (.builtin "abs") := by decide +kernel
theorem bt_sorted : bootBuiltins "sorted" = some (.builtin "sorted") := by decide +kernel
theorem bt_isinstance : bootBuiltins "isinstance" = some (.builtin "isinstance") := by decide +kernel
theorem bt_list : bootBuiltins "list" = some (.type "list") := by decide +kernel
theorem bt_tuple : bootBuiltins "tuple" = some (.type "tuple") := by decide +kernel
section
variable {K : PySem.W.Frag} {H : Hp} {Q : VK}
theorem i_isI {i : Int} (q : Q (.bl true) H) : rIsi K [.int i, .ty "int"] H Q := ⟨.int i, .ty "int", .type "int", .type "int", true, rfl, .ty _, .base (.int _), kit_ty (by decide +kernel), q⟩
theorem i_isB {i : Int} (q : Q (.bl false) H) : rIsi K [.int i, .ty "bool"] H Q := ⟨.int i, .ty "bool", .type "int", .type "bool", false, rfl, .ty _, .base (.int _), kit_ty (by decide +kernel), q⟩
theorem i_isBB {b : Bool} (q : Q (.bl true) H) : rIsi K [.bl b, .ty "bool"] H Q := ⟨.bl b, .ty "bool", .type "bool", .type "bool", true, rfl, .ty _, .base (.bl _), kit_ty (by decide +kernel), q⟩
theorem i_isL {p : Addr} {xs : List V} (h : H p = some (.lst xs)) (q : Q (.bl true) H) : rIsi K [.ref p, .ty "list"] H Q := ⟨.ref p, .ty "list", .type "list", .type "list", true, rfl, .ty _, .base (.lst h), kit_ty (by decide +kernel), q⟩
theorem i_isT {p : Addr} {xs : List V} (h : H p = some (.tup xs)) (q : Q (.bl true) H) : rIsi K [.ref p, .ty "tuple"] H Q := ⟨.ref p, .ty "tuple", .type "tuple", .type "tuple", true, rfl, .ty _, .base (.tup h), kit_ty (by decide +kernel), q⟩
end
structure Dr (U H : Hp) (s : Addr) : Prop where
  ex : ∃ (l : Addr) (ns : List Int) (i b e : Int), H s = some (.lst [.ref l, .int i, .int b, .int e]) ∧ U l = some (.lst (ns.map V.int)) ∧ 0 ≤ i ∧ i ≤ ns.length ∧ 0 ≤ b
  out : U s = none
def spStart (K : PySem.W.Frag) : Sp := fun vs H Q _ => ∃ (a : Addr) (ns : List Int) (U : Hp), vs = [.ref a] ∧ SqL K H a (ns.map V.int) ∧ Same U H ∧
  ∀ s U' H', Gr [] U H U' H' → Dr U' H' s → H s = none → Q (.ref s) H'
def spDraw : Sp := fun vs H Q _ => ∃ (s : Addr) (many : Int) (U : Hp), vs = [.ref s, .int many] ∧ 0 < many ∧ many < 2 ^ 200 ∧ Same U H ∧ Dr U H s ∧
  ∀ r H', 0 ≤ r → r < many → Same U H' → Dr U H' s → (∀ a, a ≠ s → H' a = H a) → Q (.int r) H'
theorem cut63 (ns : List Int) : ∃ ms : List Int, cutV (ns.map V.int) none (some 63) = ms.map V.int := by
  unfold cutV
  exact ⟨(ns.drop _).take _, by rw [List.map_take, List.map_drop]⟩
theorem Dr.mono {U U' H H' : Hp} {s : Addr} (d : Dr U H s) (e : Same U U') (h : H' s = H s) (n : U' s = none) : Dr U' H' s := by
  obtain ⟨⟨l, ns, i, b, e', h1, h2, h3⟩, _⟩ := d
  exact ⟨⟨l, ns, i, b, e', by rw [h]; exact h1, e _ _ h2, h3⟩, n⟩
theorem Dr.pl {U H : Hp} {s : Addr} (d : Dr U H s) : Pl H s := by
  obtain ⟨⟨l, ns, i, b, e', h1, _⟩, _⟩ := d
  exact .of h1 rfl
theorem Dr.some {U H : Hp} {s : Addr} (d : Dr U H s) : H s ≠ none := by
  obtain ⟨⟨l, ns, i, b, e', h1, _⟩, _⟩ := d
  rw [h1]
  intro z
  cases z
/-- a new thing that never changes; a new one that will -/
theorem Dr.new {U H : Hp} {s p : Addr} {o : HO} (d : Dr U H s) (n : H p = none) (e : Same U H) : Dr (upd U p o) (upd H p o) s := by
  have ne : s ≠ p := fun z => by
    subst z
    exact d.some n
  exact d.mono (same_new (e.free n)) (upd_ne ne) (by rw [upd_ne ne]; exact d.out)
theorem Dr.newM {U H : Hp} {s p : Addr} {o : HO} (d : Dr U H s) (n : H p = none) : Dr U (upd H p o) s := by
  have ne : s ≠ p := fun z => by
    subst z
    exact d.some n
  exact d.mono (Same.refl _) (upd_ne ne) d.out
theorem Dr.mut {U H : Hp} {s p : Addr} {o : HO} (d : Dr U H s) (ne : s ≠ p) : Dr U (upd H p o) s := d.mono (Same.refl _) (upd_ne ne) d.out
/-- behind a call that leaves all as it was -/
theorem Dr.gr {M : List Addr} {U U' H H' : Hp} {s : Addr} (d : Dr U H s) (g : Gr M U H U' H') (m : s ∉ M) : Dr U' H' s := by
  obtain ⟨⟨l, ns, i, b, e', h1, h2, h3⟩, n⟩ := d
  exact ⟨⟨l, ns, i, b, e', g.hh _ _ m (ntb rfl) h1, g.vv _ _ h2, h3⟩, g.fr s n (by rw [h1]; intro z; cases z)⟩
abbrev Tups (U : Hp) (as : List Addr) (rows : List (List V)) : Prop := Paired (fun a r => U a = some (.tup r)) as rows
theorem Tups.mono {U U' : Hp} {as : List Addr} {rows : List (List V)} (e : Same U U') (h : Tups U as rows) : Tups U' as rows := Paired.imp (fun _ _ x => e _ _ x) h
theorem Paired.setAt {α β : Type} {F : α → β → Prop} {a : α} {b : β} (h : F a b) : ∀ {xs : List α} {ys : List β} (i : Nat), Paired F xs ys → Paired F (xs.set i a) (ys.set i b)
  | _, _, _, .nil => .nil
  | _, _, 0, .cons _ t => .cons h t
  | _, _, i + 1, .cons x t => .cons x (Paired.setAt h i t)
theorem Paired.erase {α β : Type} {F : α → β → Prop} : ∀ {xs : List α} {ys : List β} (i : Nat), Paired F xs ys → Paired F (xs.eraseIdx i) (ys.eraseIdx i)
  | _, _, _, .nil => .nil
  | _, _, 0, .cons _ t => t
  | _, _, i + 1, .cons x t => .cons x (Paired.erase i t)
theorem Tups.erase {U : Hp} {as : List Addr} {rows : List (List V)} (i : Nat) (hT : Tups U as rows) : Tups U (as.eraseIdx i) (rows.eraseIdx i) := Paired.erase i hT
theorem Tups.snoc {U : Hp} {as : List Addr} {rows : List (List V)} {a : Addr} {r : List V} (h : U a = some (.tup r)) (hT : Tups U as rows) : Tups U (as ++ [a]) (rows ++ [r]) := Paired.snoc hT h
end SW
namespace SWS
open PySem PySem.Spec PyProof.Rows SS
/-- how many unlike ones -/
inductive DCnt : List Str → Nat → Prop
  | nil : DCnt [] 0
  | old {xs : List Str} {c : Nat} {x : Str} : DCnt xs c → x ∈ xs → DCnt (xs ++ [x]) c
  | new {xs : List Str} {c : Nat} {x : Str} : DCnt xs c → x ∉ xs → DCnt (xs ++ [x]) (c + 1)
theorem DCnt.le {xs : List Str} {c : Nat} (h : DCnt xs c) : c ≤ xs.length ∧ (c = xs.length ↔ xs.Nodup) := by
  induction h with
  | nil => exact ⟨Nat.le_refl _, by simp⟩
  | @old xs c x h hx ih =>
    obtain ⟨i1, i2⟩ := ih
    rw [List.length_append, List.length_singleton]
    refine ⟨by omega, ⟨fun e => by omega, fun n => ?_⟩⟩
    exact absurd rfl ((List.nodup_append.mp n).2.2 x hx x (List.mem_singleton.mpr rfl))
  | @new xs c x h hx ih =>
    obtain ⟨i1, i2⟩ := ih
    rw [List.length_append, List.length_singleton]
    refine ⟨by omega, ⟨fun e => ?_, fun n => ?_⟩⟩
    · refine List.nodup_append.mpr ⟨i2.mp (by omega), by simp, fun a ha b hb z => ?_⟩
      rw [List.mem_singleton.mp hb] at z
      exact hx (z ▸ ha)
    · have := i2.mpr (List.nodup_append.mp n).1
      omega
section
variable {prog : Program} {w : World} {A : Around} {R : Result → Shared → Prop} {I : Addr} {fp wr : List Addr} {G : Array GenState → Array GenState → Prop} {n : Nat} {P : Nat → Value → Prop} {St : Nat → Shared → Prop}
theorem loopS (W : WalksS prog w A.in1 I fp wr G n P St) (S : Addr) (hSf : S ∉ fp) (xs : List Str) (hsz : xs.length = n) (hb : n + 1 < scanBound)
    (hval : ∀ i v, P i v → ∃ t, v = .str (xs.getD i Str.empty) t) :
    ∀ (k i : Nat) (s : Shared), n - i = k → i ≤ n → St i s →
      (∃ c, DCnt (xs.take i) c ∧ s.heap.SetOf (PySem.strKind prog w) S (fun k' => (xs.take i).any (· == k')) c) →
      (∀ s' c, Moved (S :: wr) G s s' → DCnt xs c → s'.heap.SetOf (PySem.strKind prog w) S (fun k' => xs.any (· == k')) c → R (.ok (.ret .none)) s') →
      codeAny (model prog w) A (.builtin "set.update.loop" ⟨[.ref S, .ref I], []⟩) R s := by
  have hSw : S ∉ wr := fun h => hSf (W.sub _ h)
  have hsub : ∀ b ∈ wr, b ∈ S :: wr := fun b hb => List.mem_cons_of_mem _ hb
  intro k
  induction k with
  | zero =>
    intro i s hk hi hst ⟨c, hc, hS⟩ hR
    have hin : i = n := by omega
    subst hin
    refine codeAny_builtin PyProof.Rows.F.entry_set_update_loop ?_
    rw [Around.under_plainId PyProof.Rows.F.plain_set_update_loop _]
    show wpAny _ A.in1 (pyNext (.ref I) >>= _) _ _ s
    refine wpAny_bind (W.done s _ _ hst fun s' hm => ?_)
    show wpAny _ A.in1 (ret Value.none) _ _ s'
    have e : xs.take i = xs := List.take_of_length_le (by omega)
    rw [e] at hc hS
    exact wpAny_pure (hR s' c (hm.mono hsub) hc (by
      obtain ⟨o, es, ep, t, ho, rest⟩ := hS
      exact ⟨o, es, ep, t, hm.heap S _ hSw ho, rest⟩))
  | succ k ih =>
    intro i s hk hi hst ⟨c, hc, hS⟩ hR
    have hlt : i < n := by omega
    have hcn : c ≤ i := by
      have := hc.le.1
      rw [List.length_take] at this
      omega
    refine codeAny_builtin PyProof.Rows.F.entry_set_update_loop ?_
    rw [Around.under_plainId PyProof.Rows.F.plain_set_update_loop _]
    show wpAny _ A.in1 (pyNext (.ref I) >>= _) _ _ s
    refine wpAny_bind (W.item i s _ _ hlt hst fun v s' hP hst' hm => ?_)
    obtain ⟨t, rfl⟩ := hval i v hP
    have hS' : s'.heap.SetOf (PySem.strKind prog w) S (fun k' => (xs.take i).any (· == k')) c := by
      obtain ⟨o, es, ep, tb, ho, rest⟩ := hS
      exact ⟨o, es, ep, tb, hm.heap S _ hSw ho, rest⟩
    show wpAny _ A.in1 (holding [Value.str (xs.getD i Str.empty) t] (setAdd S (.str (xs.getD i Str.empty) t)) >>= _) _ _ s'
    refine wpAny_bind (wpAny_holding ?_)
    unfold setAdd
    refine wpAny_holding ?_
    refine wpAny_bind ((PySem.strKind prog w).pyHash (k := xs.getD i Str.empty) (strKind_is _ _ _ _) ?_)
    refine wpAny_setAddHashed_of (knd := PySem.strKind prog w) (s := { s' with toks := s'.toks + 1 }) (strKind_is _ _ _ _) rfl hS' (by omega) fun h' hsb hS2 => ?_
    have hi' : i < xs.length := by omega
    have ex : xs.getD i Str.empty = xs[i] := by rw [List.getD_eq_getElem?_getD, List.getElem?_eq_getElem hi']; rfl
    have et : xs.take (i + 1) = xs.take i ++ [xs[i]] := by rw [List.take_add_one, List.getElem?_eq_getElem hi']; rfl
    rw [ex] at hS2
    have hSi : ∃ c', DCnt (xs.take (i + 1)) c' ∧ h'.SetOf (PySem.strKind prog w) S (fun k' => (xs.take (i + 1)).any (· == k')) c' := by
      have hcg : ∀ k' : Str, ((xs.take i).any (· == k') || decide (k' = xs[i])) = (xs.take (i + 1)).any (· == k') := fun k' => by
        rw [et, List.any_append]
        congr 1
        by_cases e : k' = xs[i]
        · subst e; simp
        · have hb : (xs[i] == k') = false := by simpa [beq_iff_eq] using (fun h' : xs[i] = k' => e h'.symm)
          simp [hb, e]
      have hm : (xs.take i).any (· == xs[i]) = true ↔ xs[i] ∈ xs.take i := by
        rw [List.any_eq_true]
        exact ⟨fun ⟨y, h1, h2⟩ => (eq_of_beq h2) ▸ h1, fun h => ⟨_, h, beq_self_eq_true _⟩⟩
      rw [et]
      by_cases hz : xs[i] ∈ xs.take i
      · rw [if_pos (hm.mpr hz)] at hS2
        exact ⟨c, .old hc hz, SetOf_congr hS2 (by rw [← et]; exact hcg) rfl⟩
      · rw [if_neg fun z => hz (hm.mp z)] at hS2
        exact ⟨c + 1, .new hc hz, SetOf_congr hS2 (by rw [← et]; exact hcg) rfl⟩
    refine wpAny_pure ⟨plainId_quiet PyProof.Rows.F.plain_set_update_loop _, ih (i + 1) _ (by omega) hlt (W.frame _ s' _ _ hst' (Nat.le_succ _) fun b hb o e => ?_) hSi fun s'' c'' hm'' hc'' hS'' => ?_⟩
    · rw [hsb.2 b (fun h : b = S => hSf (by rw [← h]; exact hb))]; exact e
    · refine hR s'' c'' (Moved.trans W.gtrans ((hm.mono hsub).then_heap (Nat.le_succ _) fun b o hb e => ?_) hm'') hc'' hS''
      rw [hsb.2 b (fun h : b = S => hb (by rw [h]; exact List.mem_cons_self))]; exact e
end
section
variable {prog : Program} {w : World} {A : Around} {E : Value → Shared → Prop} {s : Shared}
abbrev setO (led : Bool) : Obj := { cls := .type "set", dict := none, data := .set #[] 0 (.fresh 0 0 led) }
theorem set_list {l : Addr} {items : Array Value} {xs : List Str} {Q : Value → Shared → Prop}
    (hh : A.handled = none) (hl : s.heap.IsList l items) (hi : PyProof.Rows.StrsAre items.toList xs) (hb : xs.length + 1 < scanBound)
    (h : ∀ (h' : Heap) (tk c : Nat), DCnt xs c → h'.SetOf (PySem.strKind prog w) s.heap.objs.size (fun k' => xs.any (· == k')) c →
      (∀ b o, b < s.heap.objs.size → s.heap.get? b = some o → h'.get? b = some o) → Q (.ref s.heap.objs.size) { s with heap := h', toks := tk }) :
    wpAny (model prog w) A (call (.type "set") [.ref l]) Q E s := by
  obtain ⟨c, tl, hmro⟩ := PySem.F.called_set.mro
  have hmade := PySem.F.called_set.made
  have hsub := PySem.F.called_set.sub
  refine wpAny_call (codeAny_of_tree ?_)
  show wpAny _ _ (callAny (.type "set") _) _ _ _
  refine wpAny_pure ⟨Code.quiet_builtin _ (by decide +kernel), codeAny_builtin PySem.F.entry_type_call ?_⟩
  rw [Around.under_plain (weight_type_call_type "set" [.ref l] []) rfl]
  have h1 := PySem.F.called_set.notType
  have h2 := PySem.F.called_set.canCreate
  have hct := PySem.F.typeCall_set_1 (.ref l)
  repeat (any_goals (first | assumption | wp_step))

  refine codeAny_mono (code_set_new_1 (.ref l) (E := E) (Q₁ := fun obj s₁ => ∃ led : Bool, obj = .ref s.heap.objs.size ∧ s₁ = { s with heap := s.heap.push (setO led) }) fun led => ⟨led, rfl, rfl⟩) fun r s₁ hr => ?_
  cases r with
  | error e => exact hr
  | ok fl =>
    cases fl with
    | ret obj =>
      obtain ⟨led, rfl, rfl⟩ := hr
      have hS : (s.heap.push (setO led)).get? s.heap.objs.size = some (setO led) := Heap.get?_push_size _ rfl
      have hT : Shared.TypeIs { s with heap := s.heap.push (setO led) } (.ref s.heap.objs.size) "set" := ⟨_, hS, rfl⟩
      have hli := PySem.F.called_set.init.lookup
      have hbi := PySem.F.called_set.init.bind (.ref s.heap.objs.size)
      repeat (any_goals (first | assumption | wp_step))

      refine codeAny_mono (codeAny_call_builtin (R := wants (fun r s₂ => r = .none ∧ ∃ h' tk c, s₂ = { s with heap := h', toks := tk } ∧ DCnt xs c ∧
          h'.SetOf (PySem.strKind prog w) s.heap.objs.size (fun k' => xs.any (· == k')) c ∧
          (∀ b o, b < s.heap.objs.size → s.heap.get? b = some o → h'.get? b = some o)) E) PySem.F.called_set.init.plain PySem.F.entry_set_init (check_set_init_1 hT ?_)) fun r₂ s₂ hr₂ => ?_
      · obtain ⟨ol, hol, hcl, nl, hdl⟩ := hl
        obtain ⟨ocls, odict, odata, oslots⟩ := ol
        simp only at hcl hdl
        subst hcl; subst hdl
        have hol' : (s.heap.push (setO led)).get? l = some { cls := .type "list", dict := odict, data := .seq items nl, slots := oslots } := Heap.get?_push_of_some _ hol
        have hsls := PySem.F.sub_list_set
        have hslf := PySem.F.sub_list_frozenset
        have hne : (Value.type "list" == Value.type "dict") = false := by decide
        have hl1 : (s.heap.push (setO led)).IsList l items := ⟨_, hol', rfl, nl, rfl⟩
        unfold Builtin.«set.__init__» noKeywords Builtin.Frozenset.updateFrom
        generalize hPI : pyIter = PI
        with_reducible refine wpAny_bind ?_
        ((with_reducible apply wpAny_ite_true); focus (rfl))
        with_reducible refine wpAny_pure ?_
        wp_delta
        with_reducible refine wpAny_bind ?_
        wp_delta
        with_reducible refine wpAny_bind ?_
        wp_delta
        with_reducible refine wpAny_bind ?_
        with_reducible refine wpAny_typeOf (by assumption) ?_
        ((with_reducible apply wpAny_ite_false); focus (rfl))
        with_reducible refine wpAny_pure ?_
        wp_delta
        wp_delta
        with_reducible refine wpAny_pure ?_
        with_reducible refine wpAny_bind ?_
        wp_delta
        ((with_reducible apply wpAny_ite_false); focus (rfl))
        ((with_reducible apply wpAny_ite_false); focus (rfl))
        ((with_reducible apply wpAny_ite_false); focus (rfl))
        with_reducible refine wpAny_pure ?_
        with_reducible refine wpAny_bind ?_
        wp_delta
        with_reducible refine wpAny_pure ?_
        with_reducible refine wpAny_bind ?_
        wp_delta
        with_reducible refine wpAny_bind ?_
        wp_delta
        with_reducible refine wpAny_bind ?_
        ((with_reducible apply wpAny_load'); focus (heap_get))
        ((with_reducible apply wpAny_ite_false); focus (rfl))
        with_reducible refine wpAny_pure ?_
        with_reducible refine wpAny_pure ?_
        ((with_reducible apply wpAny_ite_false); focus (rfl))
        wp_delta
        with_reducible refine wpAny_bind ?_
        with_reducible refine wpAny_bind ?_
        wp_delta
        wp_delta
        with_reducible refine wpAny_bind ?_
        wp_delta
        with_reducible refine wpAny_bind ?_
        wp_delta
        with_reducible refine wpAny_bind ?_
        ((with_reducible apply wpAny_loadPart'); focus (heap_get))
        with_reducible refine wpAny_pure ?_
        with_reducible refine wpAny_of_eq (by assumption) ?_
        wp_delta
        wp_delta
        with_reducible refine wpAny_bind ?_
        wp_delta
        with_reducible refine wpAny_bind ?_
        ((with_reducible apply wpAny_loadPart'); focus (heap_get))
        with_reducible refine wpAny_pure ?_
        with_reducible refine wpAny_of_eq (by assumption) ?_
        ((with_reducible apply wpAny_ite_false); focus (rfl))
        with_reducible refine wpAny_bind ?_
        wp_delta
        with_reducible refine wpAny_bind ?_
        ((with_reducible apply wpAny_loadPart'); focus (heap_get))
        with_reducible refine wpAny_pure ?_
        ((with_reducible apply wpAny_ite_false); focus (rfl))
        with_reducible refine wpAny_bind ?_
        subst hPI

        refine wpAny_pyIter_list hl1 ?_
        refine wpAny_bind (wpAny_runValue ?_)
        have hlS : l < s.heap.objs.size := Heap.lt_size hol
        have hh3 : A.in1.in1.in1.handled = none := by simp [hh]
        have hneI : l ≠ (s.heap.push (setO led)).objs.size := by
          rw [Heap.size_push]; exact Nat.ne_of_lt (Nat.lt_succ_of_lt hlS)
        have hSf : s.heap.objs.size ∉ [(s.heap.push (setO led)).objs.size, l] := by
          rw [Heap.size_push]; simp only [List.mem_cons, List.mem_singleton, List.not_mem_nil, or_false, not_or]
          exact ⟨Nat.ne_of_lt (Nat.lt_succ_self _), Nat.ne_of_gt hlS⟩
        have hsz : xs.length = items.size := by rw [← StrsAre.len_eq hi, Array.length_toList]
        have hval : ∀ (i : Nat) (v : Value), items[i]? = some v → ∃ t, v = .str (xs.getD i Str.empty) t := fun i v hv => strs_at hi i v (by rw [Array.getElem?_toList]; exact hv)
        refine loopS ((Walks.list hh3 _ l hneI items).toS) s.heap.objs.size
          hSf xs hsz (by rw [← hsz]; exact hb) hval (items.size - 0) 0 _ (by omega) (Nat.zero_le _)
          ⟨⟨_, Heap.get?_push_size _ rfl, rfl, rfl⟩, (hl1.push _)⟩ ?hS0 ?hR
        case hS0 =>
          have hget : ((s.heap.push (setO led)).push { cls := .type "list_iterator", data := .fields #[.ref l, .int 0 0] }).get? s.heap.objs.size
              = some (setO led) := Heap.get?_push_of_some _ hS
          exact ⟨0, .nil, PyProof.Rows.SetOf_congr ((PyProof.Rows.setObjOf_fresh (knd := PySem.strKind prog w) led).setOf hget (by unfold scanBound; omega)) (fun _ => rfl) rfl⟩
        case hR =>
          intro s' c' hm hc' hS'
          obtain ⟨h', g', d', tk', os'⟩ := s'
          have eg : g' = s.gens := hm.gens
          have ed : d' = s.drawn := hm.drawn
          have eo : os' = s.os := hm.os
          subst eg; subst ed; subst eo
          show wpAny _ _ _ _ _ _
          refine wpAny_pure ?_
          show wpAny _ _ (ret Value.none) _ _ _
          refine wpAny_pure ⟨rfl, h', tk', c', rfl, hc', hS', fun b o hb e => ?_⟩
          have hb1 : b ≠ s.heap.objs.size := Nat.ne_of_lt hb
          have hb2 : b ≠ (s.heap.push (setO led)).objs.size := by
            rw [Heap.size_push]; exact Nat.ne_of_lt (Nat.lt_succ_of_lt hb)
          exact hm.heap b o (by simp only [List.mem_cons, List.mem_singleton, List.not_mem_nil, or_false, not_or]; exact ⟨hb1, hb2⟩) (Heap.get?_push_of_some _ (Heap.get?_push_of_some _ e))

      · cases r₂ with
        | error e => exact hr₂
        | ok fl₂ =>
          cases fl₂ with
          | ret r =>
            obtain ⟨rfl, h', tk, c', rfl, hc', hS', hk'⟩ := hr₂
            repeat (any_goals (first | assumption | wp_step))
            exact h _ _ _ hc' hS' hk'
          | _ => exact hr₂.elim
    | _ => exact hr.elim
end
end SWS
namespace SW
open PySem PySem.Spec PyProof.Rows L2 SWS
end SW
namespace SW
open PySem PySem.Spec PyProof.Rows L2
variable [QN]
def errMro (C N : Addr) : List Value := [.ref C, .ref N, .type "ValueError", .type "Exception", .type "BaseException", .type "object"]
def errB (K : PySem.W.Frag) (C N : Addr) : Bool :=
  ((PySem.W.clsIn K C).any fun cd => cd.mro == errMro C N) && (PySem.W.typeIn K (.ref C) == some (.type "type")) && PySem.W.keepIn K (.ref C) && (PySem.W.findIn K (.ref C) "__getattribute__" == some (some (.builtin "BaseException.__getattribute__"))) &&
    (PySem.W.findIn K (.ref C) "__getattr__" == some none) && (PySem.W.findIn K (.ref C) "__class__" == some (some (.builtin "object.__class__"))) && PySem.W.hasDictIn K C
structure ErrC (K : PySem.W.Frag) (C N : Addr) : Prop where
  mro : ∃ cd, PySem.W.clsIn K C = some cd ∧ cd.mro = errMro C N
  ty : PySem.W.typeIn K (.ref C) = some (.type "type")
  kp : PySem.W.keepIn K (.ref C) = true
  ga : PySem.W.findIn K (.ref C) "__getattribute__" = some (some (.builtin "BaseException.__getattribute__"))
  gt : PySem.W.findIn K (.ref C) "__getattr__" = some none
  cl : PySem.W.findIn K (.ref C) "__class__" = some (some (.builtin "object.__class__"))
  hd : PySem.W.hasDictIn K C = true
theorem errC_of {K : PySem.W.Frag} {C N : Addr} (h : errB K C N = true) : ErrC K C N := by
  unfold errB at h
  simp only [Bool.and_eq_true, beq_iff_eq] at h
  obtain ⟨⟨⟨⟨⟨⟨h1, h2⟩, h3⟩, h4⟩, h5⟩, h6⟩, h7⟩ := h
  refine ⟨?_, h2, h3, h4, h5, h6, h7⟩
  cases e : PySem.W.clsIn K C with
  | none =>
    rw [e] at h1
    cases h1
  | some cd =>
    rw [e] at h1
    exact ⟨cd, rfl, beq_iff_eq.mp h1⟩
theorem ErrC.sub {K : PySem.W.Frag} {C N : Addr} (h : ErrC K C N) (b : Value) : PySem.W.subIn K (.ref C) b = some ((errMro C N).contains b) := by
  obtain ⟨cd, e, m⟩ := h.mro
  show PySem.W.mroIn K C b = _
  unfold PySem.W.mroIn
  rw [e, Option.bind_some, m]
  rfl
theorem ErrC.base {K : PySem.W.Frag} {C N : Addr} (h : ErrC K C N) : PySem.W.subIn K (.ref C) (.type "BaseException") = some true := by
  rw [h.sub]
  rfl
theorem mem_mro {C N D : Addr} : (errMro C N).contains (.ref D) = decide (D = C ∨ D = N) := by
  unfold errMro
  by_cases h1 : D = C
  · subst h1
    simp
  · by_cases h2 : D = N
    · subst h2
      simp
    · simp [h1, h2]
abbrev SpW := Addr → Value → Option Addr → Sp
def tCallW (sp : SpW) (a : Addr) (cls : Value) (d : Option Addr) (t : TA) : TE := fun σ H Q => t σ H fun vs H1 => sp a cls d vs H1 Q E0
theorem i_callW {σ : L2.St} {H : Hp} {Q : VK} {sp : SpW} {a : Addr} {cls : Value} {d : Option Addr} {t : TA} (q : t σ H fun vs H1 => sp a cls d vs H1 Q E0) : tCallW sp a cls d t σ H Q := q
theorem i_callS {σ : L2.St} {H : Hp} {Q : VK} {sp : Sp} {E : L2.St → XK} {t : TA} (q : t σ H fun vs H1 => sp vs H1 Q (E σ)) : tCallS sp E t σ H Q := q
end SW
namespace SW
open PySem PySem.Spec PyProof.Rows L2
variable [QN]
theorem coldAt {X : Cx} (σ : L2.St) : PassesAt (L2.CX X.prog X.w) X σ ((fun _ => E0 : L2.St → XK) σ) := fun pins H s e s' I c => passL pins σ H s e s' I c
section
variable {X : Cx} {CX : CXT} {k n : Nat} {f C : Addr} {fd : FuncData} {ps ks : List Str} {sp : Sp} {dvs : List V} {ds : List Value} {E : L2.St → XK} {x m : Str} {p pos apos : Pos} {e o : Expr} {es : List Expr} {kws : List Keyword} {ta : TE} {t tk : TA} {g : List Value → List Value → List Value} {gV : List V → List V → List V}
def tMeS (C : Addr) (m : Str) (sp : Sp) (dvs : List V) (E : L2.St → XK) (ta : TE) (t : TA) : TE := fun σ H Q => ta σ H fun x H1 => ∃ a dx fs, x = .ref a ∧ H1 a = some (.ins C dx fs) ∧ fs.lookup m = none ∧
  t σ H1 fun vs H2 => sp (x :: (vs ++ dvs)) H2 Q (E σ)
theorem pe_meS {pl : Sem Bool} (he : PE X o ta) (c : Cls X.K C) (hm : Meth X.K C m f) (F : FnOk X.prog X.w X.K X.mg X.base CX k f fd ps sp) (hr : Room k X.A) (hb : Binds X.K fd ps ds) (hd : Vals dvs ds) (hx : ∀ σ, PassesAt CX X σ (E σ)) (ha : PA X (e :: es) t)
    (hst : starEach (e :: es) X.env = (false, eval e X.env) :: starEach es X.env := by rfl) (hpl : (backTo pos (starEach es X.env)).any (·.1) = false := by rfl)
    (ht : eval (.Call (.Attribute o m apos) (e :: es) [] pos) X.env = (do
      let ov ← eval o X.env
      standAt apos.atName
      let (f, first) ← holding [ov] (getMethod ov m pl)
      callWith pos f first (backTo pos (starEach (e :: es) X.env)) (backToKw pos (keywordEach [] X.env))) := by rfl) :
    PE X (.Call (.Attribute o m apos) (e :: es) [] pos) (tMeS C m sp dvs E ta t) := by
  refine ⟨fun pins s σ H Q I h => ?_⟩
  refine PySem.W.methodCall_KW (pl := pl) (thn (he.run pins s σ H _ I h) fun u s1 ⟨x, H1, I1, rx, a, dx, fs, ex, ea, l, q⟩ => ?_) ht
  subst ex
  obtain rfl : u = Value.ref a := rx
  refine getmeth_ok I1 ea c hm l ?_
  refine PySem.W.callWith_K (first := [.ref a]) (h₀ := X.base) I.ok.mod.kin hm.kp (thn (ha.run pos pins s1 σ H1 _ I1 q) fun us s2 ⟨vs, H2, I2, r, q2⟩ => ⟨I2.kIn, ?_⟩) hst hpl
  exact run_fnSD (us := .ref a :: us) (vs := .ref a :: vs) F hr hb hd (hx σ) I2 (.cons rfl r) q2
theorem run_mkS {pins : List (Addr × Obj)} {σ : L2.St} {H : Hp} {s : Shared} {Q : VK} {us : List Value} {vs : List V} (M : Mk X.K C f) (F : FnOk X.prog X.w X.K X.mg X.base CX k f fd ps sp) (hr : Room (k + 1) X.A) (hb : Binds X.K fd ps ds) (hd : Vals dvs ds)
    (hx : PassesAt CX X σ (E σ)) (I : Inv X pins σ H s) (r : Vals vs us)
    (h : ∀ x dx, H x = none → H dx = none → dx ≠ x → sp (.ref x :: (vs ++ dvs)) (upd (upd H dx (.own x)) x (.ins C dx [])) (fun v H2 => v = .non ∧ Q (.ref x) H2) (E σ)) :
    wpAny (model X.prog X.w) X.A (call (.ref C) us) (EP X pins σ Q) X.xe s := by
  have hq := h (s.heap.objs.size + 1) s.heap.objs.size (I.hok.fresh (Nat.le_succ _)) (I.hok.fresh (Nat.le_refl _)) (Nat.ne_of_lt (Nat.lt_succ_self _))
  have I2 := Inv.made (C := C) I
  have r2 : Vals (V.ref (s.heap.objs.size + 1) :: (vs ++ dvs)) (Value.ref (s.heap.objs.size + 1) :: (us ++ ds)) := .cons rfl (r.append hd)
  have hl : (Value.ref (s.heap.objs.size + 1) :: us ++ ds).length = ps.length := by
    have e := r2.length
    rw [F.len _ _ _ _ hq] at e
    exact e.symm
  refine wpAny_call (make_map (f := f) I.kIn M.makes M.init (beq_iff_eq.mp M.fn) (codeAny_mono (F.run _ X.stack _ _ ⟨Value.ref (s.heap.objs.size + 1) :: us, []⟩ (Value.ref (s.heap.objs.size + 1) :: (us ++ ds)) _ _ (E σ) (hr.make C us [])
    (I2.env0.make C us []) (hb _ (Value.ref (s.heap.objs.size + 1) :: us) I2.kIn hl) r2 hq) fun r s' hq' => ?_))
  cases r with
  | error e => exact hx pins _ _ e s' I2 hq'
  | ok fl =>
    cases fl with
    | ret u =>
      obtain ⟨v, H', I3, rv, ev, q3⟩ := I2.after hq'
      subst ev
      exact ⟨rv, ⟨V.ref (s.heap.objs.size + 1), H', I3, rfl, q3⟩⟩
    | next => exact False.elim hq'
    | brk => exact False.elim hq'
    | cont => exact False.elim hq'
def tMkS (C : Addr) (sp : Sp) (dvs : List V) (E : L2.St → XK) (t : TA) : TE := fun σ H Q => t σ H fun vs H1 => ∀ x dx, H1 x = none → H1 dx = none → dx ≠ x →
  sp (.ref x :: (vs ++ dvs)) (upd (upd H1 dx (.own x)) x (.ins C dx [])) (fun v H2 => v = .non ∧ Q (.ref x) H2) (E σ)
theorem pe_mkS (M : Mk X.K C f) (F : FnOk X.prog X.w X.K X.mg X.base CX k f fd ps sp) (hr : Room (k + 1) X.A) (hg : Gl X x) (hm : X.mg x = some (.ref C)) (hb : Binds X.K fd ps ds) (hd : Vals dvs ds) (hx : ∀ σ, PassesAt CX X σ (E σ))
    (ha : PA X (e :: es) t) (hdb : (x == ("__debug__" : Str)) = false := by decide) (he : starEach (e :: es) X.env = (false, eval e X.env) :: starEach es X.env := by rfl) (hpl : (backTo pos (starEach es X.env)).any (·.1) = false := by rfl) :
    PE X (.Call (.Name x p) (e :: es) [] pos) (tMkS C sp dvs E t) := by
  refine ⟨fun pins s σ H Q I h => ?_⟩
  refine wpAny_Call_Name_kw (ld_glob I hg hm ?_ hdb)
  refine PySem.W.callWith_K (h₀ := X.base) I.ok.mod.kin M.kp (thn (ha.run pos pins s σ H _ I h) fun us s1 ⟨vs, H1, I1, r, q⟩ => ⟨I1.kIn, ?_⟩) he hpl
  exact run_mkS M F hr hb hd (hx σ) I1 r q
theorem pe_mkS0 (M : Mk X.K C f) (F : FnOk X.prog X.w X.K X.mg X.base CX k f fd ps sp) (hr : Room (k + 1) X.A) (hg : Gl X x) (hm : X.mg x = some (.ref C)) (hb : Binds X.K fd ps ds) (hd : Vals dvs ds) (hx : ∀ σ, PassesAt CX X σ (E σ))
    (hdb : (x == ("__debug__" : Str)) = false := by decide) : PE X (.Call (.Name x p) [] [] pos) (tMkS C sp dvs E tNil) := by
  refine ⟨fun pins s σ H Q I h => ?_⟩
  refine wpAny_Call_Name_kw (ld_glob I hg hm ?_ hdb)
  exact PySem.W.callWith_K0 I.kIn M.kp (run_mkS (us := []) M F hr hb hd (hx σ) I .nil h)
def tMkNS (C : Addr) (n m : Nat) (sp : Sp) (gV : List V → List V → List V) (E : L2.St → XK) (t tk : TA) : TE := fun σ H Q => t σ H fun vs H1 => tk σ H1 fun zs H2 => vs.length = n ∧ zs.length = m ∧
  ∀ x dx, H2 x = none → H2 dx = none → dx ≠ x → sp (gV (.ref x :: vs) zs) (upd (upd H2 dx (.own x)) x (.ins C dx [])) (fun v H3 => v = .non ∧ Q (.ref x) H3) (E σ)
def tCallNS (n m : Nat) (sp : Sp) (gV : List V → List V → List V) (E : L2.St → XK) (t tk : TA) : TE := fun σ H Q => t σ H fun vs H1 => tk σ H1 fun zs H2 => vs.length = n ∧ zs.length = m ∧ sp (gV vs zs) H2 Q (E σ)
end
section
variable {K : PySem.W.Frag} {σ : L2.St} {H : Hp} {Q : VK} {n bk ct : L2.St → Hp → Prop} {rt : VK} {C a dx : Addr} {fs : List (Str × V)} {f m : Str} {v x y : V} {ta tv : TE} {t tk : TA} {sp : Sp} {E : L2.St → XK} {dvs : List V}
theorem ps_fldK {X : Cx} {o value : Expr} {pos pos' : Pos} (hK : X.K = K) (ha : PE X o ta) (hv : PE X value tv) (hs : swapsWith value (some (.Attribute o f pos')) pos.line X.env = pure false) : PS X (.Assign [.Attribute o f pos'] value pos) (sFld K ta tv f) := by
  subst hK
  exact ps_fld ha hv hs
def rFld (K : PySem.W.Frag) (f : Str) : V → Hp → VK → Prop := fun x H Q => ∃ a C dx fs v, x = .ref a ∧ H a = some (.ins C dx fs) ∧ Cls K C ∧ NoAttr K C f ∧ fs.lookup f = some v ∧ Q v H
theorem i_fld (q : ta σ H fun x H1 => rFld K f x H1 Q) : tFld K ta f σ H Q := q
theorem i_fldI (h : H a = some (.ins C dx fs)) (c : Cls K C) (n : NoAttr K C f) (l : fs.lookup f = some v) (q : Q v H) : rFld K f (.ref a) H Q := ⟨a, C, dx, fs, v, rfl, h, c, n, l, q⟩
theorem i_sfld (q : tv σ H fun y H1 => ta σ H1 fun x H2 => ∃ a C dx fs, x = .ref a ∧ H2 a = some (.ins C dx fs) ∧ Cls K C ∧ NoAttr K C f ∧ fs.length < 1000 ∧ n σ (upd H2 a (.ins C dx (putF f y fs)))) : sFld K ta tv f ⟨n, rt, bk, ct⟩ σ H := q
theorem i_sfldI {fs' : List (Str × V)} {R : Hp → Prop} (h : H a = some (.ins C dx fs)) (c : Cls K C) (n : NoAttr K C f) (e : putF f y fs = fs') (l : fs.length < 1000) (q : R (upd H a (.ins C dx fs'))) :
    ∃ a' C dx fs, V.ref a = .ref a' ∧ H a' = some (.ins C dx fs) ∧ Cls K C ∧ NoAttr K C f ∧ fs.length < 1000 ∧ R (upd H a' (.ins C dx (putF f y fs))) := ⟨a, C, dx, fs, rfl, h, c, n, l, by rw [e]; exact q⟩
theorem i_meS (q : ta σ H fun x H1 => ∃ a dx fs, x = .ref a ∧ H1 a = some (.ins C dx fs) ∧ fs.lookup m = none ∧ t σ H1 fun vs H2 => sp (x :: (vs ++ dvs)) H2 Q (E σ)) : tMeS C m sp dvs E ta t σ H Q := q
theorem i_recv {R : Prop} (h : H a = some (.ins C dx fs)) (l : fs.lookup m = none) (q : R) : ∃ a' dx fs, V.ref a = .ref a' ∧ H a' = some (.ins C dx fs) ∧ fs.lookup m = none ∧ R := ⟨a, dx, fs, rfl, h, l, q⟩
theorem i_mkS (q : t σ H fun vs H1 => ∀ x dx, H1 x = none → H1 dx = none → dx ≠ x → sp (.ref x :: (vs ++ dvs)) (upd (upd H1 dx (.own x)) x (.ins C dx [])) (fun v H2 => v = .non ∧ Q (.ref x) H2) (E σ)) : tMkS C sp dvs E t σ H Q := q
theorem i_mkNS {k m : Nat} {gV : List V → List V → List V} (q : t σ H fun vs H1 => tk σ H1 fun zs H2 => vs.length = k ∧ zs.length = m ∧ ∀ x dx, H2 x = none → H2 dx = none → dx ≠ x → sp (gV (.ref x :: vs) zs) (upd (upd H2 dx (.own x)) x (.ins C dx [])) (fun v H3 => v = .non ∧ Q (.ref x) H3) (E σ)) :
    tMkNS C k m sp gV E t tk σ H Q := q
theorem i_callNS {k m : Nat} {gV : List V → List V → List V} (q : t σ H fun vs H1 => tk σ H1 fun zs H2 => vs.length = k ∧ zs.length = m ∧ sp (gV vs zs) H2 Q (E σ)) : tCallNS k m sp gV E t tk σ H Q := q
theorem i_callSD (q : t σ H fun vs H1 => sp (vs ++ dvs) H1 Q (E σ)) : tCallSD sp dvs E t σ H Q := q
theorem i_meth {E' : XK} (q : ta σ H fun x H1 => ∃ a dx fs, x = .ref a ∧ H1 a = some (.ins C dx fs) ∧ fs.lookup m = none ∧ t σ H1 fun vs H2 => sp (x :: (vs ++ dvs)) H2 Q E') : tMeth C m sp dvs E' ta t σ H Q := q
end
section
variable {σ : L2.St} {H : Hp} {K : PySem.W.Frag} {Q : VK} {n bk ct : L2.St → Hp → Prop} {rt : VK} {tb : TS} {g : TG} {tt : TT} {te : TE} {ta : TA} {vs : List Nat} {a b D : Addr}
theorem i_forE (q : ta σ H fun vs H1 => ∃ a xs, vs = [.ref a] ∧ SqL K H1 a xs ∧ LOOP (Ite K a) g tb ⟨n, rt, bk, ct⟩ σ H1) : tFor (iEnum K ta) g tb ⟨n, rt, bk, ct⟩ σ H := q
theorem i_forZ (q : ta σ H fun vs H1 => ∃ a b xs ys, vs = [.ref a, .ref b] ∧ SqL K H1 a xs ∧ SqL K H1 b ys ∧ LOOP (Itz K a b) g tb ⟨n, rt, bk, ct⟩ σ H1) : tFor (iZip K ta) g tb ⟨n, rt, bk, ct⟩ σ H := q
theorem i_lcE (q : ta σ H fun us H1 => ∃ a xs, us = [.ref a] ∧ SqL K H1 a xs ∧ ∀ D, H1 D = none → COMP (Ite K a) g tt te vs σ H1 D Q) : tLc (iEnum K ta) g tt te vs σ H Q := q
theorem i_lcZ (q : ta σ H fun us H1 => ∃ a b xs ys, us = [.ref a, .ref b] ∧ SqL K H1 a xs ∧ SqL K H1 b ys ∧ ∀ D, H1 D = none → COMP (Itz K a b) g tt te vs σ H1 D Q) : tLc (iZip K ta) g tt te vs σ H Q := q
end
end SW
namespace SW
open PySem PySem.Spec PyProof.Rows L2
variable [QN]
inductive D where
  | int (i : Int) | bl (b : Bool) | str (x : Str) | non | ty (n : String) | adr (a : Addr)
  | tup (ds : List D) | lst (ds : List D)
  | dK (ks : List Key) (ds : List D) | dT (ks : List (List Key)) (ds : List D)
  | obj (C : Addr) (ns : List Str) (ds : List D)
  /-- an exception that was caught: where it stands, its class, its dict, its fields -/
  | exn (a C : Addr) (o : Option Addr) (ns : List Str) (ds : List D)
mutual
def R (K : PySem.W.Frag) (U : Hp) : D → V → Prop
  | .int i, v => v = .int i
  | .bl b, v => v = .bl b
  | .str x, v => v = .str x
  | .non, v => v = .non
  | .ty n, v => v = .ty n
  | .adr a, v => v = .ref a
  | .tup ds, v => ∃ a xs, v = .ref a ∧ SqT K U a xs ∧ Rs K U ds xs
  | .lst ds, v => ∃ a xs, v = .ref a ∧ U a = some (.lst xs) ∧ Rs K U ds xs
  | .dK ks ds, v => ∃ a xs, v = .ref a ∧ U a = some (.dK (ks.zip xs)) ∧ ks.length = xs.length ∧ Rs K U ds xs
  | .dT ks ds, v => ∃ a xs, v = .ref a ∧ U a = some (.dT (ks.zip xs)) ∧ ks.length = xs.length ∧ Rs K U ds xs
  | .obj C ns ds, v => ∃ a dx xs, v = .ref a ∧ U a = some (.ins C dx (ns.zip xs)) ∧ ns.length = xs.length ∧ Rs K U ds xs
  | .exn a _ o ns ds, v => v = .ref a ∧ ((ns = [] ∧ o = none) ∨ ∃ d xs, o = some d ∧ U d = some (.xd (ns.zip xs)) ∧ ns.length = xs.length ∧ Rs K U ds xs)
def Rs (K : PySem.W.Frag) (U : Hp) : List D → List V → Prop
  | [], vs => vs = []
  | d :: ds, vs => ∃ v r, vs = v :: r ∧ R K U d v ∧ Rs K U ds r
end
section
variable {K : PySem.W.Frag} {U U' H H' : Hp}
theorem Same.tup {a : Addr} {xs : List V} (e : Same U U') (h : SqT K U a xs) : SqT K U' a xs := by
  rcases h with (h | ⟨o, h⟩) | h
  · exact .inl (.inl (e _ _ h))
  · exact .inl (.inr ⟨o, e _ _ h⟩)
  · exact .inr h
mutual
theorem R.mono (e : Same U U') : ∀ (d : D) (v : V), R K U d v → R K U' d v
  | .int _, _, h => h
  | .bl _, _, h => h
  | .str _, _, h => h
  | .non, _, h => h
  | .ty _, _, h => h
  | .adr _, _, h => h
  | .tup ds, _, ⟨a, xs, h1, h2, h3⟩ => ⟨a, xs, h1, Same.tup e h2, Rs.mono e ds xs h3⟩
  | .lst ds, _, ⟨a, xs, h1, h2, h3⟩ => ⟨a, xs, h1, e _ _ h2, Rs.mono e ds xs h3⟩
  | .dK _ ds, _, ⟨a, xs, h1, h2, h3, h4⟩ => ⟨a, xs, h1, e _ _ h2, h3, Rs.mono e ds xs h4⟩
  | .dT _ ds, _, ⟨a, xs, h1, h2, h3, h4⟩ => ⟨a, xs, h1, e _ _ h2, h3, Rs.mono e ds xs h4⟩
  | .obj _ _ ds, _, ⟨a, dx, xs, h1, h2, h3, h4⟩ => ⟨a, dx, xs, h1, e _ _ h2, h3, Rs.mono e ds xs h4⟩
  | .exn _ _ _ _ ds, _, ⟨h1, h2⟩ => ⟨h1, h2.imp id fun ⟨d, xs, k1, k2, k3, k4⟩ => ⟨d, xs, k1, e _ _ k2, k3, Rs.mono e ds xs k4⟩⟩
theorem Rs.mono (e : Same U U') : ∀ (ds : List D) (vs : List V), Rs K U ds vs → Rs K U' ds vs
  | [], _, h => h
  | d :: ds, _, ⟨v, r, h1, h2, h3⟩ => ⟨v, r, h1, R.mono e d v h2, Rs.mono e ds r h3⟩
end
theorem Rs.len : ∀ {ds : List D} {vs : List V}, Rs K U ds vs → ds.length = vs.length
  | [], _, h => by rw [show _ = [] from h]; rfl
  | d :: ds, _, ⟨v, r, h1, h2, h3⟩ => by rw [h1, List.length_cons, List.length_cons, Rs.len h3]
theorem Rs.snoc : ∀ {ds : List D} {vs : List V} {d : D} {v : V}, Rs K U ds vs → R K U d v → Rs K U (ds ++ [d]) (vs ++ [v])
  | [], _, d, v, h, k => by
    rw [show _ = [] from h]
    exact ⟨v, [], rfl, k, rfl⟩
  | e :: ds, _, d, v, ⟨w, r, h1, h2, h3⟩, k => by
    subst h1
    exact ⟨w, r ++ [v], rfl, h2, Rs.snoc h3 k⟩
theorem Rs.app : ∀ {ds es : List D} {vs ws : List V}, Rs K U ds vs → Rs K U es ws → Rs K U (ds ++ es) (vs ++ ws)
  | [], es, _, ws, h, k => by
    rw [show _ = [] from h]
    exact k
  | d :: ds, es, _, ws, ⟨v, r, h1, h2, h3⟩, k => by
    subst h1
    exact ⟨v, r ++ ws, rfl, h2, Rs.app h3 k⟩
theorem Rs.at : ∀ {ds : List D} {vs : List V}, Rs K U ds vs → ∀ (i : Nat) (d : D), ds[i]? = some d → ∃ v, vs[i]? = some v ∧ R K U d v
  | [], _, h, i, d, e => by simp at e
  | c :: ds, _, ⟨v, r, h1, h2, h3⟩, 0, d, e => by
    subst h1
    have e' := Option.some.inj e
    subst e'
    exact ⟨v, rfl, h2⟩
  | c :: ds, _, ⟨v, r, h1, h2, h3⟩, i + 1, d, e => by
    subst h1
    exact Rs.at h3 i d e
theorem Rs.at' : ∀ {ds : List D} {vs : List V}, Rs K U ds vs → ∀ (i : Nat) (v : V), vs[i]? = some v → ∃ d, ds[i]? = some d ∧ R K U d v
  | [], _, h, i, d, e => by rw [show _ = [] from h] at e; simp at e
  | c :: ds, _, ⟨v, r, h1, h2, h3⟩, 0, d, e => by
    subst h1
    have e' := Option.some.inj e
    subst e'
    exact ⟨c, rfl, h2⟩
  | c :: ds, _, ⟨v, r, h1, h2, h3⟩, i + 1, d, e => by
    subst h1
    exact Rs.at' h3 i d e
theorem Rs.take : ∀ {ds : List D} {vs : List V} (n : Nat), Rs K U ds vs → Rs K U (ds.take n) (vs.take n)
  | _, _, 0, _ => rfl
  | [], _, n + 1, h => by rw [show _ = [] from h]; rfl
  | c :: ds, _, n + 1, ⟨v, r, h1, h2, h3⟩ => by
    subst h1
    exact ⟨v, r.take n, rfl, h2, Rs.take n h3⟩
theorem Rs.drop : ∀ {ds : List D} {vs : List V} (n : Nat), Rs K U ds vs → Rs K U (ds.drop n) (vs.drop n)
  | _, _, 0, h => h
  | [], _, n + 1, h => by rw [show _ = [] from h]; rfl
  | c :: ds, _, n + 1, ⟨v, r, h1, h2, h3⟩ => by
    subst h1
    exact Rs.drop n h3
theorem Rs.set : ∀ {ds : List D} {vs : List V} {d : D} {v : V} (n : Nat), Rs K U ds vs → R K U d v → Rs K U (ds.set n d) (vs.set n v)
  | [], _, d, v, n, h, k => by rw [show _ = [] from h]; rfl
  | c :: ds, _, d, v, 0, ⟨w, r, h1, h2, h3⟩, k => by
    subst h1
    exact ⟨v, r, rfl, k, h3⟩
  | c :: ds, _, d, v, n + 1, ⟨w, r, h1, h2, h3⟩, k => by
    subst h1
    exact ⟨w, r.set n v, rfl, h2, Rs.set n h3 k⟩
theorem Rs.strs : ∀ {ns : List Str} {vs : List V}, Rs K U (ns.map D.str) vs → vs = ns.map V.str
  | [], _, h => h
  | n :: ns, _, ⟨v, r, h1, h2, h3⟩ => by
    rw [h1, Rs.strs h3, show v = V.str n from h2]
    rfl
end
inductive AV where
  | fz (d : D) | ol (ds : List D) | ok (ks : List Key) (ds : List D) | ot (ks : List (List Key)) (ds : List D) | dr
  /-- a list of things of one's own; an instance with such fields -/
  | on (ws : List V) (as : List AV) | ob (C dx : Addr) (ns : List Str) (ws : List V) (as : List AV)
  /-- a tuple of such things; what is not told -/
  | ut (ws : List V) (as : List AV) | un
abbrev Env := List (Option AV)
def AV.kind : AV → Nat
  | .fz _ => 0
  | .ol _ => 1
  | .ok _ _ => 2
  | .ot _ _ => 3
  | .dr => 4
  | .on _ _ => 5
  | .ob _ _ _ _ _ => 6
  | .ut _ _ => 7
  | .un => 8
def AV.isOwn : AV → Bool
  | .fz _ => false
  | _ => true
/-- what is seen of a thing within another -/
def seen : AV → V → D
  | .fz d, _ => d
  | _, .ref p => .adr p
  | _, _ => .non
def seens : List AV → List V → List D
  | a :: as, v :: vs => seen a v :: seens as vs
  | _, _ => []
/-- what is read of it, its items never changing -/
def AV.sh : AV → Option D
  | .fz d => some d
  | .ol ds => some (.lst ds)
  | .ok ks ds => some (.dK ks ds)
  | .ot ks ds => some (.dT ks ds)
  | .on ws as => some (.lst (seens as ws))
  | .ut ws as => some (.tup (seens as ws))
  | .ob C _ ns ws as => some (.obj C ns (seens as ws))
  | _ => none
mutual
def AV.frz : AV → Option D
  | .fz d => some d
  | .ol ds => some (.lst ds)
  | .ok ks ds => some (.dK ks ds)
  | .ot ks ds => some (.dT ks ds)
  | .dr => none
  | .on _ as => (frzs as).map .lst
  | .ob C _ ns _ as => (frzs as).map (.obj C ns)
  | .ut _ as => (frzs as).map .tup
  | .un => none
def frzs : List AV → Option (List D)
  | [] => some []
  | a :: as => match a.frz, frzs as with
    | some d, some ds => some (d :: ds)
    | _, _ => none
end
mutual
def RepA (K : PySem.W.Frag) (U H : Hp) : AV → V → Prop
  | .fz d, v => R K U d v
  | .ol ds, v => ∃ p xs, v = .ref p ∧ H p = some (.lst xs) ∧ Rs K U ds xs
  | .ok ks ds, v => ∃ p xs, v = .ref p ∧ H p = some (.dK (ks.zip xs)) ∧ ks.length = xs.length ∧ Rs K U ds xs
  | .ot ks ds, v => ∃ p xs, v = .ref p ∧ H p = some (.dT (ks.zip xs)) ∧ ks.length = xs.length ∧ Rs K U ds xs
  | .dr, v => ∃ s, v = .ref s ∧ Dr U H s
  | .on ws as, v => ∃ p, v = .ref p ∧ H p = some (.lst ws) ∧ RepAs K U H as ws
  | .ob C dx ns ws as, v => ∃ p, v = .ref p ∧ H p = some (.ins C dx (ns.zip ws)) ∧ ns.length = ws.length ∧ RepAs K U H as ws
  | .ut ws as, v => ∃ p, v = .ref p ∧ SqT K U p ws ∧ RepAs K U H as ws
  | .un, v => ∃ p, v = .ref p
def RepAs (K : PySem.W.Frag) (U H : Hp) : List AV → List V → Prop
  | [], vs => vs = []
  | a :: as, vs => ∃ v r, vs = v :: r ∧ RepA K U H a v ∧ RepAs K U H as r
end
mutual
def own : AV → V → List Addr
  | .ol _, .ref p => [p]
  | .ok _ _, .ref p => [p]
  | .ot _ _, .ref p => [p]
  | .dr, .ref p => [p]
  | .on ws as, .ref p => p :: ownAs as ws
  | .ob _ _ _ ws as, .ref p => p :: ownAs as ws
  | .ut ws as, .ref p => ownAs as ws
  | _, _ => []
def ownAs : List AV → List V → List Addr
  | a :: as, v :: vs => own a v ++ ownAs as vs
  | _, _ => []
end
theorem seen_r {K : PySem.W.Frag} {U H : Hp} {a : AV} {v : V} (h : RepA K U H a v) : R K U (seen a v) v := by
  cases a with
  | fz d => exact h
  | ol ds => obtain ⟨p, xs, rfl, _⟩ := h; exact rfl
  | ok ks ds => obtain ⟨p, xs, rfl, _⟩ := h; exact rfl
  | ot ks ds => obtain ⟨p, xs, rfl, _⟩ := h; exact rfl
  | dr => obtain ⟨p, rfl, _⟩ := h; exact rfl
  | on ws as => obtain ⟨p, rfl, _⟩ := h; exact rfl
  | ob C dx ns ws as => obtain ⟨p, rfl, _⟩ := h; exact rfl
  | ut ws as => obtain ⟨p, rfl, _⟩ := h; exact rfl
  | un => obtain ⟨p, rfl⟩ := h; exact rfl
theorem seens_r {K : PySem.W.Frag} {U H : Hp} : ∀ {as : List AV} {vs : List V}, RepAs K U H as vs → Rs K U (seens as vs) vs
  | [], _, h => by
    rw [show _ = [] from h]
    exact rfl
  | a :: as, _, ⟨v, r, e, h1, h2⟩ => by
    subst e
    exact ⟨v, r, rfl, seen_r h1, seens_r h2⟩
def RepS (K : PySem.W.Frag) (U H : Hp) : Option AV → Option V → Prop
  | none, _ => True
  | some av, some v => RepA K U H av v
  | some _, none => False
def ownS : Option AV → Option V → List Addr
  | some av, some v => own av v
  | _, _ => []
def owns : Env → L2.St → List Addr
  | a :: ρ, v :: σ => ownS a v ++ owns ρ σ
  | _, _ => []
section
variable {K : PySem.W.Frag} {U H U' H' : Hp}
mutual
theorem own_pl : ∀ (av : AV) (v : V), RepA K U H av v → ∀ p ∈ own av v, Pl H p
  | .fz _, v, _, p, hp => by cases hp
  | .ol _, _, ⟨q, xs, e, h, _⟩, p, hp => by
    subst e
    rw [List.mem_singleton.mp hp]
    exact .of h rfl
  | .ok _ _, _, ⟨q, xs, e, h, _⟩, p, hp => by
    subst e
    rw [List.mem_singleton.mp hp]
    exact .of h rfl
  | .ot _ _, _, ⟨q, xs, e, h, _⟩, p, hp => by
    subst e
    rw [List.mem_singleton.mp hp]
    exact .of h rfl
  | .dr, _, ⟨q, e, h⟩, p, hp => by
    subst e
    rw [List.mem_singleton.mp hp]
    exact h.pl
  | .on ws as, _, ⟨q, e, h, k⟩, p, hp => by
    subst e
    rcases List.mem_cons.mp hp with z | z
    · rw [z]
      exact .of h rfl
    · exact ownAs_pl as ws k p z
  | .ob _ _ _ ws as, _, ⟨q, e, h, _, k⟩, p, hp => by
    subst e
    rcases List.mem_cons.mp hp with z | z
    · rw [z]
      exact .of h rfl
    · exact ownAs_pl as ws k p z
  | .ut ws as, _, ⟨q, e, h, k⟩, p, hp => by
    subst e
    exact ownAs_pl as ws k p hp
  | .un, v, _, p, hp => by cases hp
theorem ownAs_pl : ∀ (as : List AV) (vs : List V), RepAs K U H as vs → ∀ p ∈ ownAs as vs, Pl H p
  | [], vs, _, p, hp => by cases vs <;> cases hp
  | a :: as, _, ⟨v, r, e, h1, h2⟩, p, hp => by
    subst e
    rcases List.mem_append.mp hp with z | z
    · exact own_pl a v h1 p z
    · exact ownAs_pl as r h2 p z
end
theorem own_some (av : AV) (v : V) (h : RepA K U H av v) (p : Addr) (hp : p ∈ own av v) : H p ≠ none := (own_pl av v h p hp).ne
mutual
/-- what is one's own stands on where its own places stand as they did -/
theorem RepA.keep (s : Same U U') : ∀ (av : AV) (v : V), (∀ p ∈ own av v, H' p = H p ∧ U' p = none) → RepA K U H av v → RepA K U' H' av v
  | .fz d, v, _, h => R.mono s d v h
  | .ol ds, _, n, ⟨q, xs, e, h, r⟩ => by
    subst e
    exact ⟨q, xs, rfl, (n q (List.mem_singleton.mpr rfl)).1.trans h, Rs.mono s _ _ r⟩
  | .ok ks ds, _, n, ⟨q, xs, e, h, l, r⟩ => by
    subst e
    exact ⟨q, xs, rfl, (n q (List.mem_singleton.mpr rfl)).1.trans h, l, Rs.mono s _ _ r⟩
  | .ot ks ds, _, n, ⟨q, xs, e, h, l, r⟩ => by
    subst e
    exact ⟨q, xs, rfl, (n q (List.mem_singleton.mpr rfl)).1.trans h, l, Rs.mono s _ _ r⟩
  | .dr, _, n, ⟨q, e, h⟩ => by
    subst e
    exact ⟨q, rfl, h.mono s (n q (List.mem_singleton.mpr rfl)).1 (n q (List.mem_singleton.mpr rfl)).2⟩
  | .on ws as, _, n, ⟨q, e, h, k⟩ => by
    subst e
    exact ⟨q, rfl, (n q List.mem_cons_self).1.trans h, RepAs.keep s as ws (fun p hp => n p (List.mem_cons_of_mem _ hp)) k⟩
  | .ob C dx ns ws as, _, n, ⟨q, e, h, l, k⟩ => by
    subst e
    exact ⟨q, rfl, (n q List.mem_cons_self).1.trans h, l, RepAs.keep s as ws (fun p hp => n p (List.mem_cons_of_mem _ hp)) k⟩
  | .ut ws as, _, n, ⟨q, e, h, k⟩ => by
    subst e
    exact ⟨q, rfl, Same.tup s h, RepAs.keep s as ws n k⟩
  | .un, _, _, h => h
theorem RepAs.keep (s : Same U U') : ∀ (as : List AV) (vs : List V), (∀ p ∈ ownAs as vs, H' p = H p ∧ U' p = none) → RepAs K U H as vs → RepAs K U' H' as vs
  | [], _, _, h => h
  | a :: as, _, n, ⟨v, r, e, h1, h2⟩ => by
    subst e
    exact ⟨v, r, rfl, RepA.keep s a v (fun p hp => n p (List.mem_append_left _ hp)) h1, RepAs.keep s as r (fun p hp => n p (List.mem_append_right _ hp)) h2⟩
end
theorem RepAs.len : ∀ {as : List AV} {vs : List V}, RepAs K U H as vs → as.length = vs.length
  | [], _, h => by rw [show _ = [] from h]; rfl
  | a :: as, _, ⟨v, r, e, _, h2⟩ => by rw [e, List.length_cons, List.length_cons, RepAs.len h2]
theorem RepAs.of : ∀ {as : List AV} {vs : List V}, Paired (RepA K U H) as vs → RepAs K U H as vs
  | _, _, .nil => rfl
  | _, _, .cons h t => ⟨_, _, rfl, h, RepAs.of t⟩
end
structure Exn where
  C : Addr
  ns : List Str
  ds : List D
def XRep (K : PySem.W.Frag) (U H : Hp) (x : Exn) (cls : Value) (o : Option Addr) : Prop :=
  cls = .ref x.C ∧ ((x.ns = [] ∧ o = none) ∨ ∃ d xs, o = some d ∧ U d = some (.xd (x.ns.zip xs)) ∧ x.ns.length = xs.length ∧ Rs K U x.ds xs)
/-- the marked ones of a row -/
def selM {α : Type} : List Bool → List α → List α
  | true :: ks, a :: r => a :: selM ks r
  | false :: ks, _ :: r => selM ks r
  | _, _ => []
/-- each one's places are those it had, or new -/
def PerO (H0 : Hp) : List AV → List V → List (List Addr) → Prop
  | a :: as, v :: vs, o :: os => (∀ p ∈ own a v, p ∈ o ∨ H0 p = none) ∧ PerO H0 as vs os
  | [], [], _ => True
  | _, _, _ => False
structure DC where
  K : PySem.W.Frag
  /-- which parameters are one's own (the law's draws among them), their kinds, their values -/
  ks : List Bool
  pk : List Nat
  pv : List V
  /-- the places that were each slot's own at the beginning -/
  O : List (List Addr)
  M : List Addr
  U0 : Hp
  H0 : Hp
  X : Exn → List (Option AV) → Prop
  /-- what is wished of an exception that leaves, at the slots as they stand -/
  E : L2.St → XK
  /-- the tables of codes that stand, and their codes' names -/
  tb : List Addr
/-- the tables stand; the view has none -/
def TbOk (tb : List Addr) (U H : Hp) : Prop := (∀ p ∈ tb, LamX.TabS H p (QN.qn p)) ∧ NT U
theorem TbOk.gr {tb : List Addr} {M : List Addr} {U H U' H' : Hp} (h : TbOk tb U H) (g : Gr M U H U' H') : TbOk tb U' H' := ⟨fun p hp => g.tb _ (h.1 p hp), g.nt h.2⟩
/-- what the marked parameters hold -/
structure ParRep (c : DC) (U H : Hp) (as : List (Option AV)) : Prop where
  ex : ∃ avs : List AV, as = avs.map some ∧ RepAs c.K U H avs c.pv ∧ avs.map AV.kind = c.pk ∧ (ownAs avs c.pv).Nodup ∧ (∀ p ∈ ownAs avs c.pv, U p = none) ∧ PerO c.H0 avs c.pv (selM c.ks c.O)
structure DC.Ok (c : DC) : Prop where
  x : ∀ U H σ as x cls o, selM c.ks σ = c.pv.map some → σ.length = c.O.length → Gr c.M c.U0 c.H0 U H → ParRep c U H as → XRep c.K U H x cls o → c.X x as → c.E σ cls o H
  tb : TbOk c.tb c.U0 c.H0
def DC.x (c : DC) (ρ : Env) : Exn → Prop := fun x => c.X x (selM c.ks ρ)
def noPar (c : DC) (i : Nat) : Bool := !(c.ks.getD i false)
theorem sel_set {α : Type} : ∀ (ks : List Bool) (r : List α) (i : Nat) (x : α), ks.getD i false = false → selM ks (r.set i x) = selM ks r
  | [], r, i, x, _ => by cases r <;> cases i <;> rfl
  | k :: ks, [], i, x, _ => rfl
  | true :: ks, a :: r, 0, x, h => by cases h
  | false :: ks, a :: r, 0, x, h => rfl
  | true :: ks, a :: r, i + 1, x, h => congrArg (a :: ·) (sel_set ks r i x h)
  | false :: ks, a :: r, i + 1, x, h => sel_set ks r i x h
structure DI (c : DC) (U H : Hp) (σ : L2.St) (ρ : Env) : Prop where
  gr : Gr c.M c.U0 c.H0 U H
  rep : Paired (RepS c.K U H) ρ σ
  nd : (owns ρ σ).Nodup
  out : ∀ p ∈ owns ρ σ, U p = none ∧ (p ∈ c.M ∨ c.H0 p = none)
  par : selM c.ks σ = c.pv.map some ∧ ∃ avs : List AV, selM c.ks ρ = avs.map some ∧ avs.map AV.kind = c.pk
  ko : c.Ok
  ow : ∀ (i : Nat) (av : AV) (v : V), ρ[i]? = some (some av) → σ[i]? = some (some v) → ∀ p ∈ own av v, p ∈ c.O.getD i [] ∨ c.H0 p = none
  on : c.O.length = σ.length ∧ ∀ i, noPar c i = true → c.O.getD i [] = []
section
variable {K : PySem.W.Frag} {c : DC} {U H U' H' : Hp} {σ : L2.St} {ρ : Env}
theorem DI.vh (h : DI c U H σ ρ) : Same U H := h.gr.vh
theorem DI.nw (h : DI c U H σ ρ) (i : Nat) (av : AV) (v : V) (hi : noPar c i = true) (e1 : ρ[i]? = some (some av)) (e2 : σ[i]? = some (some v)) : ∀ p ∈ own av v, c.H0 p = none := fun p hp => by
  rcases h.ow i av v e1 e2 p hp with z | z
  · rw [h.on.2 i hi] at z
    cases z
  · exact z
theorem noPar_of {i : Nat} (h : noPar c i = true) : c.ks.getD i false = false := by
  unfold noPar at h
  rwa [Bool.not_eq_true'] at h
theorem DC.x_set {i : Nat} {a : Option AV} (h : noPar c i = true) : c.x (ρ.set i a) = c.x ρ := by
  unfold DC.x
  rw [sel_set _ _ _ _ (noPar_of h)]
theorem owns_pl : ∀ {ρ : Env} {σ : L2.St}, Paired (RepS K U H) ρ σ → ∀ p ∈ owns ρ σ, Pl H p
  | _, _, .nil, p, hp => by cases hp
  | _, _, .cons (a := a) (b := b) h t, p, hp => by
    rcases List.mem_append.mp hp with hp | hp
    · cases a with
      | none => cases hp
      | some av =>
        cases b with
        | none => cases hp
        | some v => exact own_pl av v h p hp
    · exact owns_pl t p hp
theorem owns_some {ρ : Env} {σ : L2.St} (h : Paired (RepS K U H) ρ σ) (p : Addr) (hp : p ∈ owns ρ σ) : H p ≠ none := (owns_pl h p hp).ne
theorem DI.pl (h : DI c U H σ ρ) : ∀ p ∈ owns ρ σ, Pl H p := owns_pl h.rep
theorem DI.ex (h : DI c U H σ ρ) : ∀ p ∈ owns ρ σ, H p ≠ none := owns_some h.rep
theorem DI.tbs (h : DI c U H σ ρ) : TbOk c.tb U H := h.ko.tb.gr h.gr
theorem DI.ne (h : DI c U H σ ρ) {q : Addr} (n : H q = none) : ∀ p ∈ owns ρ σ, p ≠ q := fun p hp z => by
  subst z
  exact h.ex p hp n
theorem keep_at {M : List Addr} (g : Gr M U H U' H') {p : Addr} (n : Pl H p) (m : p ∉ M) : H' p = H p := g.at m n
theorem RepA.gr {av : AV} {v : V} (g : Gr [] U H U' H') (nu : ∀ p ∈ own av v, U p = none) (h : RepA K U H av v) : RepA K U' H' av v :=
  RepA.keep g.vv av v (fun p hp => ⟨keep_at g (own_pl av v h p hp) (by simp), g.fr p (nu p hp) (own_some av v h p hp)⟩) h
/-- the slots' things stand on where their own places do -/
theorem reps_keep (s : Same U U') : ∀ {ρ : Env} {σ : L2.St}, (∀ p ∈ owns ρ σ, H' p = H p ∧ U' p = none) → Paired (RepS K U H) ρ σ → Paired (RepS K U' H') ρ σ
  | _, _, _, .nil => .nil
  | x :: _, y :: _, n, .cons h t => by
    refine .cons ?_ (reps_keep s (fun p hp => n p (List.mem_append_right _ hp)) t)
    cases x with
    | none => trivial
    | some av =>
      cases y with
      | none => exact h.elim
      | some v => exact RepA.keep s av v (fun p hp => n p (List.mem_append_left _ hp)) h
theorem DI.grow (h : DI c U H σ ρ) (g : Gr [] U H U' H') : DI c U' H' σ ρ :=
  have u : ∀ p ∈ owns ρ σ, U' p = none := fun p hp => g.fr p (h.out p hp).1 (h.ex p hp)
  ⟨h.gr.trans g.any, reps_keep g.vv (fun p hp => ⟨keep_at g (h.pl p hp) (by simp), u p hp⟩) h.rep, h.nd, fun p hp => ⟨u p hp, (h.out p hp).2⟩, h.par, h.ko, h.ow, h.on⟩
theorem rep_at : ∀ {ρ : Env} {σ : L2.St}, Paired (RepS K U H) ρ σ → ∀ (i : Nat) (av : AV), ρ[i]? = some (some av) → ∃ v, σ[i]? = some (some v) ∧ RepA K U H av v ∧ ∀ p ∈ own av v, p ∈ owns ρ σ
  | _, _, .nil, i, av, e => by simp at e
  | _, _, .cons (a := a) (b := b) h t, 0, av, e => by
    have e' := Option.some.inj e
    subst e'
    cases b with
    | none => exact h.elim
    | some v => exact ⟨v, rfl, h, fun p hp => List.mem_append_left _ hp⟩
  | _, _, .cons (a := a) (b := b) h t, i + 1, av, e => by
    obtain ⟨v, h1, h2, h3⟩ := rep_at t i av e
    exact ⟨v, h1, h2, fun p hp => List.mem_append_right _ (h3 p hp)⟩
theorem mem_owns : ∀ {ρ : Env} {σ : L2.St} {i : Nat} {av : AV} {v : V}, ρ[i]? = some (some av) → σ[i]? = some (some v) → ∀ p ∈ own av v, p ∈ owns ρ σ
  | [], _, i, av, v, h, k, p, hp => by simp at h
  | _ :: _, [], i, av, v, h, k, p, hp => by simp at k
  | x :: ρ, y :: σ, 0, av, v, h, k, p, hp => by
    have h' := Option.some.inj h
    have k' := Option.some.inj k
    subst h' k'
    exact List.mem_append_left _ hp
  | x :: ρ, y :: σ, i + 1, av, v, h, k, p, hp => List.mem_append_right _ (mem_owns (ρ := ρ) (σ := σ) h k p hp)
theorem owns_set_sub : ∀ (ρ : Env) (σ : L2.St) (i : Nat) (a : Option AV) (v : Option V), ownS a v = [] → (owns (ρ.set i a) (σ.set i v)).Sublist (owns ρ σ)
  | [], _, _, _, _, _ => by simp [owns]
  | _ :: _, [], i, a, v, _ => by cases i <;> simp [owns]
  | b :: ρ, w :: σ, 0, a, v, h => by
    show (ownS a v ++ owns ρ σ).Sublist (ownS b w ++ owns ρ σ)
    rw [h]
    exact List.sublist_append_right _ _
  | b :: ρ, w :: σ, i + 1, a, v, h => by
    show (ownS b w ++ owns (ρ.set i a) (σ.set i v)).Sublist (ownS b w ++ owns ρ σ)
    exact List.Sublist.append_left (owns_set_sub ρ σ i a v h) _
theorem owns_set_mem : ∀ (ρ : Env) (σ : L2.St) (i : Nat) (a : Option AV) (v : Option V), ∀ p ∈ owns (ρ.set i a) (σ.set i v), p ∈ owns ρ σ ∨ p ∈ ownS a v
  | [], _, _, _, _, p, hp => by simp [owns] at hp
  | _ :: _, [], i, a, v, p, hp => by cases i <;> simp [owns] at hp
  | b :: ρ, w :: σ, 0, a, v, p, hp => by
    rcases List.mem_append.mp hp with h | h
    · exact .inr h
    · exact .inl (List.mem_append_right _ h)
  | b :: ρ, w :: σ, i + 1, a, v, p, hp => by
    rcases List.mem_append.mp hp with h | h
    · exact .inl (List.mem_append_left _ h)
    · exact (owns_set_mem ρ σ i a v p h).imp (List.mem_append_right _) id
theorem owns_set_nd : ∀ (ρ : Env) (σ : L2.St) (i : Nat) (a : Option AV) (v : Option V), (owns ρ σ).Nodup → (ownS a v).Nodup → (∀ p ∈ ownS a v, p ∉ owns ρ σ) → (owns (ρ.set i a) (σ.set i v)).Nodup
  | [], _, _, _, _, _, _, _ => by simp [owns]
  | _ :: _, [], i, a, v, _, _, _ => by cases i <;> simp [owns]
  | b :: ρ, w :: σ, 0, a, v, h, k, n => by
    show (ownS a v ++ owns ρ σ).Nodup
    refine List.nodup_append.mpr ⟨k, (List.nodup_append.mp h).2.1, fun x hx y hy z => ?_⟩
    subst z
    exact n x hx (List.mem_append_right _ hy)
  | b :: ρ, w :: σ, i + 1, a, v, h, k, n => by
    show (ownS b w ++ owns (ρ.set i a) (σ.set i v)).Nodup
    obtain ⟨h1, h2, h3⟩ := List.nodup_append.mp h
    refine List.nodup_append.mpr ⟨h1, owns_set_nd ρ σ i a v h2 k fun p hp q => n p hp (List.mem_append_right _ q), fun x hx y hy z => ?_⟩
    subst z
    rcases owns_set_mem ρ σ i a v x hy with q | q
    · exact h3 x hx x q rfl
    · exact n x q (List.mem_append_left _ hx)
/-- what the marked parameters hold -/
theorem sel_owns : ∀ (ks : List Bool) (ρ : Env) (σ : L2.St) (avs : List AV) (vs : List V), Paired (RepS K U H) ρ σ → selM ks ρ = avs.map some → selM ks σ = vs.map some → RepAs K U H avs vs ∧ (ownAs avs vs).Sublist (owns ρ σ)
  | [], ρ, σ, avs, vs, _, e1, e2 => by
    have a1 : avs = [] := by cases avs with
      | nil => rfl
      | cons a as => cases ρ <;> cases e1
    have a2 : vs = [] := by cases vs with
      | nil => rfl
      | cons a as => cases σ <;> cases e2
    subst a1 a2
    exact ⟨rfl, List.nil_sublist _⟩
  | k :: ks, _, _, avs, vs, .nil, e1, e2 => by
    have a1 : avs = [] := by cases avs with
      | nil => rfl
      | cons a as => cases k <;> cases e1
    have a2 : vs = [] := by cases vs with
      | nil => rfl
      | cons a as => cases k <;> cases e2
    subst a1 a2
    exact ⟨rfl, List.nil_sublist _⟩
  | true :: ks, x :: ρ, y :: σ, avs, vs, .cons h t, e1, e2 => by
    cases avs with
    | nil => cases e1
    | cons a avs =>
      cases vs with
      | nil => cases e2
      | cons v vs =>
        have f1 := List.cons.inj e1
        have f2 := List.cons.inj e2
        obtain ⟨g1, g2⟩ := f1
        obtain ⟨g3, g4⟩ := f2
        subst g1 g3
        obtain ⟨k1, k2⟩ := sel_owns ks ρ σ avs vs t g2 g4
        exact ⟨⟨v, vs, rfl, h, k1⟩, List.Sublist.append_left k2 _⟩
  | false :: ks, x :: ρ, y :: σ, avs, vs, .cons h t, e1, e2 => by
    obtain ⟨k1, k2⟩ := sel_owns ks ρ σ avs vs t e1 e2
    exact ⟨k1, k2.trans (List.sublist_append_right _ _)⟩
theorem sel_per {H0 : Hp} : ∀ (ks : List Bool) (ρ : Env) (σ : L2.St) (O : List (List Addr)) (avs : List AV) (vs : List V), ρ.length = σ.length → O.length = σ.length → (∀ (i : Nat) (av : AV) (v : V), ρ[i]? = some (some av) → σ[i]? = some (some v) → ∀ p ∈ own av v, p ∈ O.getD i [] ∨ H0 p = none) → selM ks ρ = avs.map some → selM ks σ = vs.map some → PerO H0 avs vs (selM ks O)
  | [], ρ, σ, O, avs, vs, _, _, _, e1, e2 => by
    have a1 : avs = [] := by cases avs with
      | nil => rfl
      | cons a as => cases ρ <;> cases e1
    have a2 : vs = [] := by cases vs with
      | nil => rfl
      | cons a as => cases σ <;> cases e2
    subst a1 a2
    exact trivial
  | k :: ks, [], [], O, avs, vs, _, _, _, e1, e2 => by
    have a1 : avs = [] := by cases avs with
      | nil => rfl
      | cons a as => cases k <;> cases e1
    have a2 : vs = [] := by cases vs with
      | nil => rfl
      | cons a as => cases k <;> cases e2
    subst a1 a2
    exact trivial
  | true :: ks, x :: ρ, y :: σ, [], avs, vs, _, lo, _, e1, e2 => by cases lo
  | false :: ks, x :: ρ, y :: σ, [], avs, vs, _, lo, _, e1, e2 => by cases lo
  | true :: ks, x :: ρ, y :: σ, o :: O, avs, vs, l1, lo, h, e1, e2 => by
    cases avs with
    | nil => cases e1
    | cons a avs =>
      cases vs with
      | nil => cases e2
      | cons v vs =>
        obtain ⟨g1, g2⟩ := List.cons.inj e1
        obtain ⟨g3, g4⟩ := List.cons.inj e2
        subst g1 g3
        exact ⟨fun p hp => h 0 a v rfl rfl p hp, sel_per ks ρ σ O avs vs (Nat.succ.inj l1) (Nat.succ.inj lo) (fun i av w f1 f2 => h (i + 1) av w f1 f2) g2 g4⟩
  | false :: ks, x :: ρ, y :: σ, o :: O, avs, vs, l1, lo, h, e1, e2 => sel_per ks ρ σ O avs vs (Nat.succ.inj l1) (Nat.succ.inj lo) (fun i av w f1 f2 => h (i + 1) av w f1 f2) e1 e2
theorem DI.pars (h : DI c U H σ ρ) : ParRep c U H (selM c.ks ρ) := by
  obtain ⟨e1, avs, e2, e3⟩ := h.par
  obtain ⟨k1, k2⟩ := sel_owns c.ks ρ σ avs c.pv h.rep e2 e1
  exact ⟨avs, e2, k1, e3, k2.nodup h.nd, fun p hp => (h.out p (k2.mem hp)).1, sel_per c.ks ρ σ c.O avs c.pv h.rep.length h.on.1 h.ow e2 e1⟩
theorem DI.raise {x : Exn} {cls : Value} {o : Option Addr} (h : DI c U H σ ρ) (xr : XRep c.K U H x cls o) (z : c.x ρ x) : c.E σ cls o H := h.ko.x U H σ _ x cls o h.par.1 h.on.1.symm h.gr h.pars xr z
theorem par_set {ρ' : Env} {σ' : L2.St} (e1 : selM c.ks σ' = selM c.ks σ) (e2 : selM c.ks ρ' = selM c.ks ρ) (h : selM c.ks σ = c.pv.map some ∧ ∃ avs : List AV, selM c.ks ρ = avs.map some ∧ avs.map AV.kind = c.pk) :
    selM c.ks σ' = c.pv.map some ∧ ∃ avs : List AV, selM c.ks ρ' = avs.map some ∧ avs.map AV.kind = c.pk := by rw [e1, e2]; exact h
/-- a slot is written: with what never changes -/
theorem DI.setF (h : DI c U H σ ρ) {i : Nat} {d : D} {v : V} (r : R c.K U d v) (hi : noPar c i = true) : DI c U H (σ.set i (some v)) (ρ.set i (some (.fz d))) := by
  have hn := noPar_of hi
  refine ⟨h.gr, Paired.setAt (F := RepS c.K U H) (show RepS c.K U H (some (.fz d)) (some v) from r) i h.rep, (owns_set_sub ρ σ i _ _ rfl).nodup h.nd, fun p hp => h.out p ((owns_set_sub ρ σ i _ _ rfl).mem hp), par_set (sel_set _ _ _ _ hn) (sel_set _ _ _ _ hn) h.par, h.ko, fun k av w e1 e2 p hp => ?_, by rw [List.length_set]; exact h.on⟩
  by_cases z : i = k
  · subst z
    rw [List.getElem?_set] at e1
    simp at e1
    rw [← e1.2] at hp
    cases hp
  · rw [List.getElem?_set_ne z] at e1 e2
    exact h.ow k av w e1 e2 p hp
/-- with a new thing of one's own -/
theorem DI.setO (h : DI c U H σ ρ) {i : Nat} {av : AV} {v : V} (r : RepA c.K U H av v) (ndo : (own av v).Nodup) (n : ∀ p ∈ own av v, U p = none ∧ c.H0 p = none ∧ p ∉ owns ρ σ) (hi : noPar c i = true) : DI c U H (σ.set i (some v)) (ρ.set i (some av)) := by
  have hn := noPar_of hi
  refine ⟨h.gr, Paired.setAt (F := RepS c.K U H) (show RepS c.K U H (some av) (some v) from r) i h.rep, owns_set_nd ρ σ i (some av) (some v) h.nd ndo fun p hp => (n p hp).2.2, fun p hp => ?_, par_set (sel_set _ _ _ _ hn) (sel_set _ _ _ _ hn) h.par, h.ko, fun k av' w e1 e2 p hp => ?_, by rw [List.length_set]; exact h.on⟩
  · rcases owns_set_mem ρ σ i (some av) (some v) p hp with q | q
    · exact h.out p q
    · exact ⟨(n p q).1, .inr (n p q).2.1⟩
  · by_cases z : i = k
    · subst z
      rw [List.getElem?_set] at e1 e2
      simp at e1 e2
      rw [← e1.2, ← e2.2] at hp
      exact .inr (n p hp).2.1
    · rw [List.getElem?_set_ne z] at e1 e2
      exact h.ow k av' w e1 e2 p hp
end
abbrev AE := Env → (D → Prop) → (Exn → Prop) → Prop
abbrev AO := Env → (AV → Prop) → (Exn → Prop) → Prop
abbrev AT := Env → (Bool → Prop) → (Exn → Prop) → Prop
abbrev AL := Env → (List D → Prop) → (Exn → Prop) → Prop
inductive Arg where
  | val (d : D) | slot (i : Nat)
abbrev AA := Env → (List Arg → Prop) → (Exn → Prop) → Prop
structure AEnds where
  nx : Env → Prop
  rt : AV → Env → Prop
  bk : Env → Prop
  ct : Env → Prop
  ex : Exn → Env → Prop
abbrev AS := AEnds → Env → Prop
def drS : Option AV → Option V → List Addr
  | some .dr, some (.ref p) => [p]
  | _, _ => []
def drs : Env → L2.St → List Addr
  | a :: ρ, v :: σ => drS a v ++ drs ρ σ
  | _, _ => []
theorem drs_sub : ∀ {ρ : Env} {σ : L2.St}, ∀ p ∈ drs ρ σ, p ∈ owns ρ σ
  | [], _, p, hp => by simp [drs] at hp
  | _ :: _, [], p, hp => by simp [drs] at hp
  | a :: ρ, v :: σ, p, hp => by
    rcases List.mem_append.mp hp with h | h
    · refine List.mem_append_left _ ?_
      unfold drS at h
      split at h
      · exact h
      · cases h
    · exact List.mem_append_right _ (drs_sub p h)
/-- a slot's thing that stands now, or what never changes -/
inductive Within : AV → V → AV → V → Prop
  | here {a : AV} {v : V} : Within a v a v
  | on {ws : List V} {as : List AV} {v : V} {k : Nat} {a b : AV} {w u : V} : as[k]? = some a → ws[k]? = some w → Within a w b u → Within (.on ws as) v b u
  | ob {C dx : Addr} {ns : List Str} {ws : List V} {as : List AV} {v : V} {k : Nat} {a b : AV} {w u : V} : as[k]? = some a → ws[k]? = some w → Within a w b u → Within (.ob C dx ns ws as) v b u
  | ut {ws : List V} {as : List AV} {v : V} {k : Nat} {a b : AV} {w u : V} : as[k]? = some a → ws[k]? = some w → Within a w b u → Within (.ut ws as) v b u
theorem RepAs.at {K : PySem.W.Frag} {U H : Hp} : ∀ {as : List AV} {vs : List V}, RepAs K U H as vs → ∀ (k : Nat) (a : AV) (v : V), as[k]? = some a → vs[k]? = some v → RepA K U H a v
  | [], _, _, k, a, v, e, _ => by simp at e
  | b :: as, _, ⟨w, r, e1, h1, h2⟩, 0, a, v, e, f => by
    subst e1
    cases e
    cases f
    exact h1
  | b :: as, _, ⟨w, r, e1, h1, h2⟩, k + 1, a, v, e, f => by
    subst e1
    exact RepAs.at h2 k a v e f
theorem Within.rep {K : PySem.W.Frag} {U H : Hp} {a b : AV} {v w : V} (h : Within a v b w) : RepA K U H a v → RepA K U H b w := by
  induction h with
  | here => exact id
  | on h1 h2 _ ih => exact fun ⟨p, _, _, k⟩ => ih (RepAs.at k _ _ _ h1 h2)
  | ob h1 h2 _ ih => exact fun ⟨p, _, _, _, k⟩ => ih (RepAs.at k _ _ _ h1 h2)
  | ut h1 h2 _ ih => exact fun ⟨p, _, _, k⟩ => ih (RepAs.at k _ _ _ h1 h2)
theorem ownAs_at : ∀ {as : List AV} {vs : List V} {k : Nat} {a : AV} {v : V}, as[k]? = some a → vs[k]? = some v → ∀ p ∈ own a v, p ∈ ownAs as vs
  | [], _, k, a, v, e, _, p, _ => by simp at e
  | _ :: _, [], k, a, v, _, e, p, _ => by simp at e
  | b :: as, w :: vs, 0, a, v, e, f, p, hp => by
    cases e
    cases f
    exact List.mem_append_left _ hp
  | b :: as, w :: vs, k + 1, a, v, e, f, p, hp => List.mem_append_right _ (ownAs_at (as := as) (vs := vs) e f p hp)
theorem Within.own {K : PySem.W.Frag} {U H : Hp} {a b : AV} {v w : V} (h : Within a v b w) : RepA K U H a v → ∀ p ∈ own b w, p ∈ SW.own a v := by
  induction h with
  | here => exact fun _ p hp => hp
  | on h1 h2 _ ih =>
    rintro ⟨q, rfl, _, k⟩ p hp
    exact List.mem_cons_of_mem _ (ownAs_at h1 h2 p (ih (RepAs.at k _ _ _ h1 h2) p hp))
  | ob h1 h2 _ ih =>
    rintro ⟨q, rfl, _, _, k⟩ p hp
    exact List.mem_cons_of_mem _ (ownAs_at h1 h2 p (ih (RepAs.at k _ _ _ h1 h2) p hp))
  | ut h1 h2 _ ih =>
    rintro ⟨q, rfl, _, k⟩ p hp
    exact ownAs_at h1 h2 p (ih (RepAs.at k _ _ _ h1 h2) p hp)
theorem Within.dr {b : AV} {v w : V} (h : Within .dr v b w) : b = .dr := by cases h; rfl
def Wk (K : PySem.W.Frag) (U : Hp) (σ : L2.St) (ρ : Env) (d : D) (v : V) : Prop := R K U d v ∨ ∃ (i : Nat) (av : AV) (v0 : V) (b : AV), ρ[i]? = some (some av) ∧ σ[i]? = some (some v0) ∧ Within av v0 b v ∧ b.sh = some d
def CR (K : PySem.W.Frag) (U H : Hp) (d : D) (v : V) : Prop := ∃ av : AV, RepA K U H av v ∧ av.sh = some d
section
variable {K : PySem.W.Frag} {c : DC} {U H U' H' : Hp} {σ : L2.St} {ρ : Env} {d : D} {v : V}
theorem CR.of (h : R K U d v) : CR K U H d v := ⟨.fz d, h, rfl⟩
theorem Wk.cr (h : Wk c.K U σ ρ d v) (i : DI c U H σ ρ) : CR c.K U H d v := by
  rcases h with h | ⟨k, av, v0, b, h1, h2, h4, h3⟩
  · exact .of h
  · obtain ⟨w, e1, e2, _⟩ := rep_at i.rep k av h1
    rw [h2] at e1
    have e := Option.some.inj (Option.some.inj e1)
    subst e
    exact ⟨b, h4.rep e2, h3⟩
theorem Wk.mono (e : Same U U') (h : Wk K U σ ρ d v) : Wk K U' σ ρ d v := h.imp (R.mono e d v) id
theorem CR.int {i : Int} (h : CR K U H (.int i) v) : v = .int i := by
  obtain ⟨av, h1, h2⟩ := h
  cases av <;> first | (cases h2; exact h1) | cases h2
theorem CR.bl {b : Bool} (h : CR K U H (.bl b) v) : v = .bl b := by
  obtain ⟨av, h1, h2⟩ := h
  cases av <;> first | (cases h2; exact h1) | cases h2
theorem CR.str {x : Str} (h : CR K U H (.str x) v) : v = .str x := by
  obtain ⟨av, h1, h2⟩ := h
  cases av <;> first | (cases h2; exact h1) | cases h2
theorem CR.non (h : CR K U H .non v) : v = .non := by
  obtain ⟨av, h1, h2⟩ := h
  cases av <;> first | (cases h2; exact h1) | cases h2
theorem CR.ty {n : String} (h : CR K U H (.ty n) v) : v = .ty n := by
  obtain ⟨av, h1, h2⟩ := h
  cases av <;> first | (cases h2; exact h1) | cases h2
theorem CR.adr {a : Addr} (h : CR K U H (.adr a) v) : v = .ref a := by
  obtain ⟨av, h1, h2⟩ := h
  cases av <;> first | (cases h2; exact h1) | cases h2
theorem CR.exn {a C : Addr} {o : Option Addr} {ns : List Str} {ds : List D} (h : CR K U H (.exn a C o ns ds) v) : v = .ref a := by
  obtain ⟨av, h1, h2⟩ := h
  cases av <;> first | (cases h2; exact h1.1) | cases h2
theorem CR.tupR {ds : List D} (h : CR K U H (.tup ds) v) : R K U (.tup ds) v := by
  obtain ⟨av, h1, h2⟩ := h
  cases av <;> cases h2
  · exact h1
  · obtain ⟨p, e1, e2, e3⟩ := h1
    exact ⟨p, _, e1, e2, seens_r e3⟩
theorem CR.tup {ds : List D} (h : CR K U H (.tup ds) v) (s : Same U H) : ∃ a xs, v = .ref a ∧ SqT K H a xs ∧ Rs K U ds xs := by
  obtain ⟨a, xs, e1, e2, e3⟩ := h.tupR
  exact ⟨a, xs, e1, Same.tup s e2, e3⟩
theorem CR.lst {ds : List D} (h : CR K U H (.lst ds) v) (s : Same U H) : ∃ a xs, v = .ref a ∧ H a = some (.lst xs) ∧ Rs K U ds xs := by
  obtain ⟨av, h1, h2⟩ := h
  cases av <;> cases h2
  · obtain ⟨a, xs, e1, e2, e3⟩ := h1
    exact ⟨a, xs, e1, s _ _ e2, e3⟩
  · obtain ⟨a, xs, e1, e2, e3⟩ := h1
    exact ⟨a, xs, e1, e2, e3⟩
  · obtain ⟨a, e1, e2, e3⟩ := h1
    exact ⟨a, _, e1, e2, seens_r e3⟩
theorem CR.dK {ks : List Key} {ds : List D} (h : CR K U H (.dK ks ds) v) (s : Same U H) : ∃ a xs, v = .ref a ∧ H a = some (.dK (ks.zip xs)) ∧ ks.length = xs.length ∧ Rs K U ds xs := by
  obtain ⟨av, h1, h2⟩ := h
  cases av <;> cases h2
  · obtain ⟨a, xs, e1, e2, e3⟩ := h1
    exact ⟨a, xs, e1, s _ _ e2, e3⟩
  · obtain ⟨a, xs, e1, e2, e3⟩ := h1
    exact ⟨a, xs, e1, e2, e3⟩
theorem CR.dT {ks : List (List Key)} {ds : List D} (h : CR K U H (.dT ks ds) v) (s : Same U H) : ∃ a xs, v = .ref a ∧ H a = some (.dT (ks.zip xs)) ∧ ks.length = xs.length ∧ Rs K U ds xs := by
  obtain ⟨av, h1, h2⟩ := h
  cases av <;> cases h2
  · obtain ⟨a, xs, e1, e2, e3⟩ := h1
    exact ⟨a, xs, e1, s _ _ e2, e3⟩
  · obtain ⟨a, xs, e1, e2, e3⟩ := h1
    exact ⟨a, xs, e1, e2, e3⟩
theorem CR.obj {C : Addr} {ns : List Str} {ds : List D} (h : CR K U H (.obj C ns ds) v) (s : Same U H) : ∃ a dx xs, v = .ref a ∧ H a = some (.ins C dx (ns.zip xs)) ∧ ns.length = xs.length ∧ Rs K U ds xs := by
  obtain ⟨av, h1, h2⟩ := h
  cases av <;> cases h2
  · obtain ⟨a, dx, xs, e1, e2, e3⟩ := h1
    exact ⟨a, dx, xs, e1, s _ _ e2, e3⟩
  · obtain ⟨a, e1, e2, e3, e4⟩ := h1
    exact ⟨a, _, _, e1, e2, e3, seens_r e4⟩
end
/-- a new thing of one's own -/
structure Fresh (U' H : Hp) (av : AV) (v : V) : Prop where
  nd : (own av v).Nodup
  out : ∀ p ∈ own av v, U' p = none ∧ H p = none
theorem Fresh.back {U' H H1 : Hp} {av : AV} {v : V} (f : Fresh U' H1 av v) (h : ∀ p, H1 p = none → H p = none) : Fresh U' H av v := ⟨f.nd, fun p hp => ⟨(f.out p hp).1, h p (f.out p hp).2⟩⟩
theorem Fresh.one {U' H : Hp} {av : AV} {p : Addr} (e : own av (.ref p) = [p]) (h1 : U' p = none) (h2 : H p = none) : Fresh U' H av (.ref p) := ⟨by rw [e]; simp, fun q hq => by rw [e] at hq; rw [List.mem_singleton.mp hq]; exact ⟨h1, h2⟩⟩
theorem Fresh.fz {U' H : Hp} {d : D} {v : V} : Fresh U' H (.fz d) v := ⟨by cases v <;> exact List.nodup_nil, fun p hp => by cases v <;> cases hp⟩
def SimE (c : DC) (t : TE) (e : AE) : Prop := ∀ (U H : Hp) (σ : L2.St) (ρ : Env) (Q : D → Prop) (q : VK), DI c U H σ ρ → e ρ Q (c.x ρ) →
  (∀ U' H' d v, Gr (drs ρ σ) U H U' H' → DI c U' H' σ ρ → R c.K U' d v → Q d → q v H') → t σ H q
def SimW (c : DC) (t : TE) (e : AE) : Prop := ∀ (U H : Hp) (σ : L2.St) (ρ : Env) (Q : D → Prop) (q : VK), DI c U H σ ρ → e ρ Q (c.x ρ) →
  (∀ U' H' d v, Gr (drs ρ σ) U H U' H' → DI c U' H' σ ρ → Wk c.K U' σ ρ d v → Q d → q v H') → t σ H q
def SimO (c : DC) (t : TE) (e : AO) : Prop := ∀ (U H : Hp) (σ : L2.St) (ρ : Env) (Q : AV → Prop) (q : VK), DI c U H σ ρ → e ρ Q (c.x ρ) →
  (∀ U' H' av v, Gr (drs ρ σ) U H U' H' → DI c U' H' σ ρ → RepA c.K U' H' av v → Fresh U' H av v → Q av → q v H') → t σ H q
def SimT (c : DC) (t : TT) (e : AT) : Prop := ∀ (U H : Hp) (σ : L2.St) (ρ : Env) (Q : Bool → Prop) (q : Bool → Hp → Prop), DI c U H σ ρ → e ρ Q (c.x ρ) →
  (∀ U' H' b, Gr (drs ρ σ) U H U' H' → DI c U' H' σ ρ → Q b → q b H') → t σ H q
def SimL (c : DC) (t : TA) (e : AL) : Prop := ∀ (U H : Hp) (σ : L2.St) (ρ : Env) (Q : List D → Prop) (q : List V → Hp → Prop), DI c U H σ ρ → e ρ Q (c.x ρ) →
  (∀ U' H' ds vs, Gr (drs ρ σ) U H U' H' → DI c U' H' σ ρ → Rs c.K U' ds vs → Q ds → q vs H') → t σ H q
/-- arguments that are read alone -/
def SimLW (c : DC) (t : TA) (e : AL) : Prop := ∀ (U H : Hp) (σ : L2.St) (ρ : Env) (Q : List D → Prop) (q : List V → Hp → Prop), DI c U H σ ρ → e ρ Q (c.x ρ) →
  (∀ U' H' ds vs, Gr (drs ρ σ) U H U' H' → DI c U' H' σ ρ → Paired (Wk c.K U' σ ρ) ds vs → Q ds → q vs H') → t σ H q
def ArgR (K : PySem.W.Frag) (U : Hp) (σ : L2.St) : Arg → V → Prop
  | .val d, v => R K U d v
  | .slot i, v => σ[i]? = some (some v)
def SimA (c : DC) (t : TA) (e : AA) : Prop := ∀ (U H : Hp) (σ : L2.St) (ρ : Env) (Q : List Arg → Prop) (q : List V → Hp → Prop), DI c U H σ ρ → e ρ Q (c.x ρ) →
  (∀ U' H' as vs, Gr (drs ρ σ) U H U' H' → DI c U' H' σ ρ → Paired (ArgR c.K U' σ) as vs → Q as → q vs H') → t σ H q
structure Post (c : DC) (V : Hp) (N : AEnds) (n : L2.Ends) : Prop where
  nx : ∀ U H σ ρ, Same V U → DI c U H σ ρ → N.nx ρ → n.nx σ H
  rt : ∀ U H σ ρ av v, DI c U H σ ρ → RepA c.K U H av v → (own av v).Nodup → (∀ p ∈ own av v, U p = none ∧ c.H0 p = none ∧ p ∉ owns ρ σ) → N.rt av ρ → n.rt v H
  bk : ∀ U H σ ρ, Same V U → DI c U H σ ρ → N.bk ρ → n.bk σ H
  ct : ∀ U H σ ρ, Same V U → DI c U H σ ρ → N.ct ρ → n.ct σ H
theorem Post.mono {c : DC} {V V' : Hp} {N : AEnds} {n : L2.Ends} (s : Same V V') (P : Post c V N n) : Post c V' N n :=
  ⟨fun U H σ ρ e => P.nx U H σ ρ (s.trans e), P.rt, fun U H σ ρ e => P.bk U H σ ρ (s.trans e), fun U H σ ρ e => P.ct U H σ ρ (s.trans e)⟩
def SimS (c : DC) (t : TS) (a : AS) : Prop := ∀ (U H : Hp) (σ : L2.St) (ρ : Env) (N : AEnds) (n : L2.Ends), N.ex = (fun x ρ => c.x ρ x) → DI c U H σ ρ → a N ρ → Post c U N n → t n σ H
/-- a target: slots are written, the heap stays -/
abbrev AG := D → Env → (Env → Prop) → Prop
structure Put (js : List Nat) (σ σ' : L2.St) (ρ ρ' : Env) : Prop where
  len : σ'.length = σ.length
  at' : ∀ k, k ∉ js → σ'[k]? = σ[k]?
  dr : ∀ p ∈ drs ρ' σ', p ∈ drs ρ σ
  rat : ∀ k, k ∉ js → ρ'[k]? = ρ[k]?
  ow : ∀ p ∈ owns ρ' σ', p ∈ owns ρ σ
theorem sel_at {α : Type} : ∀ (ks : List Bool) (r r' : List α), (∀ k, ks.getD k false = true → r'[k]? = r[k]?) → selM ks r' = selM ks r
  | [], r, r', _ => by cases r <;> cases r' <;> rfl
  | true :: ks, [], [], _ => rfl
  | true :: ks, [], b :: r', h => by have := h 0 rfl; cases this
  | true :: ks, a :: r, [], h => by have := h 0 rfl; cases this
  | true :: ks, a :: r, b :: r', h => by
    have e := Option.some.inj (h 0 rfl)
    subst e
    exact congrArg (_ :: ·) (sel_at ks r r' fun k hk => h (k + 1) hk)
  | false :: ks, [], [], _ => rfl
  | false :: ks, [], b :: r', h => by
    have := sel_at ks [] r' fun k hk => by have := h (k + 1) hk; simpa using this
    show selM ks r' = []
    rw [this]
    cases ks with
    | nil => rfl
    | cons k ks => cases k <;> rfl
  | false :: ks, a :: r, [], h => by
    have := sel_at ks r [] fun k hk => by have := h (k + 1) hk; simpa using this
    show [] = selM ks r
    rw [← this]
    cases ks with
    | nil => rfl
    | cons k ks => cases k <;> rfl
  | false :: ks, a :: r, b :: r', h => sel_at ks r r' fun k hk => h (k + 1) hk
theorem Put.ex {c : DC} {js vs : List Nat} {σ σ' : L2.St} {ρ ρ' : Env} (p : Put js σ σ' ρ ρ') (hv : (vs.all fun i => noPar c i) = true) (h : ∀ j ∈ js, j ∈ vs) : c.x ρ' = c.x ρ := by
  unfold DC.x
  rw [sel_at c.ks ρ ρ' fun k hk => p.rat k fun z => by
    have := noPar_of (List.all_eq_true.mp hv k (h k z))
    rw [this] at hk
    cases hk]
def SimG (c : DC) (js : List Nat) (g : TG) (a : AG) : Prop := ∀ (U H : Hp) (σ : L2.St) (ρ : Env) (d : D) (v : V) (Q : Env → Prop) (q : L2.St → Hp → Prop), DI c U H σ ρ → R c.K U d v → a d ρ Q →
  (∀ σ' ρ', DI c U H σ' ρ' → Put js σ σ' ρ ρ' → Q ρ' → q σ' H) → g v σ H q
/-- what is walked: the items -/
def Walks (K : PySem.W.Frag) (U : Hp) (J : It) (ds : List D) (G : Hp → Prop) : Prop := ∃ Y, Walk J ds.length G Y ∧ ∀ (i : Nat) (H : Hp) (x : V) (H' : Hp) (d : D) (U2 : Hp), Same U U2 → Same U2 H → Y i H x H' → ds[i]? = some d → ∃ U3, Gr [] U2 H U3 H' ∧ R K U3 d x
def SimI (c : DC) (wi : TI) (a : AL) : Prop := ∀ (U H : Hp) (σ : L2.St) (ρ : Env) (Q : List D → Prop) (q : It → Hp → Prop), DI c U H σ ρ → a ρ Q (c.x ρ) →
  (∀ U' H' J ds, Gr (drs ρ σ) U H U' H' → DI c U' H' σ ρ → Walks c.K U' J ds (fun H'' => Same U' H'') → Q ds → q J H') → wi σ H q
def SimIW (c : DC) (wi : TI) (a : AL) : Prop := ∀ (U H : Hp) (σ : L2.St) (ρ : Env) (Q : List D → Prop) (q : It → Hp → Prop), DI c U H σ ρ → a ρ Q (c.x ρ) →
  (∀ U' H' J ds, Gr (drs ρ σ) U H U' H' → DI c U' H' σ ρ → Walks c.K U' J ds (fun H'' => ∃ U'', Gr (drs ρ σ) U' H' U'' H'') → Q ds → q J H') → wi σ H q
end SW
namespace SW
open PySem PySem.Spec PyProof.Rows L2
variable [QN]
section
variable {c : DC} {U H U' H' : Hp} {σ : L2.St} {ρ : Env} {t u ta tb tc : TE} {e a b : AE} {i j : Nat} {d : D} {v : V}
theorem SimE.w (h : SimE c t e) : SimW c t e := fun U H σ ρ Q q I he k => h U H σ ρ Q q I he fun U' H' d v g I' r z => k U' H' d v g I' (.inl r) z
def aVar (i : Nat) : AE := fun ρ Q _ => match ρ[i]? with
  | some (some (.fz d)) => Q d
  | _ => False
theorem sim_var : SimE c (tVar i) (aVar i) := fun U H σ ρ Q q I h k => by
  unfold aVar at h
  split at h
  · rename_i d e
    obtain ⟨v, e1, r, _⟩ := rep_at I.rep i _ e
    exact ⟨v, e1, k U H d v (Gr.refl I.vh) I r h⟩
  · exact h.elim
def aVarW (i : Nat) : AE := fun ρ Q _ => match ρ[i]? with
  | some (some (.fz d)) => Q d
  | some (some (.ol ds)) => Q (.lst ds)
  | some (some (.ok ks ds)) => Q (.dK ks ds)
  | some (some (.ot ks ds)) => Q (.dT ks ds)
  | some (some (.on ws as)) => Q (.lst (seens as ws))
  | some (some (.ut ws as)) => Q (.tup (seens as ws))
  | some (some (.ob C _ ns ws as)) => Q (.obj C ns (seens as ws))
  | _ => False
theorem sim_varW : SimW c (tVar i) (aVarW i) := fun U H σ ρ Q q I h k => by
  have go : ∀ (av : AV) (d : D), ρ[i]? = some (some av) → av.sh = some d → Q d → tVar i σ H q := fun av d e f z => by
    obtain ⟨v, e1, r, _⟩ := rep_at I.rep i _ e
    exact ⟨v, e1, k U H d v (Gr.refl I.vh) I (.inr ⟨i, av, v, av, e, e1, .here, f⟩) z⟩
  unfold aVarW at h
  split at h
  · exact go _ _ (by assumption) rfl h
  · exact go _ _ (by assumption) rfl h
  · exact go _ _ (by assumption) rfl h
  · exact go _ _ (by assumption) rfl h
  · exact go _ _ (by assumption) rfl h
  · exact go _ _ (by assumption) rfl h
  · exact go _ _ (by assumption) rfl h
  · exact h.elim
def aC (d : D) : AE := fun _ Q _ => Q d
theorem sim_c (h : ∀ U, R c.K U d v) : SimE c (tC v) (aC d) := fun U H σ ρ Q q I z k => k U H d v (Gr.refl I.vh) I (h U) z
theorem sim_int {n : Int} : SimE c (tC (.int n)) (aC (.int n)) := sim_c fun _ => rfl
theorem sim_bl {n : Bool} : SimE c (tC (.bl n)) (aC (.bl n)) := sim_c fun _ => rfl
theorem sim_str {n : Str} : SimE c (tC (.str n)) (aC (.str n)) := sim_c fun _ => rfl
theorem sim_ty {n : String} : SimE c (tC (.ty n)) (aC (.ty n)) := sim_c fun _ => rfl
/-- an operator on what is read -/
def OpD (K : PySem.W.Frag) (r : R2) (f : D → D → (D → Prop) → Prop) : Prop := ∀ (U H : Hp) (v w : V) (d e : D) (Q : D → Prop) (q : VK), Same U H → CR K U H d v → CR K U H e w → f d e Q →
  (∀ U' H' z u, Gr [] U H U' H' → R K U' z u → Q z → q u H') → r v w H q
def UnD (K : PySem.W.Frag) (r : V → Hp → VK → Prop) (f : D → (D → Prop) → Prop) : Prop := ∀ (U H : Hp) (v : V) (d : D) (Q : D → Prop) (q : VK), Same U H → CR K U H d v → f d Q →
  (∀ U' H' z u, Gr [] U H U' H' → R K U' z u → Q z → q u H') → r v H q
def BuD (K : PySem.W.Frag) (r : List V → Hp → VK → Prop) (f : List D → (D → Prop) → Prop) : Prop := ∀ (U H : Hp) (vs : List V) (ds : List D) (Q : D → Prop) (q : VK), Same U H → Paired (CR K U H) ds vs → f ds Q →
  (∀ U' H' z u, Gr [] U H U' H' → R K U' z u → Q z → q u H') → r vs H q
/-- the same with a new thing of one's own -/
def OpO (K : PySem.W.Frag) (r : R2) (f : D → D → (AV → Prop) → Prop) : Prop := ∀ (U H : Hp) (v w : V) (d e : D) (Q : AV → Prop) (q : VK), Same U H → CR K U H d v → CR K U H e w → f d e Q →
  (∀ U' H' av u, Gr [] U H U' H' → RepA K U' H' av u → Fresh U' H av u → Q av → q u H') → r v w H q
def BuO (K : PySem.W.Frag) (r : List V → Hp → VK → Prop) (f : List D → (AV → Prop) → Prop) : Prop := ∀ (U H : Hp) (vs : List V) (ds : List D) (Q : AV → Prop) (q : VK), Same U H → Paired (CR K U H) ds vs → f ds Q →
  (∀ U' H' av u, Gr [] U H U' H' → RepA K U' H' av u → Fresh U' H av u → Q av → q u H') → r vs H q
def aOp (f : D → D → (D → Prop) → Prop) (a b : AE) : AE := fun ρ Q X => a ρ (fun d => b ρ (fun e => f d e Q) X) X
def aOpO (f : D → D → (AV → Prop) → Prop) (a b : AE) : AO := fun ρ Q X => a ρ (fun d => b ρ (fun e => f d e Q) X) X
def aUn (f : D → (D → Prop) → Prop) (a : AE) : AE := fun ρ Q X => a ρ (fun d => f d Q) X
theorem sim_op {r : R2} {f : D → D → (D → Prop) → Prop} (h : OpD c.K r f) (ha : SimW c ta a) (hb : SimW c tb b) : SimE c (tOp r ta tb) (aOp f a b) := fun U H σ ρ Q q I z k =>
  ha U H σ ρ _ _ I z fun U1 H1 d v g1 I1 w1 z1 => hb U1 H1 σ ρ _ _ I1 z1 fun U2 H2 e w g2 I2 w2 z2 =>
    h U2 H2 v w d e Q q I2.vh ((w1.mono g2.vv).cr I2) (w2.cr I2) z2 fun U3 H3 y u' g3 r3 z3 => k U3 H3 y u' ((g1.trans g2).trans g3.any) (I2.grow g3) r3 z3
theorem sim_opO {r : R2} {f : D → D → (AV → Prop) → Prop} (h : OpO c.K r f) (ha : SimW c ta a) (hb : SimW c tb b) : SimO c (tOp r ta tb) (aOpO f a b) := fun U H σ ρ Q q I z k =>
  ha U H σ ρ _ _ I z fun U1 H1 d v g1 I1 w1 z1 => hb U1 H1 σ ρ _ _ I1 z1 fun U2 H2 e w g2 I2 w2 z2 =>
    h U2 H2 v w d e Q q I2.vh ((w1.mono g2.vv).cr I2) (w2.cr I2) z2 fun U3 H3 y u' g3 r3 n3 z3 => k U3 H3 y u' ((g1.trans g2).trans g3.any) (I2.grow g3) r3 (n3.back fun _ h => (g1.trans g2).fresh h) z3
theorem sim_un {r : V → Hp → VK → Prop} {f : D → (D → Prop) → Prop} (h : UnD c.K r f) (ha : SimW c ta a) : SimE c (tUn r ta) (aUn f a) := fun U H σ ρ Q q I z k =>
  ha U H σ ρ _ _ I z fun U1 H1 d v g1 I1 w1 z1 => h U1 H1 v d Q q I1.vh (w1.cr I1) z1 fun U3 H3 y u' g3 r3 z3 => k U3 H3 y u' (g1.trans g3.any) (I1.grow g3) r3 z3
def aNil : AL := fun _ Q _ => Q []
def aCons (a : AE) (r : AL) : AL := fun ρ Q X => a ρ (fun d => r ρ (fun ds => Q (d :: ds)) X) X
theorem sim_nil : SimL c tNil aNil := fun U H σ ρ Q q I z k => k U H [] [] (Gr.refl I.vh) I rfl z
theorem sim_cons {tr : TA} {r : AL} (ha : SimE c ta a) (hr : SimL c tr r) : SimL c (tCons ta tr) (aCons a r) := fun U H σ ρ Q q I z k =>
  ha U H σ ρ _ _ I z fun U1 H1 d v g1 I1 r1 z1 => hr U1 H1 σ ρ _ _ I1 z1 fun U2 H2 ds vs g2 I2 r2 z2 => k U2 H2 (d :: ds) (v :: vs) (g1.trans g2) I2 ⟨v, vs, rfl, R.mono g2.vv d v r1, r2⟩ z2
theorem sim_nilW : SimLW c tNil aNil := fun U H σ ρ Q q I z k => k U H [] [] (Gr.refl I.vh) I .nil z
theorem sim_consW {tr : TA} {r : AL} (ha : SimW c ta a) (hr : SimLW c tr r) : SimLW c (tCons ta tr) (aCons a r) := fun U H σ ρ Q q I z k =>
  ha U H σ ρ _ _ I z fun U1 H1 d v g1 I1 r1 z1 => hr U1 H1 σ ρ _ _ I1 z1 fun U2 H2 ds vs g2 I2 r2 z2 => k U2 H2 (d :: ds) (v :: vs) (g1.trans g2) I2 (.cons (r1.mono g2.vv) r2) z2
def aArg (a : AE) (r : AA) : AA := fun ρ Q X => a ρ (fun d => r ρ (fun ds => Q (.val d :: ds)) X) X
def aSlot (i : Nat) (r : AA) : AA := fun ρ Q X => match ρ[i]? with
  | some (some .dr) => r ρ (fun ds => Q (.slot i :: ds)) X
  | _ => False
def aArgs : AA := fun _ Q _ => Q []
theorem sim_args : SimA c tNil aArgs := fun U H σ ρ Q q I z k => k U H [] [] (Gr.refl I.vh) I .nil z
theorem sim_arg {tr : TA} {r : AA} (ha : SimE c ta a) (hr : SimA c tr r) : SimA c (tCons ta tr) (aArg a r) := fun U H σ ρ Q q I z k =>
  ha U H σ ρ _ _ I z fun U1 H1 d v g1 I1 r1 z1 => hr U1 H1 σ ρ _ _ I1 z1 fun U2 H2 ds vs g2 I2 r2 z2 => k U2 H2 (.val d :: ds) (v :: vs) (g1.trans g2) I2 (.cons (R.mono g2.vv d v r1) r2) z2
theorem sim_slot {tr : TA} {r : AA} (hr : SimA c tr r) : SimA c (tCons (tVar i) tr) (aSlot i r) := fun U H σ ρ Q q I z k => by
  unfold aSlot at z
  split at z
  · rename_i e0
    obtain ⟨v, e, _⟩ := rep_at I.rep i _ e0
    exact ⟨v, e, hr U H σ ρ _ _ I z fun U2 H2 ds vs g2 I2 r2 z2 => k U2 H2 (.slot i :: ds) (v :: vs) g2 I2 (.cons e r2) z2⟩
  · exact z.elim
theorem R.tup {K : PySem.W.Frag} {p : Addr} {xs : List V} {ds : List D} (h : U p = some (.tup xs)) (r : Rs K U ds xs) : R K U (.tup ds) (.ref p) := ⟨p, xs, rfl, SqT.of h, r⟩
theorem R.lst {K : PySem.W.Frag} {p : Addr} {xs : List V} {ds : List D} (h : U p = some (.lst xs)) (r : Rs K U ds xs) : R K U (.lst ds) (.ref p) := ⟨p, xs, rfl, h, r⟩
theorem le_size {n : Nat} (h : n ≤ 1000000) : n ≤ sizeLine := Nat.le_trans h (by decide)
theorem lt_size {n : Nat} (h : n < 1000000) : n < sizeLine := Nat.lt_of_lt_of_le h (by decide)
def aTup (r : AL) : AE := fun ρ Q X => r ρ (fun ds => ds.length ≤ 1000000 ∧ Q (.tup ds)) X
theorem sim_tup {tr : TA} {r : AL} (hr : SimL c tr r) : SimE c (tTup tr) (aTup r) := fun U H σ ρ Q q I z k =>
  hr U H σ ρ _ _ I z fun U1 H1 ds vs g1 I1 r1 z1 => ⟨le_size (by rw [← r1.len]; exact z1.1), fun p np => by
    have g2 : Gr [] U1 H1 (upd U1 p (.tup vs)) (upd H1 p (.tup vs)) := (Gr.refl I1.vh).new np
    exact k _ _ (.tup ds) (.ref p) (g1.trans g2.any) (I1.grow g2) (R.tup upd_same (Rs.mono g2.vv _ _ r1)) z1.2⟩
def aLst (r : AL) : AO := fun ρ Q X => r ρ (fun ds => ds.length ≤ 1000000 ∧ Q (.ol ds)) X
theorem sim_lst {tr : TA} {r : AL} (hr : SimL c tr r) : SimO c (tLst tr) (aLst r) := fun U H σ ρ Q q I z k =>
  hr U H σ ρ _ _ I z fun U1 H1 ds vs g1 I1 r1 z1 => ⟨le_size (by rw [← r1.len]; exact z1.1), fun p np => by
    have g2 : Gr [] U1 H1 U1 (upd H1 p (.lst vs)) := (Gr.refl I1.vh).newM np
    exact k _ _ (.ol ds) (.ref p) (g1.trans g2.any) (I1.grow g2) ⟨p, vs, rfl, upd_same, r1⟩ (.one rfl (I1.vh.free np) (g1.fresh np)) z1.2⟩
def sealU (U H : Hp) (as : List Addr) : Hp := fun a => if a ∈ as then H a else U a
theorem seal_in {as : List Addr} {p : Addr} (h : p ∈ as) : sealU U H as p = H p := if_pos h
theorem seal_out {as : List Addr} {p : Addr} (h : p ∉ as) : sealU U H as p = U p := if_neg h
theorem seal_same {as : List Addr} (h : ∀ p ∈ as, U p = none) : Same U (sealU U H as) := fun a o e => by
  rw [seal_out fun z => by rw [h a z] at e; cases e]
  exact e
theorem seal_vh {as : List Addr} (s : Same U H) : Same (sealU U H as) H := fun a o e => by
  by_cases z : a ∈ as
  · rw [seal_in z] at e
    exact e
  · rw [seal_out z] at e
    exact s a o e
theorem seal_nt {as : List Addr} (n : NT U) (pl : ∀ p ∈ as, Pl H p) : NT (sealU U H as) := fun a ps e => by
  by_cases z : a ∈ as
  · rw [seal_in z] at e
    obtain ⟨o, e1, e2⟩ := pl a z
    rw [e1] at e
    exact ntb e2 ps (Option.some.inj e)
  · rw [seal_out z] at e
    exact n a ps e
theorem Gr.sealL {M : List Addr} {U0 H0 : Hp} {as : List Addr} (g : Gr M U0 H0 U H) (h : ∀ p ∈ as, U p = none ∧ H0 p = none) (pl : ∀ p ∈ as, Pl H p) : Gr M U0 H0 (sealU U H as) H :=
  ⟨g.vv.trans (seal_same fun p hp => (h p hp).1), seal_vh g.vh, g.hh, g.dom, fun a e k => by
    rw [seal_out fun z => k (h a z).2]
    exact g.fr a e k, g.tb, fun n => seal_nt (g.nt n) pl⟩
theorem DI.sealL {as : List Addr} (I : DI c U H σ ρ) (h : ∀ p ∈ as, U p = none ∧ c.H0 p = none ∧ p ∉ owns ρ σ) (pl : ∀ p ∈ as, Pl H p) : DI c (sealU U H as) H σ ρ := by
  have out : ∀ q ∈ owns ρ σ, sealU U H as q = none := fun q hq => by
    rw [seal_out fun z => (h q z).2.2 hq]
    exact (I.out q hq).1
  exact ⟨I.gr.sealL (fun p hp => ⟨(h p hp).1, (h p hp).2.1⟩) pl, reps_keep (seal_same fun p hp => (h p hp).1) (fun q hq => ⟨rfl, out q hq⟩) I.rep, I.nd, fun q hq => ⟨out q hq, (I.out q hq).2⟩, I.par, I.ko, I.ow, I.on⟩
mutual
theorem RepA.frozen {K : PySem.W.Frag} {as : List Addr} (n : ∀ p ∈ as, U p = none) : ∀ (av : AV) (v : V) (d : D), RepA K U H av v → av.frz = some d → (∀ p ∈ own av v, p ∈ as) → R K (sealU U H as) d v
  | .fz d', v, d, h, e, _ => by
    cases e
    exact R.mono (seal_same n) d' v h
  | .ol ds, _, d, ⟨p, xs, e1, h, r⟩, e, k => by
    cases e
    subst e1
    exact ⟨p, xs, rfl, by rw [seal_in (k p (List.mem_singleton.mpr rfl))]; exact h, Rs.mono (seal_same n) _ _ r⟩
  | .ok ks ds, _, d, ⟨p, xs, e1, h, l, r⟩, e, k => by
    cases e
    subst e1
    exact ⟨p, xs, rfl, by rw [seal_in (k p (List.mem_singleton.mpr rfl))]; exact h, l, Rs.mono (seal_same n) _ _ r⟩
  | .ot ks ds, _, d, ⟨p, xs, e1, h, l, r⟩, e, k => by
    cases e
    subst e1
    exact ⟨p, xs, rfl, by rw [seal_in (k p (List.mem_singleton.mpr rfl))]; exact h, l, Rs.mono (seal_same n) _ _ r⟩
  | .dr, _, d, _, e, _ => by cases e
  | .on ws bs, _, d, ⟨p, e1, h, r⟩, e, k => by
    subst e1
    unfold AV.frz at e
    cases eb : frzs bs with
    | none => rw [eb] at e; cases e
    | some ds =>
      rw [eb] at e
      cases e
      exact ⟨p, ws, rfl, by rw [seal_in (k p List.mem_cons_self)]; exact h, RepAs.frozen n bs ws ds r eb fun q hq => k q (List.mem_cons_of_mem _ hq)⟩
  | .ob C dx ns ws bs, _, d, ⟨p, e1, h, l, r⟩, e, k => by
    subst e1
    unfold AV.frz at e
    cases eb : frzs bs with
    | none => rw [eb] at e; cases e
    | some ds =>
      rw [eb] at e
      cases e
      exact ⟨p, dx, ws, rfl, by rw [seal_in (k p List.mem_cons_self)]; exact h, l, RepAs.frozen n bs ws ds r eb fun q hq => k q (List.mem_cons_of_mem _ hq)⟩
  | .ut ws bs, _, d, ⟨p, e1, h, r⟩, e, k => by
    subst e1
    unfold AV.frz at e
    cases eb : frzs bs with
    | none => rw [eb] at e; cases e
    | some ds =>
      rw [eb] at e
      cases e
      exact ⟨p, ws, rfl, Same.tup (seal_same n) h, RepAs.frozen n bs ws ds r eb k⟩
  | .un, _, d, _, e, _ => by cases e
theorem RepAs.frozen {K : PySem.W.Frag} {as : List Addr} (n : ∀ p ∈ as, U p = none) : ∀ (bs : List AV) (vs : List V) (ds : List D), RepAs K U H bs vs → frzs bs = some ds → (∀ p ∈ ownAs bs vs, p ∈ as) → Rs K (sealU U H as) ds vs
  | [], vs, ds, h, e, _ => by
    cases e
    exact h
  | b :: bs, _, ds, ⟨v, r, e1, h1, h2⟩, e, k => by
    subst e1
    unfold frzs at e
    cases ea : b.frz with
    | none => rw [ea] at e; cases e
    | some d =>
      rw [ea] at e
      cases eb : frzs bs with
      | none => rw [eb] at e; cases e
      | some es =>
        rw [eb] at e
        cases e
        exact ⟨v, r, rfl, RepA.frozen n b v d h1 ea fun q hq => k q (List.mem_append_left _ hq), RepAs.frozen n bs r es h2 eb fun q hq => k q (List.mem_append_right _ hq)⟩
end
theorem freeze {M : List Addr} {av : AV} {d : D} {V H0' : Hp} (I0 : DI c V H0' σ ρ) (g : Gr M V H0' U H) (I : DI c U H σ ρ) (r : RepA c.K U H av v) (n : Fresh U H0' av v) (f : av.frz = some d) :
    ∃ U', Gr M V H0' U' H ∧ DI c U' H σ ρ ∧ R c.K U' d v ∧ Same U U' :=
  ⟨sealU U H (own av v), g.sealL n.out (own_pl av v r), I.sealL (fun p hp => ⟨(n.out p hp).1, I0.gr.fresh (n.out p hp).2, fun z => I0.ex p z (n.out p hp).2⟩) (own_pl av v r), RepA.frozen (fun p hp => (n.out p hp).1) av v d r f fun _ h => h, seal_same fun p hp => (n.out p hp).1⟩
def frzQ (Q : D → Prop) : AV → Prop
  | .fz d => Q d
  | .ol ds => Q (.lst ds)
  | .ok ks ds => Q (.dK ks ds)
  | .ot ks ds => Q (.dT ks ds)
  | .dr => False
  | .on ws as => ∃ ds, frzs as = some ds ∧ Q (.lst ds)
  | .ob C _ ns _ as => ∃ ds, frzs as = some ds ∧ Q (.obj C ns ds)
  | .ut _ as => ∃ ds, frzs as = some ds ∧ Q (.tup ds)
  | .un => False
theorem frzQ_some {Q : D → Prop} {av : AV} (h : frzQ Q av) : ∃ d, av.frz = some d ∧ Q d := by
  cases av with
  | on ws as =>
    obtain ⟨ds, e, q⟩ := h
    exact ⟨.lst ds, by unfold AV.frz; rw [e]; rfl, q⟩
  | ob C dx ns ws as =>
    obtain ⟨ds, e, q⟩ := h
    exact ⟨.obj C ns ds, by unfold AV.frz; rw [e]; rfl, q⟩
  | ut ws as =>
    obtain ⟨ds, e, q⟩ := h
    exact ⟨.tup ds, by unfold AV.frz; rw [e]; rfl, q⟩
  | _ => first | exact ⟨_, rfl, h⟩ | exact h.elim
def aFz (e : AO) : AE := fun ρ Q X => e ρ (frzQ Q) X
theorem sim_fz {e : AO} (h : SimO c t e) : SimE c t (aFz e) := fun U H σ ρ Q q I z k =>
  h U H σ ρ _ _ I z fun U1 H1 av v g1 I1 r1 n1 z1 => by
    obtain ⟨d, f, z2⟩ := frzQ_some z1
    obtain ⟨U2, g2, I2, r2, _⟩ := freeze I g1 I1 r1 n1 f
    exact k U2 H1 d v g2 I2 r2 z2
def aUp (e : AE) : AO := fun ρ Q X => e ρ (fun d => Q (.fz d)) X
def blQ (Q : Bool → Prop) : D → Prop
  | .bl b => Q b
  | _ => False
theorem blQ_of {Q : Bool → Prop} {d : D} (h : blQ Q d) : ∃ b, d = .bl b ∧ Q b := by
  cases d <;> first | exact ⟨_, rfl, h⟩ | exact h.elim
def aTest (e : AE) : AT := fun ρ Q X => e ρ (blQ Q) X
theorem sim_test (h : SimW c t e) : SimT c (tTest t) (aTest e) := fun U H σ ρ Q q I z k =>
  h U H σ ρ _ _ I z fun U1 H1 d v g1 I1 r1 z1 => by
    obtain ⟨b, rfl, z2⟩ := blQ_of z1
    exact ⟨b, (r1.cr I1).bl, k U1 H1 b g1 I1 z2⟩
def aNot (e : AT) : AT := fun ρ Q X => e ρ (fun b => Q (!b)) X
def aAnd (a b : AT) : AT := fun ρ Q X => a ρ (fun x => cond x (b ρ Q X) (Q false)) X
def aOr (a b : AT) : AT := fun ρ Q X => a ρ (fun x => cond x (Q true) (b ρ Q X)) X
theorem sim_not {t : TT} {e : AT} (h : SimT c t e) : SimT c (tNot t) (aNot e) := fun U H σ ρ Q q I z k => h U H σ ρ _ _ I z fun U1 H1 b g1 I1 z1 => k U1 H1 _ g1 I1 z1
theorem sim_and {t u : TT} {e f : AT} (h : SimT c t e) (h2 : SimT c u f) : SimT c (tAnd t u) (aAnd e f) := fun U H σ ρ Q q I z k =>
  h U H σ ρ _ _ I z fun U1 H1 b g1 I1 z1 => by
    cases b with
    | true => exact i_itT (h2 U1 H1 σ ρ _ _ I1 z1 fun U2 H2 b' g2 I2 z2 => k U2 H2 b' (g1.trans g2) I2 z2)
    | false => exact i_itF (k U1 H1 false g1 I1 z1)
theorem sim_or {t u : TT} {e f : AT} (h : SimT c t e) (h2 : SimT c u f) : SimT c (tOr t u) (aOr e f) := fun U H σ ρ Q q I z k =>
  h U H σ ρ _ _ I z fun U1 H1 b g1 I1 z1 => by
    cases b with
    | false => exact i_itF (h2 U1 H1 σ ρ _ _ I1 z1 fun U2 H2 b' g2 I2 z2 => k U2 H2 b' (g1.trans g2) I2 z2)
    | true => exact i_itT (k U1 H1 true g1 I1 z1)
def aAndV (a b : AE) : AE := fun ρ Q X => a ρ (blQ fun x => cond x (b ρ Q X) (Q (.bl false))) X
def aOrV (a b : AE) : AE := fun ρ Q X => a ρ (blQ fun x => cond x (Q (.bl true)) (b ρ Q X)) X
def aNotV (a : AE) : AE := fun ρ Q X => a ρ (blQ fun x => Q (.bl (!x))) X
def aIfE (t : AT) (a b : AE) : AE := fun ρ Q X => t ρ (fun x => cond x (a ρ Q X) (b ρ Q X)) X
theorem sim_andV (ha : SimW c ta a) (hb : SimE c tb b) : SimE c (tAndV ta tb) (aAndV a b) := fun U H σ ρ Q q I z k =>
  ha U H σ ρ _ _ I z fun U1 H1 d v g1 I1 r1 z1 => by
    obtain ⟨x, rfl, z2⟩ := blQ_of z1
    refine ⟨x, (r1.cr I1).bl, ?_⟩
    cases x with
    | true => exact i_itT (hb U1 H1 σ ρ _ _ I1 z2 fun U2 H2 d' v' g2 I2 r2 z3 => k U2 H2 d' v' (g1.trans g2) I2 r2 z3)
    | false => exact i_itF (k U1 H1 (.bl false) _ g1 I1 rfl z2)
theorem sim_notV (ha : SimW c ta a) : SimE c (tNotV ta) (aNotV a) := fun U H σ ρ Q q I z k =>
  ha U H σ ρ _ _ I z fun U1 H1 d v g1 I1 r1 z1 => by
    obtain ⟨x, rfl, z2⟩ := blQ_of z1
    exact ⟨x, (r1.cr I1).bl, k U1 H1 (.bl (!x)) _ g1 I1 rfl z2⟩
def aChain (f g : D → D → (D → Prop) → Prop) (a b e : AE) : AE := fun ρ Q X => a ρ (fun x => b ρ (fun y => f x y (blQ fun k => cond k (e ρ (fun z => g y z Q) X) (Q (.bl false)))) X) X
def aCB (f : List D → (D → Prop) → Prop) (r : AL) : AE := fun ρ Q X => r ρ (fun ds => f ds Q) X
def aCBO (f : List D → (AV → Prop) → Prop) (r : AL) : AO := fun ρ Q X => r ρ (fun ds => f ds Q) X
theorem wks_cr {ds : List D} {vs : List V} (I : DI c U H σ ρ) (h : Paired (Wk c.K U σ ρ) ds vs) : Paired (CR c.K U H) ds vs := Paired.imp (fun _ _ w => Wk.cr w I) h
theorem sim_cb {r : List V → Hp → VK → Prop} {f : List D → (D → Prop) → Prop} {tr : TA} {al : AL} (h : BuD c.K r f) (hr : SimLW c tr al) : SimE c (tCB r tr) (aCB f al) := fun U H σ ρ Q q I z k =>
  hr U H σ ρ _ _ I z fun U1 H1 ds vs g1 I1 w1 z1 => h U1 H1 vs ds Q q I1.vh (wks_cr I1 w1) z1 fun U3 H3 y u' g3 r3 z3 => k U3 H3 y u' (g1.trans g3.any) (I1.grow g3) r3 z3
theorem sim_cbO {r : List V → Hp → VK → Prop} {f : List D → (AV → Prop) → Prop} {tr : TA} {al : AL} (h : BuO c.K r f) (hr : SimLW c tr al) : SimO c (tCB r tr) (aCBO f al) := fun U H σ ρ Q q I z k =>
  hr U H σ ρ _ _ I z fun U1 H1 ds vs g1 I1 w1 z1 => h U1 H1 vs ds Q q I1.vh (wks_cr I1 w1) z1 fun U3 H3 y u' g3 r3 n3 z3 => k U3 H3 y u' (g1.trans g3.any) (I1.grow g3) r3 (n3.back fun _ h => g1.fresh h) z3
def lookD (f : Str) : List Str → List D → Option D
  | n :: ns, d :: ds => if f == n then some d else lookD f ns ds
  | _, _ => none
theorem look_of {K : PySem.W.Frag} {f : Str} : ∀ {ns : List Str} {ds : List D} {xs : List V} {d : D}, Rs K U ds xs → ns.length = xs.length → lookD f ns ds = some d → ∃ v, (ns.zip xs).lookup f = some v ∧ R K U d v
  | [], ds, xs, d, h, l, e => by simp [lookD] at e
  | n :: ns, [], xs, d, h, l, e => by simp [lookD] at e
  | n :: ns, y :: ds, _, d, ⟨v, r, h1, h2, h3⟩, l, e => by
    subst h1
    unfold lookD at e
    rw [List.zip_cons_cons, List.lookup_cons]
    cases hb : f == n with
    | true =>
      rw [hb, if_pos rfl] at e
      cases e
      exact ⟨v, rfl, h2⟩
    | false =>
      rw [hb, if_neg Bool.false_ne_true] at e
      exact look_of h3 (Nat.succ.inj l) e
def fldQ (C : Addr) (f : Str) (Q : D → Prop) : D → Prop
  | .obj C' ns ds => C' = C ∧ (match lookD f ns ds with | some d => Q d | none => False)
  | _ => False
theorem fldQ_of {C : Addr} {f : Str} {Q : D → Prop} {d : D} (h : fldQ C f Q d) : ∃ ns ds z, d = .obj C ns ds ∧ lookD f ns ds = some z ∧ Q z := by
  cases d with
  | obj C' ns ds =>
    obtain ⟨rfl, h⟩ := h
    cases e : lookD f ns ds with
    | none => rw [e] at h; exact h.elim
    | some z => rw [e] at h; exact ⟨ns, ds, z, rfl, e, h⟩
  | _ => exact h.elim
def aFld (C : Addr) (f : Str) (a : AE) : AE := fun ρ Q X => a ρ (fldQ C f Q) X
theorem sim_fld {C : Addr} {f : Str} (hc : Cls c.K C) (hn : NoAttr c.K C f) (ha : SimW c ta a) : SimE c (tFld c.K ta f) (aFld C f a) := fun U H σ ρ Q q I z k =>
  ha U H σ ρ _ _ I z fun U1 H1 d v g1 I1 w1 z1 => by
    obtain ⟨ns, ds, y, rfl, e, z2⟩ := fldQ_of z1
    obtain ⟨p, dx, xs, rfl, hp, hl, hrs⟩ := (w1.cr I1).obj I1.vh
    obtain ⟨w, e1, r1⟩ := look_of hrs hl e
    exact ⟨p, C, dx, _, w, rfl, hp, hc, hn, e1, k U1 H1 y w g1 I1 r1 z2⟩
end
end SW
namespace SW
open PySem PySem.Spec PyProof.Rows L2
variable [QN]
theorem reps_step {K : PySem.W.Frag} {M : List Addr} {U H U' H' : Hp} (g : Gr M U H U' H') : ∀ {ρ : Env} {σ : L2.St}, Paired (RepS K U H) ρ σ → (owns ρ σ).Nodup → (∀ p ∈ owns ρ σ, U p = none) → (∀ p ∈ M, p ∈ owns ρ σ → p ∈ drs ρ σ ∧ Dr U' H' p) → Paired (RepS K U' H') ρ σ
  | _, _, .nil, _, _, _ => .nil
  | x :: ρ, y :: σ, .cons h t, nd, hu, hM => by
    have nd' : (ownS x y ++ owns ρ σ).Nodup := nd
    obtain ⟨n1, n2, n3⟩ := List.nodup_append.mp nd'
    refine .cons ?_ (reps_step g t n2 (fun p hp => hu p (List.mem_append_right _ hp)) fun p hp ho => ?_)
    · cases x with
      | none => trivial
      | some av =>
        cases y with
        | none => exact h.elim
        | some v =>
          by_cases hdr : drS (some av) (some v) = []
          · refine RepA.keep g.vv av v (fun p hp => ⟨keep_at g (own_pl av v h p hp) (fun hpM => ?_), g.fr p (hu p (List.mem_append_left _ hp)) (own_some av v h p hp)⟩) h
            have k := (hM p hpM (List.mem_append_left _ hp)).1
            have k' : p ∈ drS (some av) (some v) ++ drs ρ σ := k
            rw [hdr, List.nil_append] at k'
            exact n3 p hp p (drs_sub p k') rfl
          · cases av with
            | dr =>
              obtain ⟨s, rfl, e⟩ := h
              by_cases hs : s ∈ M
              · exact ⟨s, rfl, (hM s hs (List.mem_append_left _ (List.mem_singleton.mpr rfl))).2⟩
              · exact ⟨s, rfl, e.gr g hs⟩
            | _ => exact absurd rfl hdr
    · obtain ⟨k, k2⟩ := hM p hp (List.mem_append_right _ ho)
      have k' : p ∈ drS x y ++ drs ρ σ := k
      rcases List.mem_append.mp k' with z | z
      · refine absurd rfl (n3 p ?_ p ho)
        unfold drS at z
        split at z
        · exact z
        · cases z
      · exact ⟨z, k2⟩
section
variable {c : DC} {U H U' H' : Hp} {σ : L2.St} {ρ : Env} {t u ta tb tc : TE} {e a b : AE} {i j : Nat} {d : D} {v : V}
theorem DI.step {M : List Addr} (I : DI c U H σ ρ) (g : Gr M U H U' H') (hM : ∀ p ∈ M, p ∈ drs ρ σ ∧ Dr U' H' p) : DI c U' H' σ ρ := by
  refine ⟨⟨I.gr.vv.trans g.vv, g.vh, fun x o m nn h => ?_, fun x h => g.dom x (I.gr.dom x h), fun x h k => g.fr x (I.gr.fr x h k) (I.gr.dom x k), fun P h => g.tb P (I.gr.tb P h), fun h => g.nt (I.gr.nt h)⟩, reps_step g I.rep I.nd (fun p hp => (I.out p hp).1) fun p hp _ => hM p hp, I.nd, fun p hp => ⟨g.fr p (I.out p hp).1 (I.ex p hp), (I.out p hp).2⟩, I.par, I.ko, I.ow, I.on⟩
  refine g.hh x o (fun z => ?_) nn (I.gr.hh x o m nn h)
  rcases (I.out x (drs_sub x (hM x z).1)).2 with k | k
  · exact m k
  · rw [k] at h
    cases h
abbrev AF := List AV → (AV → Prop) → (Exn → Prop) → Prop
/-- the promise of a def that changes nothing but the law's draws -/
def spD (K : PySem.W.Frag) (tb : List Addr) (A : AF) : Sp := fun vs H Q E => ∃ (U : Hp) (avs : List AV) (q : AV → Prop) (x : Exn → Prop), Same U H ∧ TbOk tb U H ∧ Paired (RepA K U H) avs vs ∧ (∀ a ∈ avs, a = .dr ∨ ∃ d, a = .fz d) ∧ (ownAs avs vs).length ≤ 1 ∧ A avs q x ∧
  (∀ U' H' av v, Gr (ownAs avs vs) U H U' H' → RepA K U' H' av v → Fresh U' H av v → (∀ p ∈ ownAs avs vs, Dr U' H' p) → q av → Q v H') ∧
  (∀ U' H' ex cls o, Gr (ownAs avs vs) U H U' H' → XRep K U' H' ex cls o → (∀ p ∈ ownAs avs vs, Dr U' H' p) → x ex → E cls o H')
def argAV (ρ : Env) : Arg → Option AV
  | .val d => some (.fz d)
  | .slot i => match ρ[i]? with
    | some (some .dr) => some .dr
    | _ => none
def argsAV (ρ : Env) : List Arg → Option (List AV)
  | [] => some []
  | a :: as => match argAV ρ a, argsAV ρ as with
    | some x, some xs => some (x :: xs)
    | _, _ => none
def slots : List Arg → Nat
  | [] => 0
  | .slot _ :: as => slots as + 1
  | _ :: as => slots as
theorem mem_drs : ∀ {ρ : Env} {σ : L2.St} {i : Nat} {p : Addr}, ρ[i]? = some (some .dr) → σ[i]? = some (some (.ref p)) → p ∈ drs ρ σ
  | [], _, i, p, h, k => by simp at h
  | _ :: _, [], i, p, h, k => by simp at k
  | x :: ρ, y :: σ, 0, p, h, k => by
    have h' := Option.some.inj h
    have k' := Option.some.inj k
    subst h' k'
    exact List.mem_append_left _ (List.mem_singleton.mpr rfl)
  | x :: ρ, y :: σ, i + 1, p, h, k => List.mem_append_right _ (mem_drs (ρ := ρ) (σ := σ) h k)
theorem args_rep (I : DI c U H σ ρ) : ∀ {as : List Arg} {vs : List V} {avs : List AV}, Paired (ArgR c.K U σ) as vs → argsAV ρ as = some avs → Paired (RepA c.K U H) avs vs ∧ (∀ p ∈ ownAs avs vs, p ∈ drs ρ σ) ∧ (ownAs avs vs).length = slots as
  | _, _, avs, .nil, e => by
    cases e
    exact ⟨.nil, fun p hp => (by cases hp), rfl⟩
  | a :: as, v :: vs, avs, .cons h t, e => by
    unfold argsAV at e
    cases ea : argAV ρ a with
    | none => rw [ea] at e; cases e
    | some x =>
      rw [ea] at e
      cases es : argsAV ρ as with
      | none => rw [es] at e; cases e
      | some xs =>
        rw [es] at e
        cases e
        obtain ⟨k1, k2, k3⟩ := args_rep I t es
        cases a with
        | val d =>
          cases ea
          exact ⟨.cons h k1, k2, k3⟩
        | slot i =>
          unfold argAV at ea
          dsimp only at ea
          split at ea
          · rename_i hρ
            cases ea
            obtain ⟨w, e1, e2, _⟩ := rep_at I.rep i _ hρ
            have hσ : σ[i]? = some (some v) := h
            rw [hσ] at e1
            have e' := Option.some.inj (Option.some.inj e1)
            subst e'
            obtain ⟨s, rfl, hd⟩ := id e2
            refine ⟨.cons e2 k1, fun p hp => ?_, ?_⟩
            · rcases List.mem_append.mp hp with z | z
              · rw [List.mem_singleton.mp z]
                exact mem_drs hρ hσ
              · exact k2 p z
            · show (own .dr (.ref s) ++ ownAs xs vs).length = slots as + 1
              rw [List.length_append, k3]
              show 1 + _ = _
              omega
          · cases ea
theorem dr_args {K : PySem.W.Frag} : ∀ {avs : List AV} {vs : List V}, Paired (RepA K U H) avs vs → (∀ a ∈ avs, a = .dr ∨ ∃ d, a = .fz d) → ∀ p ∈ ownAs avs vs, Dr U H p
  | _, _, .nil, _, p, hp => by cases hp
  | a :: as, v :: vs, .cons h t, k, p, hp => by
    rcases List.mem_append.mp hp with z | z
    · rcases k a List.mem_cons_self with rfl | ⟨d, rfl⟩
      · obtain ⟨s, rfl, hd⟩ := h
        rw [List.mem_singleton.mp z]
        exact hd
      · cases z
    · exact dr_args t (fun x hx => k x (List.mem_cons_of_mem _ hx)) p z
theorem args_kind : ∀ {as : List Arg} {avs : List AV}, argsAV ρ as = some avs → ∀ a ∈ avs, a = .dr ∨ ∃ d, a = .fz d
  | [], avs, e, a, ha => by cases e; cases ha
  | y :: as, avs, e, a, ha => by
    unfold argsAV at e
    cases ea : argAV ρ y with
    | none => rw [ea] at e; cases e
    | some x =>
      rw [ea] at e
      cases es : argsAV ρ as with
      | none => rw [es] at e; cases e
      | some xs =>
        rw [es] at e
        cases e
        rcases List.mem_cons.mp ha with rfl | ha
        · cases y with
          | val d => cases ea; exact .inr ⟨d, rfl⟩
          | slot i =>
            unfold argAV at ea
            dsimp only at ea
            split at ea
            · cases ea; exact .inl rfl
            · cases ea
        · exact args_kind es a ha
def callQ (A : AF) (ρ : Env) (Q : AV → Prop) (X : Exn → Prop) (as : List Arg) : Prop := slots as ≤ 1 ∧ match argsAV ρ as with
  | some avs => A avs Q X
  | none => False
theorem callQ_of {A : AF} {Q : AV → Prop} {X : Exn → Prop} {as : List Arg} (h : callQ A ρ Q X as) : slots as ≤ 1 ∧ ∃ avs, argsAV ρ as = some avs ∧ A avs Q X := by
  obtain ⟨h1, h2⟩ := h
  refine ⟨h1, ?_⟩
  cases e : argsAV ρ as with
  | none => rw [e] at h2; exact h2.elim
  | some avs => rw [e] at h2; exact ⟨avs, rfl, h2⟩
/-- the promise of a def, called where DI stands -/
theorem run_spD {A : AF} {as : List Arg} {vs : List V} {Q : AV → Prop} {q : VK} {E : XK} {X : Exn → Prop} (I : DI c U H σ ρ) (r : Paired (ArgR c.K U σ) as vs) (h : callQ A ρ Q X as)
    (k : ∀ U' H' av v, Gr (drs ρ σ) U H U' H' → DI c U' H' σ ρ → RepA c.K U' H' av v → Fresh U' H av v → Q av → q v H')
    (kx : ∀ U' H' x cls o, DI c U' H' σ ρ → XRep c.K U' H' x cls o → X x → E cls o H') : spD c.K c.tb A vs H q E := by
  obtain ⟨h1, avs, h2, h3⟩ := callQ_of h
  obtain ⟨k1, k2, k3⟩ := args_rep I r h2
  have kd := args_kind h2
  refine ⟨U, avs, Q, X, I.vh, I.tbs, k1, kd, by omega, h3, fun U' H' av v g r' n hd z => ?_, fun U' H' x cls o g xr hd z => ?_⟩
  · exact k U' H' av v (g.weak k2) (I.step g fun p hp => ⟨k2 p hp, hd p hp⟩) r' n z
  · exact kx U' H' x cls o (I.step g fun p hp => ⟨k2 p hp, hd p hp⟩) xr z
def aCall (A : AF) (r : AA) : AO := fun ρ Q X => r ρ (callQ A ρ Q X) X
def aCall0 (A : AF) (r : AA) : AO := fun ρ Q X => r ρ (callQ A ρ Q fun _ => False) X
section
variable {A : AF} {tr tk : TA} {r rk : AA}
theorem sim_call {E : XK} (hr : SimA c tr r) : SimO c (tCall (spD c.K c.tb A) [] E tr) (aCall0 A r) := fun U H σ ρ Q q I z k =>
  hr U H σ ρ _ _ I z fun U1 H1 as vs g1 I1 r1 z1 => by
    rw [List.append_nil]
    exact run_spD I1 r1 z1 (fun U2 H2 av v g2 I2 r2 n2 z2 => k U2 H2 av v (g1.trans g2) I2 r2 (n2.back fun _ h => g1.fresh h) z2) (fun _ _ _ _ _ _ _ z => z.elim)
end
section
variable {st su : TS} {sa sb : AS} {tt : TT} {at' : AT} {o : AO}
def aNext : AS := fun N ρ => N.nx ρ
def aSeq (a b : AS) : AS := fun N ρ => a ⟨fun ρ' => b N ρ', N.rt, N.bk, N.ct, N.ex⟩ ρ
def aSet (i : Nat) (e : AE) : AS := fun N ρ => e ρ (fun d => N.nx (ρ.set i (some (.fz d)))) (fun x => N.ex x ρ)
def aSetO (i : Nat) (e : AO) : AS := fun N ρ => e ρ (fun av => N.nx (ρ.set i (some av))) (fun x => N.ex x ρ)
def aDrop (e : AE) : AS := fun N ρ => e ρ (fun _ => N.nx ρ) (fun x => N.ex x ρ)
def aRet (e : AE) : AS := fun N ρ => e ρ (fun d => N.rt (.fz d) ρ) (fun x => N.ex x ρ)
def aRetO (e : AO) : AS := fun N ρ => e ρ (fun av => N.rt av ρ) (fun x => N.ex x ρ)
def aRetN : AS := fun N ρ => N.rt (.fz .non) ρ
def aRetV (i : Nat) : AS := fun N ρ => match ρ[i]? with
  | some (some .dr) => False
  | some (some av) => N.rt av (ρ.set i none)
  | _ => False
def aIf (t : AT) (a b : AS) : AS := fun N ρ => t ρ (fun x => cond x (a N ρ) (b N ρ)) (fun x => N.ex x ρ)
def aBrk : AS := fun N ρ => N.bk ρ
def aCnt : AS := fun N ρ => N.ct ρ
def aRaise (C : Addr) : AS := fun N ρ => N.ex ⟨C, [], []⟩ ρ
theorem sim_next : SimS c tNext aNext := fun U H σ ρ N n hx I h P => P.nx U H σ ρ (Same.refl U) I h
theorem sim_seq (ha : SimS c st sa) (hb : SimS c su sb) : SimS c (tSeq st su) (aSeq sa sb) := fun U H σ ρ N n hx I h P =>
  ha U H σ ρ ⟨fun ρ' => sb N ρ', N.rt, N.bk, N.ct, N.ex⟩ _ hx I h ⟨fun U' H' σ' ρ' s I' h' => hb U' H' σ' ρ' N n hx I' h' (P.mono s), P.rt, P.bk, P.ct⟩
theorem sim_set (hi : noPar c i = true) (h : SimE c t e) : SimS c (tAsg t (gName i)) (aSet i e) := fun U H σ ρ N n hx I z P => by
  unfold aSet at z
  rw [hx] at z
  exact h U H σ ρ _ _ I z fun U1 H1 d v g1 I1 r1 z1 => P.nx U1 H1 _ _ g1.vv (I1.setF r1 hi) z1
theorem sim_setO (hi : noPar c i = true) (h : SimO c t o) : SimS c (tAsg t (gName i)) (aSetO i o) := fun U H σ ρ N n hx I z P => by
  unfold aSetO at z
  rw [hx] at z
  exact h U H σ ρ _ _ I z fun U1 H1 av v g1 I1 r1 n1 z1 => P.nx U1 H1 _ _ g1.vv (I1.setO r1 n1.nd (fun p hp => ⟨(n1.out p hp).1, I.gr.fresh (n1.out p hp).2, fun z => I.ex p z (n1.out p hp).2⟩) hi) z1
theorem sim_drop (h : SimE c t e) : SimS c (tDrop t) (aDrop e) := fun U H σ ρ N n hx I z P => by
  unfold aDrop at z
  rw [hx] at z
  exact h U H σ ρ _ _ I z fun U1 H1 d v g1 I1 r1 z1 => P.nx U1 H1 _ _ g1.vv I1 z1
theorem sim_ret (h : SimE c t e) : SimS c (tRet t) (aRet e) := fun U H σ ρ N n hx I z P => by
  unfold aRet at z
  rw [hx] at z
  exact h U H σ ρ _ _ I z fun U1 H1 d v g1 I1 r1 z1 => P.rt U1 H1 σ ρ (.fz d) v I1 r1 (Fresh.fz (U' := U1) (H := H1)).nd (fun p hp => by cases v <;> cases hp) z1
theorem sim_retO (h : SimO c t o) : SimS c (tRet t) (aRetO o) := fun U H σ ρ N n hx I z P => by
  unfold aRetO at z
  rw [hx] at z
  exact h U H σ ρ _ _ I z fun U1 H1 av v g1 I1 r1 n1 z1 => P.rt U1 H1 σ ρ av v I1 r1 n1.nd (fun p hp => ⟨(n1.out p hp).1, I.gr.fresh (n1.out p hp).2, fun z => I.ex p z (n1.out p hp).2⟩) z1
theorem sim_if (ht : SimT c tt at') (ha : SimS c st sa) (hb : SimS c su sb) : SimS c (tIfS tt st su) (aIf at' sa sb) := fun U H σ ρ N n hx I z P => by
  unfold aIf at z
  rw [hx] at z
  refine ht U H σ ρ _ _ I z fun U1 H1 x g1 I1 z1 => ?_
  cases x with
  | true => exact i_itT (ha U1 H1 σ ρ N n hx I1 z1 (P.mono g1.vv))
  | false => exact i_itF (hb U1 H1 σ ρ N n hx I1 z1 (P.mono g1.vv))
/-- a slot is let go -/
theorem DI.unset (I : DI c U H σ ρ) (i : Nat) (hi : noPar c i = true) : DI c U H σ (ρ.set i none) := by
  have e : ∀ (ρ : Env) (σ : L2.St) (i : Nat), Paired (RepS c.K U H) ρ σ → Paired (RepS c.K U H) (ρ.set i none) σ ∧ (owns (ρ.set i none) σ).Sublist (owns ρ σ) := by
    intro ρ
    induction ρ with
    | nil => intro σ i h; exact ⟨h, List.Sublist.refl _⟩
    | cons x ρ ih =>
      intro σ i h
      cases h with
      | @cons _ y _ σ h t =>
        cases i with
        | zero =>
          refine ⟨.cons trivial t, ?_⟩
          show (ownS none y ++ owns ρ σ).Sublist (ownS x y ++ owns ρ σ)
          exact List.sublist_append_right _ _
        | succ i =>
          obtain ⟨k1, k2⟩ := ih σ i t
          refine ⟨.cons h k1, ?_⟩
          show (ownS x y ++ owns (ρ.set i none) σ).Sublist (ownS x y ++ owns ρ σ)
          exact List.Sublist.append_left k2 _
  obtain ⟨k1, k2⟩ := e ρ σ i I.rep
  exact ⟨I.gr, k1, k2.nodup I.nd, fun p hp => I.out p (k2.mem hp), par_set rfl (sel_set _ _ _ _ (noPar_of hi)) I.par, I.ko, fun k av w e1 e2 p hp => I.ow k av w (by
    rw [List.getElem?_set] at e1
    split at e1
    · split at e1 <;> simp at e1
    · exact e1) e2 p hp, I.on⟩
/-- it is in no other slot -/
theorem own_unset : ∀ {ρ : Env} {σ : L2.St} {i : Nat} {av : AV} {v : V}, (owns ρ σ).Nodup → ρ[i]? = some (some av) → σ[i]? = some (some v) → ∀ p ∈ own av v, p ∉ owns (ρ.set i none) σ
  | [], _, i, av, v, nd, h, k, p, hp => by simp at h
  | _ :: _, [], i, av, v, nd, h, k, p, hp => by simp at k
  | x :: ρ, y :: σ, 0, av, v, nd, h, k, p, hp => by
    have h' := Option.some.inj h
    have k' := Option.some.inj k
    subst h' k'
    intro z
    have z' : p ∈ ([] : List Addr) ++ owns ρ σ := z
    have nd' : (own av v ++ owns ρ σ).Nodup := nd
    exact (List.nodup_append.mp nd').2.2 p hp p z' rfl
  | x :: ρ, y :: σ, i + 1, av, v, nd, h, k, p, hp => by
    intro z
    have nd' : (ownS x y ++ owns ρ σ).Nodup := nd
    obtain ⟨n1, n2, n3⟩ := List.nodup_append.mp nd'
    have z' : p ∈ ownS x y ++ owns (ρ.set i none) σ := z
    rcases List.mem_append.mp z' with z' | z'
    · exact n3 p z' p (mem_owns (ρ := ρ) (σ := σ) h k p hp) rfl
    · exact own_unset n2 h k p hp z'
theorem own_nd : ∀ {ρ : Env} {σ : L2.St} {i : Nat} {av : AV} {v : V}, (owns ρ σ).Nodup → ρ[i]? = some (some av) → σ[i]? = some (some v) → (own av v).Nodup
  | [], _, i, av, v, nd, h, k => by simp at h
  | _ :: _, [], i, av, v, nd, h, k => by simp at k
  | x :: ρ, y :: σ, 0, av, v, nd, h, k => by
    have h' := Option.some.inj h
    have k' := Option.some.inj k
    subst h' k'
    exact (List.nodup_append.mp (show (own av v ++ owns ρ σ).Nodup from nd)).1
  | x :: ρ, y :: σ, i + 1, av, v, nd, h, k => own_nd (List.nodup_append.mp (show (ownS x y ++ owns ρ σ).Nodup from nd)).2.1 h k
theorem sim_retV (hi : noPar c i = true) : SimS c (tRet (tVar i)) (aRetV i) := fun U H σ ρ N n hx I z P => by
  unfold aRetV at z
  split at z
  · exact z.elim
  · rename_i av _ e
    obtain ⟨v, e1, r, m⟩ := rep_at I.rep i av e
    exact ⟨v, e1, P.rt U H σ (ρ.set i none) av v (I.unset i hi) r (own_nd I.nd e e1) (fun p hp => ⟨(I.out p (m p hp)).1, I.nw i av v hi e e1 p hp, own_unset I.nd e e1 p hp⟩) z⟩
  · exact z.elim
theorem reps_mut {K : PySem.W.Frag} {p : Addr} {o : HO} {ρ : Env} {σ : L2.St} (hu : ∀ q ∈ owns ρ σ, U q = none) (np : p ∉ owns ρ σ) (h : Paired (RepS K U H) ρ σ) : Paired (RepS K U (upd H p o)) ρ σ :=
  reps_keep (Same.refl U) (fun q hq => ⟨upd_ne (fun z => np (z ▸ hq)), hu q hq⟩) h
theorem set_same : ∀ {σ : L2.St} {i : Nat} {x : Option V}, σ[i]? = some x → σ.set i x = σ
  | [], _, _, h => by simp at h
  | y :: σ, 0, x, h => by rw [← Option.some.inj h]; rfl
  | y :: σ, i + 1, x, h => congrArg (y :: ·) (set_same (σ := σ) h)
/-- the thing in slot i becomes another of its kind: its places are those it had, or new -/
theorem DI.mutA {av av' : AV} {v : V} {H' : Hp} (I : DI c U H σ ρ) (h : ρ[i]? = some (some av)) (hs : σ[i]? = some (some v)) (kd : av'.kind = av.kind) (g : Gr (own av v) U H U H') (r : RepA c.K U H' av' v) (nd : (own av' v).Nodup) (ho : ∀ p ∈ own av' v, p ∈ own av v ∨ (H p = none ∧ U p = none)) :
    DI c U H' σ (ρ.set i (some av')) := by
  have m := mem_owns (ρ := ρ) (σ := σ) h hs
  have nu := own_unset I.nd h hs
  have hu : ∀ p ∈ own av' v, U p = none ∧ (p ∈ c.M ∨ c.H0 p = none) := fun p hp => by
    rcases ho p hp with z | z
    · exact I.out p (m p z)
    · exact ⟨z.2, .inr (I.gr.fresh z.1)⟩
  have sub : ∀ q ∈ owns (ρ.set i none) σ, q ∈ owns ρ σ := fun q hq => by
    have := owns_set_mem ρ σ i none (some v) q
    rw [set_same hs] at this
    rcases this hq with z | z
    · exact z
    · cases z
  have nd0 : (owns (ρ.set i none) σ).Nodup := by
    have := (owns_set_sub ρ σ i none (some v) rfl).nodup I.nd
    rwa [set_same hs] at this
  have rp0 : Paired (RepS c.K U H') (ρ.set i none) σ := by
    have k0 := Paired.setAt (F := RepS c.K U H) (show RepS c.K U H none (some v) from trivial) i I.rep
    rw [set_same hs] at k0
    exact reps_keep (Same.refl U) (fun q hq => ⟨keep_at g (I.pl q (sub q hq)) (fun z => nu q z hq), (I.out q (sub q hq)).1⟩) k0
  have hr : Paired (RepS c.K U H') (ρ.set i (some av')) σ := by
    have k := Paired.setAt (F := RepS c.K U H') (show RepS c.K U H' (some av') (some v) from r) i rp0
    rwa [List.set_set, set_same hs] at k
  have np : ∀ q ∈ own av' v, q ∉ owns (ρ.set i none) σ := fun q hq z => by
    rcases ho q hq with y | y
    · exact nu q y z
    · exact I.ex q (sub q z) y.1
  have hn : (owns (ρ.set i (some av')) σ).Nodup := by
    have k := owns_set_nd (ρ.set i none) σ i (some av') (some v) nd0 nd np
    rwa [List.set_set, set_same hs] at k
  refine ⟨⟨I.gr.vv, g.vh, fun a o ma nn ha => ?_, fun a ha => g.dom a (I.gr.dom a ha), I.gr.fr, fun P h => g.tb P (I.gr.tb P h), I.gr.nt⟩, hr, hn, fun q hq => ?_, ?_, I.ko, fun k av'' w e1 e2 q hq => ?_, I.on⟩
  · refine g.hh a o (fun z => ?_) nn (I.gr.hh a o ma nn ha)
    rcases (I.out a (m a z)).2 with y | y
    · exact ma y
    · rw [y] at ha
      cases ha
  · have k := owns_set_mem (ρ.set i none) σ i (some av') (some v) q
    rw [List.set_set, set_same hs] at k
    rcases k hq with k | k
    · exact I.out q (sub q k)
    · exact hu q k
  · obtain ⟨p1, avs, p2, p3⟩ := I.par
    refine ⟨p1, ?_⟩
    have go : ∀ (ks : List Bool) (ρ : Env) (i : Nat) (avs : List AV), ρ[i]? = some (some av) → selM ks ρ = avs.map some → ∃ bs : List AV, selM ks (ρ.set i (some av')) = bs.map some ∧ bs.map AV.kind = avs.map AV.kind := by
      intro ks
      induction ks with
      | nil =>
        intro ρ i avs _ e
        refine ⟨avs, ?_, rfl⟩
        rw [← e]
        cases ρ <;> cases i <;> rfl
      | cons b ks ih =>
        intro ρ i avs h e
        cases ρ with
        | nil => simp at h
        | cons a ρ =>
          cases i with
          | zero =>
            have h' := Option.some.inj h
            subst h'
            cases b with
            | false => exact ⟨avs, e, rfl⟩
            | true =>
              cases avs with
              | nil => cases e
              | cons a0 avs =>
                have e' := List.cons.inj e
                obtain ⟨g1, g2⟩ := e'
                cases g1
                exact ⟨av' :: avs, by rw [List.map_cons, ← g2]; rfl, by rw [List.map_cons, List.map_cons, kd]⟩
          | succ i =>
            cases b with
            | false => exact ih ρ i avs h e
            | true =>
              cases avs with
              | nil => cases e
              | cons a0 avs =>
                have e' := List.cons.inj e
                obtain ⟨g1, g2⟩ := e'
                obtain ⟨bs, k1, k2⟩ := ih ρ i avs h g2
                exact ⟨a0 :: bs, by show a :: selM ks (ρ.set i (some av')) = _; rw [k1, g1]; rfl, by rw [List.map_cons, List.map_cons, k2]⟩
    obtain ⟨bs, k1, k2⟩ := go c.ks ρ i avs h p2
    exact ⟨bs, k1, k2.trans p3⟩
  · by_cases z : i = k
    · subst z
      rw [hs] at e2
      have e' := Option.some.inj (Option.some.inj e2)
      subst e'
      rw [List.getElem?_set] at e1
      simp at e1
      rw [← e1.2] at hq
      rcases ho q hq with y | y
      · exact I.ow i av _ h hs q y
      · exact .inr (I.gr.fresh y.1)
    · rw [List.getElem?_set_ne z] at e1
      exact I.ow k av'' w e1 e2 q hq
theorem gr_upd {p : Addr} {o : HO} {as : List Addr} (s : Same U H) (hu : U p = none) (hp : p ∈ as) (pl : Pl H p) : Gr as U H U (upd H p o) :=
  (Gr.refl s).mut hu (.inl hp) pl
theorem DI.mut {av av' : AV} {p : Addr} {o : HO} (I : DI c U H σ ρ) (h : ρ[i]? = some (some av)) (kd : av'.kind = av.kind) (hs : σ[i]? = some (some (.ref p))) (ho : own av (.ref p) = [p]) (ho' : own av' (.ref p) = [p]) (r : RepA c.K U (upd H p o) av' (.ref p)) :
    DI c U (upd H p o) σ (ρ.set i (some av')) := by
  have mp : p ∈ own av (.ref p) := by rw [ho]; exact List.mem_singleton.mpr rfl
  exact I.mutA h hs kd (gr_upd I.vh (I.out p (mem_owns h hs p mp)).1 mp (I.pl p (mem_owns h hs p mp))) r (by rw [ho']; simp) (fun q hq => by rw [ho'] at hq; rw [List.mem_singleton.mp hq]; exact .inl mp)
end
end
end SW
namespace SW
open PySem PySem.Spec PyProof.Rows L2
variable [QN]
section
variable {c : DC} {U H U' H' : Hp} {σ : L2.St} {ρ : Env} {t u ta tb tc te ti : TE} {e a b ai : AE} {i j : Nat} {d : D} {v : V} {st su : TS} {sa sb : AS} {tt : TT} {at' : AT} {o : AO}
def olQ (ρ : Env) (i : Nat) (Q : List D → Prop) : Prop := match ρ[i]? with
  | some (some (.ol ds)) => Q ds
  | _ => False
theorem olQ_of {Q : List D → Prop} (h : olQ ρ i Q) : ∃ ds, ρ[i]? = some (some (.ol ds)) ∧ Q ds := by
  unfold olQ at h
  split at h
  · exact ⟨_, by assumption, h⟩
  · exact h.elim
theorem ol_at {ds : List D} (I : DI c U H σ ρ) (h : ρ[i]? = some (some (.ol ds))) : ∃ p xs, σ[i]? = some (some (.ref p)) ∧ H p = some (.lst xs) ∧ Rs c.K U ds xs := by
  obtain ⟨v, e1, ⟨p, xs, rfl, e2, e3⟩, _⟩ := rep_at I.rep i _ h
  exact ⟨p, xs, e1, e2, e3⟩
theorem DI.mutL {ds ds' : List D} {p : Addr} {xs' : List V} (I : DI c U H σ ρ) (h : ρ[i]? = some (some (.ol ds))) (hs : σ[i]? = some (some (.ref p))) (r : Rs c.K U ds' xs') : DI c U (upd H p (.lst xs')) σ (ρ.set i (some (.ol ds'))) :=
  I.mut h rfl hs rfl rfl ⟨p, xs', rfl, upd_same, r⟩
def aApp (i : Nat) (e : AE) : AS := fun N ρ => olQ ρ i fun _ => e ρ (fun d => olQ ρ i fun ds => ds.length < 1000000 ∧ N.nx (ρ.set i (some (.ol (ds ++ [d]))))) (fun x => N.ex x ρ)
theorem sim_app (he : SimE c te e) : SimS c (tDrop (tBM c.K "list" rAppend (tVar i) (tCons te tNil))) (aApp i e) := fun U H σ ρ N n hx I z P => by
  obtain ⟨ds0, e0, z⟩ := olQ_of z
  rw [hx] at z
  obtain ⟨p, xs, hs, hp, hr⟩ := ol_at I e0
  refine ⟨.ref p, hs, .inl ⟨rfl, xs, SqL.of hp⟩, he U H σ ρ _ _ I z fun U1 H1 d v g1 I1 r1 z1 => ?_⟩
  obtain ⟨ds, e1, z2, z3⟩ := olQ_of z1
  obtain ⟨p', xs', hs', hp', hr'⟩ := ol_at I1 e1
  rw [hs] at hs'
  have e' := V.ref.inj (Option.some.inj (Option.some.inj hs'))
  subst e'
  exact ⟨p, xs', v, rfl, rfl, hp', lt_size (by rw [← hr'.len]; exact z2), P.nx U1 _ σ _ g1.vv (I1.mutL e1 hs (hr'.snoc r1)) z3⟩
def ixQ (n : Nat) (Q : Nat → Prop) : D → Prop
  | .int z => match ixN n z with
    | some j => Q j
    | none => False
  | _ => False
/-- x[k] = e -/
def aPut (i : Nat) (ai e : AE) : AS := fun N ρ => olQ ρ i fun _ => e ρ (fun d => ai ρ (fun k => olQ ρ i fun ds => ixQ ds.length (fun j => N.nx (ρ.set i (some (.ol (ds.set j d))))) k) (fun x => N.ex x ρ)) (fun x => N.ex x ρ)
def lstQ (Q : List D → Prop) : D → Prop
  | .lst ds => Q ds
  | _ => False
theorem lstQ_of {Q : List D → Prop} {d : D} (h : lstQ Q d) : ∃ ds, d = .lst ds ∧ Q ds := by
  cases d <;> first | exact ⟨_, rfl, h⟩ | exact h.elim
def tupQ (Q : List D → Prop) : D → Prop
  | .tup ds => Q ds
  | _ => False
theorem tupQ_of {Q : List D → Prop} {d : D} (h : tupQ Q d) : ∃ ds, d = .tup ds ∧ Q ds := by
  cases d <;> first | exact ⟨_, rfl, h⟩ | exact h.elim
/-- x += e of lists -/
def aExt (i : Nat) (e : AE) : AS := fun N ρ => olQ ρ i fun _ => e ρ (lstQ fun es => olQ ρ i fun ds => ds.length + es.length ≤ 1000000 ∧ N.nx (ρ.set i (some (.ol (ds ++ es))))) (fun x => N.ex x ρ)
def gN (i : Nat) : AG := fun d ρ Q => Q (ρ.set i (some (.fz d)))
theorem drs_set : ∀ (ρ : Env) (σ : L2.St) (i : Nat) (x : Option AV) (y : Option V), drS x y = [] → ∀ p ∈ drs (ρ.set i x) (σ.set i y), p ∈ drs ρ σ
  | [], _, _, _, _, _, p, hp => by simp [drs] at hp
  | _ :: _, [], i, _, _, _, p, hp => by cases i <;> simp [drs] at hp
  | a :: ρ, b :: σ, 0, x, y, h, p, hp => by
    have hp' : p ∈ drS x y ++ drs ρ σ := hp
    rw [h] at hp'
    exact List.mem_append_right _ hp'
  | a :: ρ, b :: σ, i + 1, x, y, h, p, hp => by
    have hp' : p ∈ drS a b ++ drs (ρ.set i x) (σ.set i y) := hp
    rcases List.mem_append.mp hp' with z | z
    · exact List.mem_append_left _ z
    · exact List.mem_append_right _ (drs_set ρ σ i x y h p z)
theorem put_set {i : Nat} {d : D} {v : V} : Put [i] σ (σ.set i (some v)) ρ (ρ.set i (some (.fz d))) :=
  ⟨List.length_set, fun k hk => List.getElem?_set_ne (fun z => hk (by rw [z]; exact List.mem_singleton.mpr rfl)), drs_set ρ σ i _ _ rfl, fun k hk => List.getElem?_set_ne (fun z => hk (by rw [z]; exact List.mem_singleton.mpr rfl)), fun p hp => (owns_set_sub ρ σ i _ _ rfl).mem hp⟩
theorem Put.trans {js ks : List Nat} {σ1 σ2 σ3 : L2.St} {ρ1 ρ2 ρ3 : Env} (a : Put js σ1 σ2 ρ1 ρ2) (b : Put ks σ2 σ3 ρ2 ρ3) : Put (js ++ ks) σ1 σ3 ρ1 ρ3 :=
  ⟨b.len.trans a.len, fun k hk => (b.at' k fun z => hk (List.mem_append_right _ z)).trans (a.at' k fun z => hk (List.mem_append_left _ z)), fun p hp => a.dr p (b.dr p hp), fun k hk => (b.rat k fun z => hk (List.mem_append_right _ z)).trans (a.rat k fun z => hk (List.mem_append_left _ z)), fun p hp => a.ow p (b.ow p hp)⟩
theorem sim_gN (hi : noPar c i = true) : SimG c [i] (gName i) (gN i) := fun U H σ ρ d v Q q I r z k => k _ _ (I.setF r hi) put_set z
abbrev AGs := List D → Env → (Env → Prop) → Prop
def SimGs (c : DC) (js : List Nat) (g : TGs) (a : AGs) : Prop := ∀ (U H : Hp) (σ : L2.St) (ρ : Env) (ds : List D) (vs : List V) (Q : Env → Prop) (q : L2.St → Hp → Prop), DI c U H σ ρ → Rs c.K U ds vs → a ds ρ Q →
  (∀ σ' ρ', DI c U H σ' ρ' → Put js σ σ' ρ ρ' → Q ρ' → q σ' H) → g vs σ H q
def gsNil : AGs := fun ds ρ Q => match ds with | [] => Q ρ | _ => False
def gsCons (g : AG) (r : AGs) : AGs := fun ds ρ Q => match ds with | d :: ds => g d ρ (fun ρ' => r ds ρ' Q) | [] => False
def gT (n : Nat) (r : AGs) : AG := fun d ρ Q => match d with | .tup ds => ds.length = n ∧ r ds ρ Q | _ => False
theorem sim_gsNil : SimGs c [] gNil gsNil := fun U H σ ρ ds vs Q q I r z k => by
  cases ds with
  | nil => exact ⟨r, k σ ρ I ⟨rfl, fun _ _ => rfl, fun _ h => h, fun _ _ => rfl, fun _ h => h⟩ z⟩
  | cons d ds => exact z.elim
theorem sim_gsCons {js ks : List Nat} {g : TG} {gs : TGs} {ag : AG} {ags : AGs} (h : SimG c js g ag) (hs : SimGs c ks gs ags) : SimGs c (js ++ ks) (gCons g gs) (gsCons ag ags) := fun U H σ ρ ds vs Q q I r z k => by
  cases ds with
  | nil => exact z.elim
  | cons d ds =>
    obtain ⟨v, vs', rfl, r1, r2⟩ := r
    exact ⟨v, vs', rfl, h U H σ ρ d v _ _ I r1 z fun σ1 ρ1 I1 p1 z1 => hs U H σ1 ρ1 ds vs' Q q I1 r2 z1 fun σ2 ρ2 I2 p2 z2 => k σ2 ρ2 I2 (p1.trans p2) z2⟩
theorem sim_gT {js : List Nat} {n : Nat} {gs : TGs} {ags : AGs} (hs : SimGs c js gs ags) : SimG c js (gTup c.K n gs) (gT n ags) := fun U H σ ρ d v Q q I r z k => by
  cases d with
  | tup ds =>
    obtain ⟨a, xs, rfl, h1, h2⟩ := r
    obtain ⟨z1, z2⟩ : ds.length = n ∧ ags ds ρ Q := z
    exact ⟨a, xs, rfl, Same.tup I.vh h1, by rw [← h2.len]; exact z1, hs U H σ ρ ds xs Q q I h2 z2 k⟩
  | _ => exact (show False from z).elim
def aAsg (e : AE) (g : AG) : AS := fun N ρ => e ρ (fun d => g d ρ N.nx) (fun x => N.ex x ρ)
/-- a, b = e, f -/
def twoQ (Q : D → D → Prop) : List D → Prop
  | [d, e] => Q d e
  | _ => False
theorem twoQ_of {Q : D → D → Prop} {ds : List D} (h : twoQ Q ds) : ∃ d e, ds = [d, e] ∧ Q d e := by
  unfold twoQ at h
  split at h
  · exact ⟨_, _, rfl, h⟩
  · exact h.elim
def aPar (i j : Nat) (r : AL) : AS := fun N ρ => r ρ (twoQ fun d e => N.nx ((ρ.set i (some (.fz d))).set j (some (.fz e)))) (fun x => N.ex x ρ)
def aAug (i : Nat) (f : D → D → (D → Prop) → Prop) (e : AE) : AS := fun N ρ => match ρ[i]? with
  | some (some (.fz x)) => e ρ (fun y => f x y fun z => N.nx (ρ.set i (some (.fz z)))) (fun x => N.ex x ρ)
  | _ => False
def aLoop (g : AG) (b : AS) (N : AEnds) : List D → Env → Prop
  | [], ρ => N.nx ρ
  | d :: r, ρ => g d ρ (fun ρ2 => b ⟨aLoop g b N r, N.rt, N.nx, aLoop g b N r, N.ex⟩ ρ2)
def aFor (it : AL) (g : AG) (b : AS) : AS := fun N ρ => it ρ (fun ds => aLoop g b N ds ρ) (fun x => N.ex x ρ)
theorem drop_at {α : Type} {xs : List α} {i : Nat} {x : α} (h : xs[i]? = some x) : xs.drop i = x :: xs.drop (i + 1) := by
  obtain ⟨hi, e⟩ := List.getElem?_eq_some_iff.mp h
  rw [List.drop_eq_getElem_cons hi, e]
theorem sim_for {js : List Nat} {wi : TI} {it : AL} {g : TG} {ag : AG} (hi : SimI c wi it) (hg : SimG c js g ag) (hb : SimS c st sa) : SimS c (tFor wi g st) (aFor it ag sa) := fun U H σ ρ N n hx I z P => by
  unfold aFor at z
  rw [hx] at z
  refine hi U H σ ρ _ _ I z fun U1 H1 J ds g1 I1 W z1 => ?_
  obtain ⟨Y, w, hY⟩ := W
  refine for_it w (fun k σ' H' => ∃ U' ρ', Same U1 U' ∧ DI c U' H' σ' ρ' ∧ aLoop ag sa N (ds.drop k) ρ') ⟨U1, ρ, Same.refl U1, I1, z1⟩ (fun k σ' H' _ ⟨U', ρ', s, I', _⟩ => s.trans I'.vh) ?_ ?_
  · rintro k x σ' H' H'' hk ⟨U', ρ', s, I', z2⟩ hy
    have ed : ds[k]? = some ds[k] := List.getElem?_eq_getElem hk
    obtain ⟨U3, g3, r3⟩ := hY k H' x H'' _ U' s I'.vh hy ed
    rw [drop_at ed] at z2
    have I3 := I'.grow g3
    have s3 := s.trans g3.vv
    refine hg U3 H'' σ' ρ' _ x _ _ I3 r3 z2 fun σ4 ρ4 I4 _ z4 => ?_
    exact hb U3 H'' σ4 ρ4 ⟨aLoop ag sa N (ds.drop (k + 1)), N.rt, N.nx, aLoop ag sa N (ds.drop (k + 1)), N.ex⟩ _ hx I4 z4
      ⟨fun U5 H5 σ5 ρ5 s5 I5 z5 => ⟨U5, ρ5, s3.trans s5, I5, z5⟩, P.rt, fun U5 H5 σ5 ρ5 s5 I5 z5 => P.nx U5 H5 σ5 ρ5 (g1.vv.trans (s3.trans s5)) I5 z5, fun U5 H5 σ5 ρ5 s5 I5 z5 => ⟨U5, ρ5, s3.trans s5, I5, z5⟩⟩
  · rintro σ' H' ⟨U', ρ', s, I', z2⟩
    rw [List.drop_length] at z2
    exact P.nx U' H' σ' ρ' (g1.vv.trans s) I' z2
end
end SW
namespace SW
open PySem PySem.Spec PyProof.Rows L2
variable [QN]
section
variable {c : DC} {U H U' H' : Hp} {σ : L2.St} {ρ : Env} {t u ta tb tc te ti : TE} {e a b ai : AE} {i j : Nat} {d : D} {v : V} {st su : TS} {sa sb : AS} {tt : TT} {at' : AT} {o : AO}
theorem SimI.w {wi : TI} {it : AL} (h : SimI c wi it) : SimIW c wi it := fun U H σ ρ Q q I z k => h U H σ ρ Q q I z fun U1 H1 J ds g1 I1 W z1 => by
  obtain ⟨Y, w, hY⟩ := W
  exact k U1 H1 J ds g1 I1 ⟨Y, w.mono (fun H'' ⟨U'', g⟩ => g.vv.trans g.vh) (fun _ _ _ _ _ _ y => y), hY⟩ z1
theorem yat {K : PySem.W.Frag} {ds : List D} {xs : List V} (r : Rs K U ds xs) {i : Nat} {H H' U2 : Hp} {x : V} {d : D} (s : Same U U2) (s2 : Same U2 H) (h : YAt xs i H x H') (e : ds[i]? = some d) : ∃ U3, Gr [] U2 H U3 H' ∧ R K U3 d x := by
  obtain ⟨rfl, hx⟩ := h
  obtain ⟨d', e1, r1⟩ := r.at' i x hx
  rw [e] at e1
  have e' := Option.some.inj e1
  subst e'
  exact ⟨U2, Gr.refl s2, R.mono s d x r1⟩
def aItL (e : AE) : AL := fun ρ Q X => e ρ (lstQ Q) X
def aItT (e : AE) : AL := fun ρ Q X => e ρ (tupQ Q) X
theorem sim_itL (h : SimE c te e) : SimI c (iList c.K te) (aItL e) := fun U H σ ρ Q q I z k => h U H σ ρ _ _ I z fun U1 H1 d v g1 I1 r1 z1 => by
  obtain ⟨ds, rfl, z2⟩ := lstQ_of z1
  obtain ⟨p, xs, rfl, hp, hr⟩ := r1
  refine ⟨p, rfl, ⟨xs, SqL.of (I1.vh _ _ hp)⟩, k U1 H1 _ ds g1 I1 ⟨YAt xs, ?_, fun i H x H' d U2 s s2 y e => yat hr s s2 y e⟩ z2⟩
  rw [hr.len]
  exact walk_list.mono (fun H s => SqL.of (s _ _ hp)) (fun _ _ _ _ _ _ y => y)
theorem sim_itT (h : SimE c te e) : SimI c (iTup c.K te) (aItT e) := fun U H σ ρ Q q I z k => h U H σ ρ _ _ I z fun U1 H1 d v g1 I1 r1 z1 => by
  obtain ⟨ds, rfl, z2⟩ := tupQ_of z1
  obtain ⟨p, xs, rfl, hp, hr⟩ := r1
  refine ⟨p, rfl, ⟨xs, Same.tup I1.vh hp⟩, k U1 H1 _ ds g1 I1 ⟨YAt xs, ?_, fun i H x H' d U2 s s2 y e => yat hr s s2 y e⟩ z2⟩
  rw [hr.len]
  exact walk_tup.mono (fun H s => Same.tup s hp) (fun _ _ _ _ _ _ y => y)
/-- it is in no draw -/
theorem own_dr : ∀ {ρ : Env} {σ : L2.St} {i : Nat} {av : AV} {v : V}, (owns ρ σ).Nodup → ρ[i]? = some (some av) → σ[i]? = some (some v) → av ≠ .dr → ∀ p ∈ own av v, p ∉ drs ρ σ
  | [], _, i, av, v, nd, h, k, n, p, hp => by simp at h
  | _ :: _, [], i, av, v, nd, h, k, n, p, hp => by simp at k
  | x :: ρ, y :: σ, 0, av, v, nd, h, k, n, p, hp => by
    have h' := Option.some.inj h
    have k' := Option.some.inj k
    subst h' k'
    intro z
    have z' : p ∈ drS (some av) (some v) ++ drs ρ σ := z
    have nd' : (own av v ++ owns ρ σ).Nodup := nd
    rcases List.mem_append.mp z' with z' | z'
    · unfold drS at z'
      split at z'
      · rename_i e _
        exact n (Option.some.inj e)
      · cases z'
    · exact (List.nodup_append.mp nd').2.2 p hp p (drs_sub p z') rfl
  | x :: ρ, y :: σ, i + 1, av, v, nd, h, k, n, p, hp => by
    intro z
    have nd' : (ownS x y ++ owns ρ σ).Nodup := nd
    obtain ⟨n1, n2, n3⟩ := List.nodup_append.mp nd'
    have z' : p ∈ drS x y ++ drs ρ σ := z
    rcases List.mem_append.mp z' with z' | z'
    · have m1 : p ∈ ownS x y := by
        unfold drS at z'
        split at z'
        · exact z'
        · cases z'
      exact n3 p m1 p (mem_owns (ρ := ρ) (σ := σ) h k p hp) rfl
    · exact own_dr n2 h k n p hp z'
/-- a slot's own list, in a comprehension -/
theorem sim_itLW (h : SimW c te e) : SimIW c (iList c.K te) (aItL e) := fun U H σ ρ Q q I z k => h U H σ ρ _ _ I z fun U1 H1 d v g1 I1 w1 z1 => by
  obtain ⟨ds, rfl, z2⟩ := lstQ_of z1
  rcases w1 with r1 | ⟨k1, av, v0, b, h1, h2, h4, h3⟩
  · obtain ⟨p, xs, rfl, hp, hr⟩ := r1
    refine ⟨p, rfl, ⟨xs, SqL.of (I1.vh _ _ hp)⟩, k U1 H1 _ ds g1 I1 ⟨YAt xs, ?_, fun i H x H' d U2 s s2 y e => yat hr s s2 y e⟩ z2⟩
    rw [hr.len]
    exact walk_list.mono (fun H ⟨U'', g⟩ => SqL.of (g.vh _ _ (g.vv _ _ hp))) (fun _ _ _ _ _ _ y => y)
  · obtain ⟨w, e1, e2, m⟩ := rep_at I1.rep k1 av h1
    rw [h2] at e1
    have e' := Option.some.inj (Option.some.inj e1)
    subst e'
    have nd : av ≠ .dr := fun z => by
      subst z
      rw [h4.dr] at h3
      cases h3
    have key : ∀ p xs, v = .ref p → H1 p = some (.lst xs) → Rs c.K U1 ds xs → p ∉ drs ρ σ → iList c.K (tC v) σ H1 q := fun p xs ev hp hr np => by
      subst ev
      refine ⟨p, rfl, ⟨xs, SqL.of hp⟩, k U1 H1 _ ds g1 I1 ⟨YAt xs, ?_, fun i H x H' d U2 s s2 y e => yat hr s s2 y e⟩ z2⟩
      rw [hr.len]
      exact walk_list.mono (fun H ⟨U'', g⟩ => SqL.of (g.hh _ _ np (ntb rfl) hp)) (fun _ _ _ _ _ _ y => y)
    have np : ∀ p ∈ own b v, p ∉ drs ρ σ := fun p hp => own_dr I1.nd h1 h2 nd p (h4.own e2 p hp)
    have e2 := h4.rep e2
    cases b <;> cases h3
    · obtain ⟨p, xs, e3, e4, e5⟩ := e2
      refine key p xs e3 (I1.vh _ _ e4) e5 ?_
      intro z
      have := (I1.out p (drs_sub p z)).1
      rw [e4] at this
      cases this
    · obtain ⟨p, xs, e3, e4, e5⟩ := e2
      exact key p xs e3 e4 e5 (np p (by rw [e3]; exact List.mem_singleton.mpr rfl))
    · obtain ⟨p, e3, e4, e5⟩ := e2
      exact key p _ e3 e4 (seens_r e5) (np p (by rw [e3]; exact List.mem_cons_self))
def intQ (Q : Int → Prop) : D → Prop
  | .int i => Q i
  | _ => False
theorem intQ_of {Q : Int → Prop} {d : D} (h : intQ Q d) : ∃ i, d = .int i ∧ Q i := by
  cases d <;> first | exact ⟨_, rfl, h⟩ | exact h.elim
def oneQ (Q : D → Prop) : List D → Prop
  | [d] => Q d
  | _ => False
theorem oneQ_of {Q : D → Prop} {ds : List D} (h : oneQ Q ds) : ∃ d, ds = [d] ∧ Q d := by
  unfold oneQ at h
  split at h
  · exact ⟨_, rfl, h⟩
  · exact h.elim
theorem paired1 {α β : Type} {F : α → β → Prop} {x : α} {vs : List β} (h : Paired F [x] vs) : ∃ v, vs = [v] ∧ F x v := by
  cases h with
  | cons h t => cases t; exact ⟨_, rfl, h⟩
theorem paired2 {α β : Type} {F : α → β → Prop} {x y : α} {vs : List β} (h : Paired F [x, y] vs) : ∃ v w, vs = [v, w] ∧ F x v ∧ F y w := by
  cases h with
  | cons h t =>
    obtain ⟨w, rfl, k⟩ := paired1 t
    exact ⟨_, w, rfl, h, k⟩
def rngD (lo : Int) (n : Nat) : List D := (List.range n).map fun i => .int (lo + (i : Nat))
def aRng1 (r : AL) : AL := fun ρ Q X => r ρ (oneQ (intQ fun j => (-(2 ^ 62) ≤ j ∧ j < 2 ^ 62) ∧ Q (rngD 0 j.toNat))) X
def aRng2 (r : AL) : AL := fun ρ Q X => r ρ (twoQ fun d e => intQ (fun i => intQ (fun j => (-(2 ^ 62) ≤ i ∧ i < 2 ^ 62 ∧ -(2 ^ 62) ≤ j ∧ j < 2 ^ 62) ∧ Q (rngD i (j - i).toNat)) e) d) X
theorem walks_rng {K : PySem.W.Frag} {G : Hp → Prop} (lo : Int) (n : Nat) : Walks K U (Itr lo n) (rngD lo n) G := by
  refine ⟨YFn fun i => .int (lo + i), ?_, fun i H x H' d U2 s s2 y e => ?_⟩
  · rw [show (rngD lo n).length = n by unfold rngD; rw [List.length_map, List.length_range]]
    exact walk_range.mono (fun _ _ => trivial) (fun _ _ _ _ _ _ y => y)
  · obtain ⟨rfl, rfl⟩ := y
    refine ⟨U2, Gr.refl s2, ?_⟩
    unfold rngD at e
    rw [List.getElem?_map] at e
    cases e2 : (List.range n)[i]? with
    | none => rw [e2] at e; cases e
    | some k =>
      rw [e2] at e
      obtain ⟨hk, e3⟩ := List.getElem?_eq_some_iff.mp e2
      rw [List.getElem_range] at e3
      subst e3
      cases e
      rfl
theorem sim_rng1 {tr : TA} {r : AL} (h : SimLW c tr r) : SimI c (iRng1 tr) (aRng1 r) := fun U H σ ρ Q q I z k => h U H σ ρ _ _ I z fun U1 H1 ds vs g1 I1 w1 z1 => by
  obtain ⟨d, rfl, z2⟩ := oneQ_of z1
  obtain ⟨j, rfl, z3⟩ := intQ_of z2
  obtain ⟨v, rfl, w⟩ := paired1 w1
  exact ⟨j, by rw [(Wk.cr w I1).int], z3.1.1, z3.1.2, k U1 H1 _ _ g1 I1 (walks_rng 0 j.toNat) z3.2⟩
def zipD (xs ys : List D) : List D := (xs.zip ys).map fun p => .tup [p.1, p.2]
def enumD (xs : List D) : List D := zipD ((List.range xs.length).map fun i => .int (i : Nat)) xs
def aZip (r : AL) : AL := fun ρ Q X => r ρ (twoQ fun d e => lstQ (fun xs => lstQ (fun ys => Q (zipD xs ys)) e) d) X
def aEnum (r : AL) : AL := fun ρ Q X => r ρ (oneQ (lstQ fun xs => Q (enumD xs))) X
def wipeA (ρ : Env) : List Nat → Env
  | [] => ρ
  | v :: vs => (wipeA ρ vs).set v none
def aComp (g : AG) (tt : AT) (te : AE) (ρ : Env) (X : Exn → Prop) : List D → List D → (List D → Prop) → Prop
  | [], acc, Q => Q acc
  | d :: r, acc, Q => g d ρ (fun ρ2 => tt ρ2 (fun b => cond b (te ρ2 (fun y => acc.length < 1000000 ∧ aComp g tt te ρ X r (acc ++ [y]) Q) X) (aComp g tt te ρ X r acc Q)) X)
def aLc (it : AL) (g : AG) (tt : AT) (te : AE) (vs : List Nat) : AO := fun ρ Q X => it ρ (fun ds => aComp g tt te (wipeA ρ vs) X ds [] (fun acc => Q (.ol acc))) X
def aYes : AT := fun _ Q _ => Q true
theorem sim_yes : SimT c tYes aYes := fun U H σ ρ Q q I z k => k U H true (Gr.refl I.vh) I z
theorem DI.setN (h : DI c U H σ ρ) {i : Nat} (hi : noPar c i = true) : DI c U H (σ.set i none) (ρ.set i none) := by
  have hs := owns_set_sub ρ σ i none none rfl
  refine ⟨h.gr, Paired.setAt (F := RepS c.K U H) (show RepS c.K U H none none from trivial) i h.rep, hs.nodup h.nd, fun p hp => h.out p (hs.mem hp), par_set (sel_set _ _ _ _ (noPar_of hi)) (sel_set _ _ _ _ (noPar_of hi)) h.par, h.ko, fun k av w e1 e2 p hp => ?_, by rw [List.length_set]; exact h.on⟩
  by_cases z : i = k
  · subst z
    rw [List.getElem?_set] at e1
    simp at e1
  · rw [List.getElem?_set_ne z] at e1 e2
    exact h.ow k av w e1 e2 p hp
theorem DI.wipe (h : DI c U H σ ρ) : ∀ {vs : List Nat}, (vs.all fun i => noPar c i) = true → DI c U H (L2.wipe σ vs) (wipeA ρ vs) ∧ (∀ p ∈ drs (wipeA ρ vs) (L2.wipe σ vs), p ∈ drs ρ σ) ∧ c.x (wipeA ρ vs) = c.x ρ
  | [], _ => ⟨h, fun _ z => z, rfl⟩
  | v :: vs, k => by
    rw [List.all_cons, Bool.and_eq_true] at k
    obtain ⟨i1, i2, i3⟩ := DI.wipe h (vs := vs) k.2
    exact ⟨i1.setN k.1, fun p hp => i2 p (drs_set _ _ v none none rfl p hp), (DC.x_set k.1).trans i3⟩
theorem wipe_at : ∀ {σ : L2.St} {vs : List Nat} (k : Nat), (wipe σ vs)[k]? = if k ∈ vs then (if k < σ.length then some none else none) else σ[k]?
  | σ, [], k => by simp [wipe]
  | σ, v :: vs, k => by
    unfold wipe
    rw [List.getElem?_set, wipe_length, wipe_at k]
    by_cases h : v = k
    · subst h
      simp
    · have h' : ¬ k = v := fun z => h z.symm
      simp [h, h']
theorem wipe_put {js vs : List Nat} {σ σ' : L2.St} {ρ ρ' : Env} (p : Put js (wipe σ vs) σ' ρ ρ') (h : ∀ j ∈ js, j ∈ vs) : wipe σ' vs = wipe σ vs := by
  refine List.ext_getElem? fun k => ?_
  rw [wipe_at, p.len, wipe_length]
  by_cases hk : k ∈ vs
  · rw [if_pos hk, wipe_at, if_pos hk]
  · rw [if_neg hk, p.at' k fun z => hk (h k z)]
theorem DI.mutFree {p : Addr} {x : HO} (I : DI c U H σ ρ) (nu : U p = none) (n0 : c.H0 p = none) (np : p ∉ owns ρ σ) (pl : Pl H p) : DI c U (upd H p x) σ ρ :=
  ⟨I.gr.mut nu (.inr n0) pl, reps_mut (fun q hq => (I.out q hq).1) np I.rep, I.nd, I.out, I.par, I.ko, I.ow, I.on⟩
/-- behind the walk's beginning -/
theorem lcw {js vs : List Nat} {g : TG} {ag : AG} {U H U1 H1 : Hp} {σ : L2.St} {ρ : Env} {Q : AV → Prop} {q : VK} {J : It} {ds : List D} (hg : SimG c js g ag) (ht : SimT c tt at') (he : SimE c te e) (hj : (js.all fun j => vs.contains j) = true) (hv : (vs.all fun i => noPar c i) = true)
    (g1 : Gr (drs ρ σ) U H U1 H1) (I1 : DI c U1 H1 σ ρ) (W : Walks c.K U1 J ds (fun H'' => ∃ U'', Gr (drs ρ σ) U1 H1 U'' H'')) (z1 : aComp ag at' e (wipeA ρ vs) (c.x ρ) ds [] (fun acc => Q (.ol acc)))
    (k : ∀ U' H' av v, Gr (drs ρ σ) U H U' H' → DI c U' H' σ ρ → RepA c.K U' H' av v → Fresh U' H av v → Q av → q v H') :
    tLc (fun _ H0 R => R J H0) g tt te vs σ H1 q := by
  obtain ⟨Y, w, hY⟩ := W
  intro Da nD
  have nD0 : H Da = none := g1.fresh nD
  have nDo : Da ∉ owns ρ σ := fun h => I1.ex Da h nD
  have nDd : Da ∉ drs ρ σ := fun h => nDo (drs_sub Da h)
  have nDH : c.H0 Da = none := I1.gr.fresh nD
  have hjs : ∀ j ∈ js, j ∈ vs := fun j hj' => by
    have := List.all_eq_true.mp hj j hj'
    exact List.contains_iff_mem.mp this
  refine lc_it (Qd := fun H' => q (.ref Da) H') w (fun n H' => ∃ U' acc accD, Gr (drs ρ σ) U1 H1 U' H' ∧ DI c U' H' σ ρ ∧ H' Da = some (.lst acc) ∧ U' Da = none ∧ Rs c.K U' accD acc ∧ aComp ag at' e (wipeA ρ vs) (c.x ρ) (ds.drop n) accD (fun acc => Q (.ol acc))) ?_ ?_ ?_ ?_
  · have g2 : Gr [] U1 H1 U1 (upd H1 Da (.lst [])) := (Gr.refl I1.vh).newM nD
    exact ⟨U1, [], [], g2.any, I1.grow g2, upd_same, I1.vh.free nD, rfl, z1⟩
  · rintro n H' hn ⟨U', acc, accD, gg, _⟩
    exact ⟨U', gg⟩
  · rintro n x H' H'' hn ⟨U', acc, accD, gg, I', hD, uD, hr, z2⟩ hy
    have ed : ds[n]? = some ds[n] := List.getElem?_eq_getElem hn
    obtain ⟨U3, g3, r3⟩ := hY n H' x H'' _ U' gg.vv I'.vh hy ed
    rw [drop_at ed] at z2
    have I3 := I'.grow g3
    obtain ⟨Iw, hdr, hxw⟩ := I3.wipe hv
    refine hg U3 H'' _ _ _ x _ _ Iw r3 z2 fun σ2 ρ2 I2 p2 z3 => ⟨wipe_put p2 hjs, ?_⟩
    have dr2 : ∀ p ∈ drs ρ2 σ2, p ∈ drs ρ σ := fun p hp => hdr p (p2.dr p hp)
    have hx2 : c.x ρ2 = c.x ρ := (p2.ex hv hjs).trans hxw
    rw [← hx2] at z3
    have uD3 : U3 Da = none := g3.fr Da uD (by rw [hD]; intro z; cases z)
    have hD3 := g3.hh _ _ (by simp) (ntb rfl) hD
    have drOf : ∀ {U5 H5 : Hp}, DI c U5 H5 σ2 ρ2 → ∀ p ∈ drs ρ2 σ2, p ∈ drs ρ σ ∧ Dr U5 H5 p := fun {U5 H5} I5 p hp => ⟨dr2 p hp, by
      have : ∀ {ρ : Env} {σ : L2.St}, Paired (RepS c.K U5 H5) ρ σ → ∀ p ∈ drs ρ σ, Dr U5 H5 p := by
        intro ρ σ h
        induction h with
        | nil => intro p hp; simp [drs] at hp
        | @cons a b ρ σ h t ih =>
          intro p hp
          have hp' : p ∈ drS a b ++ drs ρ σ := hp
          rcases List.mem_append.mp hp' with z | z
          · unfold drS at z
            split at z
            · obtain ⟨s, e1, e2⟩ := h
              have e' := V.ref.inj e1
              subst e'
              rw [List.mem_singleton.mp z]
              exact e2
            · cases z
          · exact ih p z
      exact this I5.rep p hp⟩
    refine ht U3 H'' σ2 ρ2 _ _ I2 z3 fun U5 H5 bo g5 I5 z5 => ?_
    have I5o := I3.step g5 (drOf I5)
    have n5 : Da ∉ drs ρ2 σ2 := fun h => nDd (dr2 Da h)
    have hD5 := g5.hh _ _ n5 (ntb rfl) hD3
    have uD5 : U5 Da = none := g5.fr Da uD3 (by rw [hD3]; intro z; cases z)
    have gg5 : Gr (drs ρ σ) U1 H1 U5 H5 := (gg.trans g3.any).trans (g5.weak dr2)
    cases bo with
    | false => exact i_itF ⟨U5, acc, accD, gg5, I5o, hD5, uD5, Rs.mono (g3.vv.trans g5.vv) _ _ hr, (by rw [← hx2]; exact z5)⟩
    | true =>
      refine i_itT (he U5 H5 σ2 ρ2 _ _ I5 z5 fun U6 H6 y vy g6 I6 r6 z6 => ?_)
      have I6o := I5o.step g6 (drOf I6)
      have hD6 := g6.hh _ _ n5 (ntb rfl) hD5
      have uD6 : U6 Da = none := g6.fr Da uD5 (by rw [hD5]; intro z; cases z)
      have hr6 := Rs.mono ((g3.vv.trans g5.vv).trans g6.vv) _ _ hr
      refine ⟨acc, hD6, lt_size (by rw [← hr.len]; exact z6.1), U6, acc ++ [vy], accD ++ [y], (gg5.trans (g6.weak dr2)).mut uD6 (.inr nD) (.of hD6 rfl), I6o.mutFree uD6 nDH nDo (.of hD6 rfl), upd_same, uD6, hr6.snoc r6, (by rw [← hx2]; exact z6.2)⟩
  · rintro H' ⟨U', acc, accD, gg, I', hD, uD, hr, z2⟩
    rw [List.drop_length] at z2
    exact k U' H' (.ol accD) (.ref Da) (g1.trans gg) I' ⟨Da, acc, rfl, hD, hr⟩ (.one rfl uD nD0) z2
theorem sim_lc {js vs : List Nat} {wi : TI} {it : AL} {g : TG} {ag : AG} (hi : SimIW c wi it) (hg : SimG c js g ag) (ht : SimT c tt at') (he : SimE c te e) (hj : (js.all fun j => vs.contains j) = true) (hv : (vs.all fun i => noPar c i) = true) :
    SimO c (tLc wi g tt te vs) (aLc it ag at' e vs) := fun U H σ ρ Q q I z k =>
  hi U H σ ρ _ _ I z fun U1 H1 J ds g1 I1 W z1 => lcw hg ht he hj hv g1 I1 W z1 k
end
end SW
namespace SW
open PySem PySem.Spec PyProof.Rows L2
variable [QN]
def AV.isDr : AV → Bool
  | .dr => true
  | _ => false
def bodyA (ks : List Bool) (nl : Nat) (a : AS) : AF := fun avs q x => avs.map AV.isDr = ks ∧ a ⟨fun _ => q (.fz .non), fun av _ => q av, fun _ => False, fun _ => False, fun e _ => x e⟩ (avs.map some ++ List.replicate nl none)
theorem owns_nil : ∀ (n m : Nat), owns (List.replicate n none) (List.replicate m none) = []
  | 0, m => rfl
  | n + 1, 0 => rfl
  | n + 1, m + 1 => owns_nil n m
theorem owns_args : ∀ (avs : List AV) (vs : List V) (n m : Nat), avs.length = vs.length → owns (avs.map some ++ List.replicate n none) (vs.map some ++ List.replicate m none) = ownAs avs vs
  | [], [], n, m, _ => owns_nil n m
  | a :: avs, v :: vs, n, m, h => by
    show own a v ++ owns (avs.map some ++ List.replicate n none) (vs.map some ++ List.replicate m none) = own a v ++ ownAs avs vs
    rw [owns_args avs vs n m (Nat.succ.inj h)]
theorem reps_args {K : PySem.W.Frag} {U H : Hp} (n : Nat) : ∀ {avs : List AV} {vs : List V}, Paired (RepA K U H) avs vs → Paired (RepS K U H) (avs.map some ++ List.replicate n none) (vs.map some ++ List.replicate n none)
  | _, _, .nil => by
    induction n with
    | zero => exact .nil
    | succ n ih => exact .cons trivial ih
  | _, _, .cons h t => .cons h (reps_args n t)
/-- the marked ones of a row with more behind it -/
theorem sel_map {α β : Type} (f : α → β) : ∀ (ks : List Bool) (xs : List α) (r : List β), ks.length = xs.length → selM ks (xs.map f ++ r) = (selM ks xs).map f
  | [], [], r, _ => by cases r <;> rfl
  | true :: ks, x :: xs, r, h => congrArg (f x :: ·) (sel_map f ks xs r (Nat.succ.inj h))
  | false :: ks, x :: xs, r, h => sel_map f ks xs r (Nat.succ.inj h)
/-- the marked ones hold all that is one's own -/
theorem sel_all : ∀ (avs : List AV) (vs : List V), avs.length = vs.length → ownAs (selM (avs.map AV.isOwn) avs) (selM (avs.map AV.isOwn) vs) = ownAs avs vs
  | [], [], _ => rfl
  | a :: avs, v :: vs, h => by
    have ih := sel_all avs vs (Nat.succ.inj h)
    cases a with
    | fz d =>
      show ownAs (selM (avs.map AV.isOwn) avs) (selM (avs.map AV.isOwn) vs) = own (.fz d) v ++ ownAs avs vs
      rw [ih]
      cases v <;> rfl
    | _ =>
      show own _ v ++ ownAs (selM (avs.map AV.isOwn) avs) (selM (avs.map AV.isOwn) vs) = own _ v ++ ownAs avs vs
      rw [ih]
/-- parameters that are not marked hold nothing of one's own -/
theorem args_nw {avs : List AV} {nl i : Nat} {av : AV} {v : V} (h : (avs.map AV.isOwn).getD i false = false) (e : (avs.map some ++ List.replicate nl none)[i]? = some (some av)) : own av v = [] := by
  rw [List.getElem?_append, List.length_map] at e
  split at e
  · rw [List.getElem?_map] at e
    cases ea : avs[i]? with
    | none => rw [ea] at e; cases e
    | some a =>
      rw [ea] at e
      cases e
      rw [List.getD, List.getElem?_map, ea] at h
      have h' : av.isOwn = false := h
      cases av with
      | fz d => cases v <;> rfl
      | _ => cases h'
  · rw [List.getElem?_replicate] at e
    split at e <;> cases e
/-- each slot's own places -/
def ownL : Env → L2.St → List (List Addr)
  | a :: ρ, v :: σ => ownS a v :: ownL ρ σ
  | _, _ => []
theorem ownL_len : ∀ {ρ : Env} {σ : L2.St}, ρ.length = σ.length → (ownL ρ σ).length = σ.length
  | [], [], _ => rfl
  | a :: ρ, v :: σ, h => congrArg (· + 1) (ownL_len (Nat.succ.inj h))
theorem ownL_at : ∀ {ρ : Env} {σ : L2.St} {i : Nat} {av : AV} {v : V}, ρ[i]? = some (some av) → σ[i]? = some (some v) → (ownL ρ σ).getD i [] = own av v
  | [], _, i, av, v, h, _ => by simp at h
  | _ :: _, [], i, av, v, _, h => by simp at h
  | a :: ρ, w :: σ, 0, av, v, h1, h2 => by
    have e1 := Option.some.inj h1
    have e2 := Option.some.inj h2
    subst e1 e2
    rfl
  | a :: ρ, w :: σ, i + 1, av, v, h1, h2 => ownL_at (ρ := ρ) (σ := σ) (i := i) h1 h2
theorem ownL_no : ∀ {ρ : Env} {σ : L2.St} {i : Nat}, (ρ[i]? = none ∨ ρ[i]? = some none) → (ownL ρ σ).getD i [] = []
  | [], _, i, _ => by unfold ownL; rfl
  | _ :: _, [], i, _ => by unfold ownL; rfl
  | a :: ρ, w :: σ, 0, h => by
    rcases h with h | h
    · cases h
    · have e1 := Option.some.inj h
      subst e1
      rfl
  | a :: ρ, w :: σ, i + 1, h => ownL_no (ρ := ρ) (σ := σ) (i := i) h
/-- where a def's body begins -/
theorem start_DI {K : PySem.W.Frag} {U H : Hp} {avs : List AV} {vs : List V} {nl : Nat} {X : Exn → List (Option AV) → Prop} {E : XK} {tb : List Addr} (sU : Same U H) (rep : Paired (RepA K U H) avs vs) (nd : (ownAs avs vs).Nodup) (out : ∀ p ∈ ownAs avs vs, U p = none) (ok : DC.Ok ⟨K, avs.map AV.isOwn, (selM (avs.map AV.isOwn) avs).map AV.kind, selM (avs.map AV.isOwn) vs, ownL (avs.map some ++ List.replicate nl none) (vs.map some ++ List.replicate nl none), ownAs avs vs, U, H, X, fun _ => E, tb⟩) :
    DI ⟨K, avs.map AV.isOwn, (selM (avs.map AV.isOwn) avs).map AV.kind, selM (avs.map AV.isOwn) vs, ownL (avs.map some ++ List.replicate nl none) (vs.map some ++ List.replicate nl none), ownAs avs vs, U, H, X, fun _ => E, tb⟩ U H (vs.map some ++ List.replicate nl none) (avs.map some ++ List.replicate nl none) := by
  have lv : avs.length = vs.length := rep.length
  refine ⟨Gr.refl sU, reps_args nl rep, ?_, ?_, ⟨?_, selM (avs.map AV.isOwn) avs, ?_, rfl⟩, ok, fun i av v e1 e2 p hp => .inl (by rw [ownL_at e1 e2]; exact hp), ?_, fun i hn => ?_⟩
  · rw [owns_args avs vs nl nl lv]
    exact nd
  · rw [owns_args avs vs nl nl lv]
    exact fun p hp => ⟨out p hp, .inl hp⟩
  · exact sel_map some _ vs _ (by rw [List.length_map]; exact lv)
  · exact sel_map some _ avs _ (by rw [List.length_map])
  · rw [ownL_len (reps_args nl rep).length]
  · cases e1 : (avs.map some ++ List.replicate nl none)[i]? with
    | none => exact ownL_no (.inl e1)
    | some a =>
      cases a with
      | none => exact ownL_no (.inr e1)
      | some av =>
        obtain ⟨v, e2, _⟩ := rep_at (reps_args nl rep) i av e1
        rw [ownL_at e1 e2]
        exact args_nw (noPar_of hn) e1
theorem isDr_own : ∀ {avs : List AV}, (∀ a ∈ avs, a = .dr ∨ ∃ d, a = .fz d) → avs.map AV.isOwn = avs.map AV.isDr
  | [], _ => rfl
  | a :: avs, h => by
    rw [List.map_cons, List.map_cons, isDr_own fun x hx => h x (List.mem_cons_of_mem _ hx)]
    rcases h a List.mem_cons_self with rfl | ⟨d, rfl⟩ <;> rfl
theorem kind_dr : ∀ {avs bs : List AV}, (∀ a ∈ avs, a = .dr) → bs.map AV.kind = avs.map AV.kind → ∀ b ∈ bs, b = .dr
  | [], [], _, _, b, hb => by cases hb
  | [], b' :: bs, _, e, b, hb => by cases e
  | a :: avs, [], _, e, b, hb => by cases hb
  | a :: avs, b' :: bs, h, e, b, hb => by
    have e' := List.cons.inj e
    obtain ⟨e1, e2⟩ := e'
    rcases List.mem_cons.mp hb with rfl | hb
    · rw [h a List.mem_cons_self] at e1
      cases b <;> first | rfl | cases e1
    · exact kind_dr (fun x hx => h x (List.mem_cons_of_mem _ hx)) e2 b hb
theorem sel_dr : ∀ {avs : List AV}, (∀ a ∈ avs, a = .dr ∨ ∃ d, a = .fz d) → ∀ a ∈ selM (avs.map AV.isOwn) avs, a = .dr
  | [], _, a, ha => by cases ha
  | x :: avs, h, a, ha => by
    have ih := sel_dr (avs := avs) fun y hy => h y (List.mem_cons_of_mem _ hy)
    rcases h x List.mem_cons_self with rfl | ⟨d, rfl⟩
    · rcases List.mem_cons.mp ha with rfl | ha
      · rfl
      · exact ih a ha
    · exact ih a ha
theorem reps_dr {K : PySem.W.Frag} {U H : Hp} : ∀ {bs : List AV} {vs : List V}, RepAs K U H bs vs → (∀ b ∈ bs, b = .dr) → ownAs bs vs = ownAs (bs.map fun _ => .dr) vs ∧ ∀ p ∈ ownAs bs vs, Dr U H p
  | [], _, h, _ => by
    rw [show _ = [] from h]
    exact ⟨rfl, fun p hp => by cases hp⟩
  | b :: bs, _, ⟨v, r, e, h1, h2⟩, k => by
    subst e
    have e1 := k b List.mem_cons_self
    subst e1
    obtain ⟨i1, i2⟩ := reps_dr h2 fun x hx => k x (List.mem_cons_of_mem _ hx)
    refine ⟨by show own .dr v ++ ownAs bs r = own .dr v ++ ownAs (bs.map fun _ => .dr) r; rw [i1], fun p hp => ?_⟩
    rcases List.mem_append.mp hp with z | z
    · obtain ⟨s, rfl, d⟩ := h1
      rw [List.mem_singleton.mp z]
      exact d
    · exact i2 p z
theorem run_body {K : PySem.W.Frag} {ks : List Bool} {nl : Nat} {a : AS} {vs : List V} {H : Hp} {Q : VK} {E : XK} {t : TS} {σ : L2.St} {tb : List Addr} (h : spD K tb (bodyA ks nl a) vs H Q E) (hσ : σ = vs.map some ++ List.replicate nl none) (hs : ∀ pk pv O M U0 H0 X, SimS ⟨K, ks, pk, pv, O, M, U0, H0, X, fun _ => E, tb⟩ t a) :
    t { nx := fun _ H' => Q .non H', rt := Q } σ H := by
  obtain ⟨U, avs, q, x, sU, tbs, rep, kd, l1, ⟨hk, hb⟩, kq, kx⟩ := h
  subst hσ
  have lv : avs.length = vs.length := rep.length
  have dr := dr_args rep kd
  have ek : avs.map AV.isOwn = ks := (isDr_own kd).trans hk
  have nd : (ownAs avs vs).Nodup := by
    match ownAs avs vs, l1 with
    | [], _ => simp
    | [p], _ => simp
  have pdr : ∀ {U' H' : Hp} {as : List (Option AV)}, ParRep ⟨K, avs.map AV.isOwn, (selM (avs.map AV.isOwn) avs).map AV.kind, selM (avs.map AV.isOwn) vs, ownL (avs.map some ++ List.replicate nl none) (vs.map some ++ List.replicate nl none), ownAs avs vs, U, H, fun e _ => x e, fun _ => E, tb⟩ U' H' as → ∀ p ∈ ownAs avs vs, Dr U' H' p := fun {U' H' as} pr => by
    obtain ⟨bs, _, r, k, _⟩ := pr.ex
    have hb := kind_dr (sel_dr kd) k
    obtain ⟨o1, o2⟩ := reps_dr r hb
    have e0 := sel_all avs vs lv
    obtain ⟨o3, _⟩ := reps_dr (K := K) (U := U) (H := H) (bs := selM (avs.map AV.isOwn) avs) (vs := selM (avs.map AV.isOwn) vs) (by
      have go : ∀ (ks : List Bool) {as : List AV} {ws : List V}, Paired (RepA K U H) as ws → RepAs K U H (selM ks as) (selM ks ws) := by
        intro ks
        induction ks with
        | nil => intro as ws h; cases h <;> rfl
        | cons b ks ih =>
          intro as ws h
          cases h with
          | nil => cases b <;> rfl
          | cons h t => cases b with
            | true => exact ⟨_, _, rfl, h, ih t⟩
            | false => exact ih t
      exact go _ rep) (sel_dr kd)
    have len : bs.length = (selM (avs.map AV.isOwn) avs).length := by
      have := congrArg List.length k
      rwa [List.length_map, List.length_map] at this
    have em : bs.map (fun _ => AV.dr) = (selM (avs.map AV.isOwn) avs).map (fun _ => AV.dr) := by
      rw [List.map_const', List.map_const', len]
    intro p hp
    rw [← e0, o3, ← em, ← o1] at hp
    exact o2 p hp
  have I := start_DI (K := K) (nl := nl) (X := fun e _ => x e) (E := E) sU rep nd (fun p hp => (dr p hp).out) ⟨fun U' H' _ as ex cls o _ _ g pr xr z => kx U' H' ex cls o g xr (pdr pr) z, tbs⟩
  have hs' : SimS ⟨K, avs.map AV.isOwn, (selM (avs.map AV.isOwn) avs).map AV.kind, selM (avs.map AV.isOwn) vs, ownL (avs.map some ++ List.replicate nl none) (vs.map some ++ List.replicate nl none), ownAs avs vs, U, H, fun e _ => x e, fun _ => E, tb⟩ t a := by rw [ek]; exact hs _ _ _ _ _ _ _
  refine hs' U H _ _ _ _ rfl I hb ⟨?_, ?_, ?_, ?_⟩
  · exact fun U' H' σ' ρ' _ I z => kq U' H' (.fz .non) .non I.gr rfl .fz (pdr I.pars) z
  · exact fun U' H' σ' ρ' av v I r n1 n z => kq U' H' av v I.gr r ⟨n1, fun p hp => ⟨(n p hp).1, (n p hp).2.1⟩⟩ (pdr I.pars) z
  · exact fun U' H' σ' ρ' _ I z => z.elim
  · exact fun U' H' σ' ρ' _ I z => z.elim
theorem spD_len {K : PySem.W.Frag} {ks : List Bool} {nl : Nat} {a : AS} {vs : List V} {H : Hp} {Q : VK} {E : XK} {tb : List Addr} (h : spD K tb (bodyA ks nl a) vs H Q E) : vs.length = ks.length := by
  obtain ⟨U, avs, q, x, sU, tbs, rep, kd, l1, ⟨hk, hb⟩, kq, kx⟩ := h
  rw [← rep.length, ← hk, List.length_map]
end SW
namespace SW
open PySem PySem.Spec PyProof.Rows L2
variable [QN]
section
variable {K : PySem.W.Frag} {U H U' H' : Hp}
def oI (g : Int → Int → D) : D → D → (D → Prop) → Prop := fun d e Q => intQ (fun i => intQ (fun j => Q (g i j)) e) d
def oIC (C : Int → Int → Prop) (g : Int → Int → D) : D → D → (D → Prop) → Prop := fun d e Q => intQ (fun i => intQ (fun j => C i j ∧ Q (g i j)) e) d
theorem op_i0 {gV : Int → Int → V} {gD : Int → Int → D} (h : ∀ i j U, R K U (gD i j) (gV i j)) : OpD K (rI0 gV) (oI gD) := fun U H v w d e Q q s cd ce z k => by
  obtain ⟨i, rfl, y⟩ := intQ_of z
  obtain ⟨j, rfl, y2⟩ := intQ_of y
  exact ⟨i, j, cd.int, ce.int, k U H _ _ (Gr.refl s) (h i j U) y2⟩
theorem op_ic {C : Int → Int → Prop} {gV : Int → Int → V} {gD : Int → Int → D} (h : ∀ i j U, R K U (gD i j) (gV i j)) : OpD K (rI C gV) (oIC C gD) := fun U H v w d e Q q s cd ce z k => by
  obtain ⟨i, rfl, y⟩ := intQ_of z
  obtain ⟨j, rfl, z1, y2⟩ := intQ_of y
  exact ⟨i, j, cd.int, ce.int, z1, k U H _ _ (Gr.refl s) (h i j U) y2⟩
def oU (g : Int → D) : D → (D → Prop) → Prop := fun d Q => intQ (fun i => Q (g i)) d
theorem un_i {gV : Int → V} {gD : Int → D} (h : ∀ i U, R K U (gD i) (gV i)) : UnD K (rU gV) (oU gD) := fun U H v d Q q s cd z k => by
  obtain ⟨i, rfl, z⟩ := intQ_of z
  exact ⟨i, cd.int, k U H _ _ (Gr.refl s) (h i U) z⟩
abbrev oAdd := oI fun i j => .int (i + j)
abbrev oSub := oI fun i j => .int (i - j)
abbrev oDiv := oIC CDiv fun i j => .int (i / j)
abbrev oMod := oIC (fun _ j => 0 < j) fun i j => .int (i % j)
abbrev oNeg := oU fun i => .int (-i)
def eqS : D → D → Option Bool
  | .int a, .int b => some (decide (a = b))
  | .str a, .str b => some (decide (a = b))
  | .bl a, .bl b => some (decide (a = b))
  | .non, .non => some true
  | .non, .int _ => some false
  | .int _, .non => some false
  | .non, .bl _ => some false
  | .bl _, .non => some false
  | .non, .str _ => some false
  | .str _, .non => some false
  | .int _, .str _ => some false
  | .str _, .int _ => some false
  | .bl _, .str _ => some false
  | .str _, .bl _ => some false
  | _, _ => none
def someQ {α : Type} (Q : α → Prop) : Option α → Prop
  | some x => Q x
  | none => False
theorem someQ_of {α : Type} {Q : α → Prop} {o : Option α} (h : someQ Q o) : ∃ x, o = some x ∧ Q x := by
  cases o with
  | none => exact h.elim
  | some x => exact ⟨x, rfl, h⟩
theorem decide_inj {α β : Type} [DecidableEq α] [DecidableEq β] {f : α → β} (hf : ∀ a b, f a = f b → a = b) (a b : α) : decide (f a = f b) = decide (a = b) := by
  by_cases h : a = b
  · rw [decide_eq_true h, decide_eq_true (congrArg f h)]
  · rw [decide_eq_false h, decide_eq_false (fun z => h (hf a b z))]
theorem eqS_of {d e : D} {v w : V} {b : Bool} (cd : CR K U H d v) (ce : CR K U H e w) (h : eqS d e = some b) : scal v w = true ∧ decide (v = w) = b := by
  unfold eqS at h
  split at h <;> first
    | (cases h; rw [cd.int, ce.int]; exact ⟨rfl, decide_inj (fun _ _ => V.int.inj) _ _⟩)
    | (cases h; rw [cd.str, ce.str]; exact ⟨rfl, decide_inj (fun _ _ => V.str.inj) _ _⟩)
    | (cases h; rw [cd.bl, ce.bl]; exact ⟨rfl, decide_inj (fun _ _ => V.bl.inj) _ _⟩)
    | (cases h; rw [cd.non, ce.non]; exact ⟨rfl, rfl⟩)
    | (cases h; rw [cd.non, ce.int]; exact ⟨rfl, rfl⟩)
    | (cases h; rw [cd.int, ce.non]; exact ⟨rfl, rfl⟩)
    | (cases h; rw [cd.non, ce.bl]; exact ⟨rfl, rfl⟩)
    | (cases h; rw [cd.bl, ce.non]; exact ⟨rfl, rfl⟩)
    | (cases h; rw [cd.non, ce.str]; exact ⟨rfl, rfl⟩)
    | (cases h; rw [cd.str, ce.non]; exact ⟨rfl, rfl⟩)
    | (cases h; rw [cd.int, ce.str]; exact ⟨rfl, rfl⟩)
    | (cases h; rw [cd.str, ce.int]; exact ⟨rfl, rfl⟩)
    | (cases h; rw [cd.bl, ce.str]; exact ⟨rfl, rfl⟩)
    | (cases h; rw [cd.str, ce.bl]; exact ⟨rfl, rfl⟩)
    | cases h
def oEq : D → D → (D → Prop) → Prop := fun d e Q => someQ (fun b => Q (.bl b)) (eqS d e)
def oNe : D → D → (D → Prop) → Prop := fun d e Q => someQ (fun b => Q (.bl (!b))) (eqS d e)
theorem op_eqS : OpD K rEq oEq := fun U H v w d e Q q s cd ce z k => by
  obtain ⟨b, h, z⟩ := someQ_of z
  obtain ⟨h1, h2⟩ := eqS_of cd ce h
  refine ⟨h1, ?_⟩
  rw [h2]
  exact k U H (.bl b) _ (Gr.refl s) rfl z
theorem op_neS : OpD K rNe oNe := fun U H v w d e Q q s cd ce z k => by
  obtain ⟨b, h, z⟩ := someQ_of z
  obtain ⟨h1, h2⟩ := eqS_of cd ce h
  refine ⟨h1, ?_⟩
  rw [h2]
  exact k U H (.bl (!b)) _ (Gr.refl s) rfl z
def isNonD : D → Bool
  | .non => true
  | _ => false
def nonQ (P : Prop) : D → Prop
  | .non => P
  | _ => False
def oIsN : D → D → (D → Prop) → Prop := fun d e Q => nonQ (Q (.bl (isNonD d))) e
def oNotN : D → D → (D → Prop) → Prop := fun d e Q => nonQ (Q (.bl (!isNonD d))) e
def flatD : D → Bool
  | .non => true
  | .bl _ => true
  | .int _ => true
  | .str _ => true
  | _ => false
def eqF : D → D → Bool
  | .non, .non => true
  | .bl a, .bl b => a == b
  | .bl a, .int b => (if a then 1 else 0) == b
  | .int a, .bl b => a == (if b then 1 else 0)
  | .int a, .int b => a == b
  | .str a, .str b => a == b
  | _, _ => false
theorem flat_r {d : D} {v : V} (h : flatD d = true) (r : R K U d v) : flatV v = true := by
  cases d <;> first | (rw [show v = _ from r]; rfl) | cases h
theorem eqF_r {d e : D} {v w : V} (h : flatD d = true) (h' : flatD e = true) (r : R K U d v) (r' : R K U e w) : eqV v w = eqF d e := by
  cases d <;> first | (rw [show v = _ from r]; cases e <;> first | (rw [show w = _ from r']; rfl) | cases h') | cases h
def inF (d : D) (ds : List D) : Bool := ds.any fun y => eqF y d
theorem inF_r {d : D} {v : V} (hd : flatD d = true) (r : R K U d v) : ∀ {ds : List D} {xs : List V}, Rs K U ds xs → ds.all flatD = true → xs.all flatV = true ∧ inV v xs = inF d ds
  | [], _, h, _ => by
    rw [show _ = [] from h]
    exact ⟨rfl, rfl⟩
  | e :: ds, _, ⟨w, ws, h1, h2, h3⟩, hf => by
    subst h1
    rw [List.all_cons, Bool.and_eq_true] at hf
    obtain ⟨k1, k2⟩ := inF_r hd r h3 hf.2
    refine ⟨by rw [List.all_cons, flat_r hf.1 h2, k1]; rfl, ?_⟩
    show (eqV w v || inV v ws) = (eqF e d || inF d ds)
    rw [k2, eqF_r hf.1 hd h2 r]
def seqQ (Q : List D → Prop) : D → Prop
  | .lst ds => Q ds
  | .tup ds => Q ds
  | _ => False
theorem seqQ_of {Q : List D → Prop} {d : D} (h : seqQ Q d) : ∃ ds, (d = .lst ds ∨ d = .tup ds) ∧ Q ds := by
  cases d <;> first | exact ⟨_, .inl rfl, h⟩ | exact ⟨_, .inr rfl, h⟩ | exact h.elim
theorem CR.flat {d : D} {v : V} (h : CR K U H d v) (f : flatD d = true) : R K U d v := by
  obtain ⟨av, h1, h2⟩ := h
  cases av <;> first | (cases h2; exact h1) | (cases h2; cases f) | cases h2
theorem CR.seq {d : D} {v : V} {ds : List D} (h : CR K U H d v) (s : Same U H) (e : d = .lst ds ∨ d = .tup ds) : ∃ a xs, v = .ref a ∧ (SqL K H a xs ∨ SqT K H a xs) ∧ Rs K U ds xs := by
  rcases e with rfl | rfl
  · obtain ⟨a, xs, h1, h2, h3⟩ := h.lst s
    exact ⟨a, xs, h1, .inl (SqL.of h2), h3⟩
  · obtain ⟨a, xs, h1, h2, h3⟩ := h.tup s
    exact ⟨a, xs, h1, .inr h2, h3⟩
def oNotIn : D → D → (D → Prop) → Prop := fun d e Q => seqQ (fun ds => flatD d = true ∧ ds.all flatD = true ∧ Q (.bl (!inF d ds))) e
theorem op_notInS' : OpD K (rIn K true) oNotIn := fun U H v w d e Q q s cd ce z k => by
  obtain ⟨ds, he, z1, z2, z⟩ := seqQ_of z
  obtain ⟨a, xs, rfl, h1, h2⟩ := ce.seq s he
  have r := cd.flat z1
  obtain ⟨k1, k2⟩ := inF_r z1 r h2 z2
  refine ⟨a, xs, rfl, h1, flat_r z1 r, k1, ?_⟩
  rw [k2]
  exact k U H (.bl _) _ (Gr.refl s) rfl z
theorem atI_r {ds : List D} {xs : List V} {k : Int} {d : D} (r : Rs K U ds xs) (h : atI ds k = some d) : ∃ v, atI xs k = some v ∧ R K U d v := by
  unfold atI at h ⊢
  rw [← r.len]
  cases e : ixN ds.length k with
  | none => rw [e] at h; cases h
  | some j =>
    rw [e] at h
    obtain ⟨v, h1, h2⟩ := r.at j d h
    exact ⟨v, h1, h2⟩
def oIxL : D → D → (D → Prop) → Prop := fun d e Q => lstQ (fun ds => intQ (fun k => someQ Q (atI ds k)) e) d
def oIxT : D → D → (D → Prop) → Prop := fun d e Q => tupQ (fun ds => intQ (fun k => someQ Q (atI ds k)) e) d
theorem op_ixL : OpD K (rIxL K) oIxL := fun U H v w d e Q q s cd ce z k => by
  obtain ⟨ds, rfl, z⟩ := lstQ_of z
  obtain ⟨i, rfl, z⟩ := intQ_of z
  obtain ⟨x, h, z⟩ := someQ_of z
  obtain ⟨a, xs, rfl, h1, h2⟩ := cd.lst s
  obtain ⟨u, e1, e2⟩ := atI_r h2 h
  exact ⟨a, xs, i, u, rfl, ce.int, SqL.of h1, e1, k U H x u (Gr.refl s) e2 z⟩
theorem op_ixT : OpD K (rIxT K) oIxT := fun U H v w d e Q q s cd ce z k => by
  obtain ⟨ds, rfl, z⟩ := tupQ_of z
  obtain ⟨i, rfl, z⟩ := intQ_of z
  obtain ⟨x, h, z⟩ := someQ_of z
  obtain ⟨a, xs, rfl, h1, h2⟩ := cd.tup s
  obtain ⟨u, e1, e2⟩ := atI_r h2 h
  exact ⟨a, xs, i, u, rfl, ce.int, h1, e1, k U H x u (Gr.refl s) e2 z⟩
def strQ (Q : Str → Prop) : D → Prop
  | .str x => Q x
  | _ => False
theorem strQ_of {Q : Str → Prop} {d : D} (h : strQ Q d) : ∃ x, d = .str x ∧ Q x := by
  cases d <;> first | exact ⟨_, rfl, h⟩ | exact h.elim
def oIxS : D → D → (D → Prop) → Prop := fun d e Q => strQ (fun x => x.length ≤ 1000000 ∧ intQ (fun k => someQ (fun c => Q (.str ⟨#[c]⟩)) (atI x.cps.toList k)) e) d
theorem op_ixS : OpD K rIxS oIxS := fun U H v w d e Q q s cd ce z k => by
  obtain ⟨x, rfl, z1, z⟩ := strQ_of z
  obtain ⟨i, rfl, z⟩ := intQ_of z
  obtain ⟨c, h, z⟩ := someQ_of z
  exact ⟨x, i, c, cd.str, ce.int, le_size z1, h, k U H (.str _) _ (Gr.refl s) rfl z⟩
def oCat : D → D → (AV → Prop) → Prop := fun d e Q => lstQ (fun xs => lstQ (fun ys => xs.length + ys.length ≤ 1000000 ∧ Q (.ol (xs ++ ys))) e) d
theorem own_new {p : Addr} {xs : List V} {ds : List D} {q : VK} {Q : AV → Prop} (s : Same U H) (n : H p = none) (r : Rs K U ds xs) (z : Q (.ol ds))
    (k : ∀ U' H' av u, Gr [] U H U' H' → RepA K U' H' av u → Fresh U' H av u → Q av → q u H') : q (.ref p) (upd H p (.lst xs)) :=
  k U _ (.ol ds) (.ref p) ((Gr.refl s).newM n) ⟨p, xs, rfl, upd_same, r⟩ (.one rfl (s.free n) n) z
theorem op_catD : OpO K rCat oCat := fun U H v w d e Q q s cd ce z k => by
  obtain ⟨xs, rfl, y⟩ := lstQ_of z
  obtain ⟨ys, rfl, z1, z⟩ := lstQ_of y
  obtain ⟨a, us, rfl, h1, h2⟩ := cd.lst s
  obtain ⟨b, ws, rfl, h3, h4⟩ := ce.lst s
  exact ⟨a, b, us, ws, rfl, rfl, h1, h3, le_size (by rw [← h2.len, ← h4.len]; exact z1), fun p np => own_new s np (h2.app h4) z k⟩
def oCatT : D → D → (D → Prop) → Prop := fun d e Q => tupQ (fun xs => tupQ (fun ys => xs.length + ys.length ≤ 1000000 ∧ Q (.tup (xs ++ ys))) e) d
theorem op_catTD : OpD K (rCatA K) oCatT := fun U H v w d e Q q s cd ce z k => by
  obtain ⟨xs, rfl, y⟩ := tupQ_of z
  obtain ⟨ys, rfl, z1, z⟩ := tupQ_of y
  have cd' := cd.tup s
  have ce' := ce.tup s
  have rd := cd.tupR
  have re := ce.tupR
  obtain ⟨a, us, rfl, h1, h2⟩ := cd'
  obtain ⟨b, ws, rfl, h3, h4⟩ := ce'
  refine ⟨a, b, us, ws, rfl, rfl, h1, h3, le_size (by rw [← h2.len, ← h4.len]; exact z1), fun e0 => ?_, fun _ e0 => ?_, fun _ _ p np => ?_⟩
  · have : xs = [] := List.length_eq_zero_iff.mp (by rw [h2.len, e0]; rfl)
    subst this
    exact k U H _ _ (Gr.refl s) re z
  · have : ys = [] := List.length_eq_zero_iff.mp (by rw [h4.len, e0]; rfl)
    subst this
    rw [List.append_nil] at z
    exact k U H _ _ (Gr.refl s) rd z
  · have g := (Gr.refl (M := []) s).new (o := .tup (us ++ ws)) np
    exact k _ _ (.tup (xs ++ ys)) (.ref p) g (R.tup upd_same (Rs.mono g.vv _ _ (h2.app h4))) z
def oLen : List D → (D → Prop) → Prop := oneQ₂ where
  oneQ₂ : List D → (D → Prop) → Prop := fun ds Q => oneQ (seqQ fun xs => Q (.int xs.length)) ds
theorem bu_len : BuD K (rLenK K) oLen := fun U H vs ds Q q s r z k => by
  obtain ⟨d, rfl, z⟩ := oneQ_of z
  obtain ⟨xs, e, z⟩ := seqQ_of z
  obtain ⟨v, rfl, c⟩ := paired1 r
  obtain ⟨a, us, rfl, h1, h2⟩ := c.seq s e
  refine ⟨a, us, rfl, h1, ?_⟩
  rw [← h2.len]
  exact k U H (.int _) _ (Gr.refl s) rfl z
def oList : List D → (AV → Prop) → Prop := fun ds Q => oneQ (seqQ fun xs => Q (.ol xs)) ds
theorem bu_list : BuO K (rListK K) oList := fun U H vs ds Q q s r z k => by
  obtain ⟨d, rfl, z⟩ := oneQ_of z
  obtain ⟨xs, e, z⟩ := seqQ_of z
  obtain ⟨v, rfl, c⟩ := paired1 r
  obtain ⟨a, us, rfl, h1, h2⟩ := c.seq s e
  exact ⟨a, us, rfl, h1, fun p np => own_new s np h2 z k⟩
def oTuple : List D → (D → Prop) → Prop := fun ds Q => oneQ (seqQ fun xs => Q (.tup xs)) ds
theorem bu_tuple : BuD K (rTupleK K) oTuple := fun U H vs ds Q q s r z k => by
  obtain ⟨d, rfl, z⟩ := oneQ_of z
  obtain ⟨xs, e, z⟩ := seqQ_of z
  obtain ⟨v, rfl, c⟩ := paired1 r
  rcases e with rfl | rfl
  · obtain ⟨a, us, rfl, h1, h2⟩ := c.lst s
    refine ⟨a, us, rfl, .inl ⟨SqL.of h1, fun p np => ?_⟩⟩
    have g := (Gr.refl (M := []) s).new (o := .tup us) np
    exact k _ _ (.tup xs) (.ref p) g (R.tup upd_same (Rs.mono g.vv _ _ h2)) z
  · have re := c.tupR
    obtain ⟨a, us, rfl, h1, h2⟩ := c.tup s
    exact ⟨a, us, rfl, .inr ⟨h1, k U H _ _ (Gr.refl s) re z⟩⟩
def strsOf : List D → Option (List Str)
  | [] => some []
  | .str i :: ds => (strsOf ds).map (i :: ·)
  | _ => none
theorem strsOf_map (ns : List Str) : strsOf (ns.map D.str) = some ns := by
  induction ns with
  | nil => rfl
  | cons n ns ih => show (strsOf (ns.map D.str)).map (n :: ·) = _; rw [ih]; rfl
theorem strsOf_eq : ∀ {ds : List D} {ns : List Str}, strsOf ds = some ns → ds = ns.map D.str
  | [], ns, h => by cases h; rfl
  | d :: ds, ns, h => by
    cases d with
    | str i =>
      have h' : (strsOf ds).map (i :: ·) = some ns := h
      cases e : strsOf ds with
      | none => rw [e] at h'; cases h'
      | some ms => rw [e] at h'; cases h'; rw [strsOf_eq e]; rfl
    | _ => cases h
/-- isinstance with a built-in class -/
def tyD : D → Option String
  | .int _ => some "int"
  | .bl _ => some "bool"
  | .str _ => some "str"
  | .non => some "NoneType"
  | .lst _ => some "list"
  | .tup _ => some "tuple"
  | _ => none
def isiD (n m : String) : Bool := n == m || (n == "bool" && m == "int")
def tyQ (Q : String → Prop) : D → Prop
  | .ty n => Q n
  | _ => False
theorem tyQ_of {Q : String → Prop} {d : D} (h : tyQ Q d) : ∃ n, d = .ty n ∧ Q n := by
  cases d <;> first | exact ⟨_, rfl, h⟩ | exact h.elim
def oIsi : List D → (D → Prop) → Prop := fun ds Q => twoQ (fun d e => tyQ (fun m => someQ (fun n => (m = "int" ∨ m = "bool" ∨ m = "str" ∨ m = "list" ∨ m = "tuple") ∧ Q (.bl (isiD n m))) (tyD d)) e) ds
theorem kit_all {n m : String} (hn : n = "int" ∨ n = "bool" ∨ n = "str" ∨ n = "NoneType" ∨ n = "list" ∨ n = "tuple") (hm : m = "int" ∨ m = "bool" ∨ m = "str" ∨ m = "list" ∨ m = "tuple") : PySem.W.kitOne K (.type n) (.type m) = some (isiD n m) := by
  rcases hn with rfl | rfl | rfl | rfl | rfl | rfl <;> rcases hm with rfl | rfl | rfl | rfl | rfl <;> exact kit_ty (by decide +kernel)
theorem bu_isi : BuD K (rIsi K) oIsi := fun U H vs ds Q q s r z k => by
  obtain ⟨d, e, rfl, z⟩ := twoQ_of z
  obtain ⟨m, rfl, z⟩ := tyQ_of z
  obtain ⟨n, hn, hm, z⟩ := someQ_of z
  obtain ⟨v, w, rfl, cd, ce⟩ := paired2 r
  rw [ce.ty]
  have go : ∀ {t : Value}, TyX K H v t → t = .type n → (n = "int" ∨ n = "bool" ∨ n = "str" ∨ n = "NoneType" ∨ n = "list" ∨ n = "tuple") → rIsi K [v, .ty m] H q := fun {t} ht et hn => by
    subst et
    exact ⟨v, .ty m, .type n, .type m, isiD n m, rfl, .ty _, ht, kit_all hn hm, k U H (.bl _) _ (Gr.refl s) rfl z⟩
  cases d with
  | int i => cases hn; rw [cd.int] at go ⊢; exact go (.base (.int _)) rfl (by decide)
  | bl i => cases hn; rw [cd.bl] at go ⊢; exact go (.base (.bl _)) rfl (by decide)
  | str i => cases hn; rw [cd.str] at go ⊢; exact go (.base (.str _)) rfl (by decide)
  | non => cases hn; rw [cd.non] at go ⊢; exact go (.base .non) rfl (by decide)
  | lst ds =>
    cases hn
    obtain ⟨a, xs, rfl, h1, _⟩ := cd.lst s
    exact go (.base (.lst h1)) rfl (by decide)
  | tup ds =>
    cases hn
    obtain ⟨a, xs, rfl, h1, _⟩ := cd.tup s
    rcases h1 with (h1 | ⟨o, h1⟩) | ⟨o, its, n, h1, h2, _⟩
    · exact go (.base (.tup h1)) rfl (by decide)
    · exact go (.fTuple h1) rfl (by decide)
    · exact go (.kTuple h1 h2) rfl (by decide)
  | _ => cases hn
end
theorem op_catAK {X : Cx} {K : PySem.W.Frag} (h : X.K = K) : OpR X (binaryOp .Add) (rCatA K) := by subst h; exact op_catA
theorem sl_tupAK {X : Cx} {K : PySem.W.Frag} (h : X.K = K) : SlR X (rSlA K) := by subst h; exact sl_tupA
def A_draw : AF := fun avs q _ => match avs with
  | [.dr, .fz (.int many)] => 0 < many ∧ many < 2 ^ 200 ∧ ∀ r : Int, 0 ≤ r → r < many → q (.fz (.int r))
  | _ => False
theorem FnOk.imp {P : Program} {w : World} {K : PySem.W.Frag} {mg : Str → Option Value} {base : Heap} {CX : CXT} {k : Nat} {f : Addr} {fd : FuncData} {ps : List Str} {sp sp' : Sp} (F : FnOk P w K mg base CX k f fd ps sp) (h : ∀ vs H Q E, sp' vs H Q E → sp vs H Q E) : FnOk P w K mg base CX k f fd ps sp' :=
  ⟨fun vs H Q E z => F.len vs H Q E (h vs H Q E z), fun A outer s H args us vs Q E r e b v z => F.run A outer s H args us vs Q E r e b v (h vs H Q E z)⟩
theorem draw_imp {K : PySem.W.Frag} {tb : List Addr} : ∀ vs H Q E, spD K tb A_draw vs H Q E → spDraw vs H Q E := by
  intro vs H Q E h
  obtain ⟨U, avs, q, x, sU, tbs, rep, kd, l1, hb, kq, kx⟩ := h
  unfold A_draw at hb
  split at hb
  · rename_i many
    obtain ⟨v, w, rfl, ⟨s, rfl, dr⟩, rw'⟩ := paired2 rep
    have ew : w = .int many := rw'
    subst ew
    refine ⟨s, many, U, rfl, hb.1, hb.2.1, sU, dr, fun r H' r0 r1 s' d' ho => ?_⟩
    refine kq U H' (.fz (.int r)) (.int r) ⟨Same.refl U, s', fun a o m _ h => ?_, fun a h => ?_, fun a h _ => h, fun P h => tab_keep h fun b o e n => ?_, id⟩ rfl .fz (fun p hp => ?_) (hb.2.2 r r0 r1)
    · rw [ho a (fun z => m (by rw [z]; exact List.mem_singleton.mpr rfl))]
      exact h
    · by_cases z : a = s
      · subst z
        exact d'.some
      · rw [ho a z]
        exact h
    · rw [ho b fun z => by
        subst z
        obtain ⟨y, e1, e2⟩ := dr.pl
        rw [e1] at e
        cases e
        rw [e2] at n
        cases n]
      exact e
    · have hp' : p ∈ [s] := hp
      rw [List.mem_singleton.mp hp']
      exact d'
  · exact hb.elim
theorem law_run {K : PySem.W.Frag} {t : TS} {a : AS} {U H U' H' : Hp} {s x : Addr} {nl : Nat} {Q : VK} {n b c' : L2.St → Hp → Prop} {tb : List Addr} (tbs : TbOk tb U H) (g : Gr [] U H U' H') (D : Dr U' H' s) (hn : H s = none) (q : ∀ H', Q (.bl true) H')
    (hs : ∀ U0 H0 X E, SimS ⟨K, [], [], [], List.replicate (nl + 2) [], [], U0, H0, X, E, tb⟩ t a) (ha : a ⟨fun _ => False, fun av _ => av = .fz (.bl true), fun _ => False, fun _ => False, fun _ _ => False⟩ (none :: some .dr :: List.replicate nl none)) :
    t ⟨n, Q, b, c'⟩ (some (.ref x) :: some (.ref s) :: List.replicate nl none) H' := by
  have hrep : ∀ m : Nat, Paired (RepS K U' H') (List.replicate m none) (List.replicate m none) := fun m => by
    induction m with
    | zero => exact .nil
    | succ m ih => exact .cons trivial ih
  have how : ∀ m : Nat, owns (List.replicate m none) (List.replicate m none) = [] := fun m => by
    induction m with
    | zero => rfl
    | succ m ih => exact ih
  refine hs U H (fun _ _ => False) (fun _ _ _ _ => False) U' H' (some (.ref x) :: some (.ref s) :: List.replicate nl none) (none :: some .dr :: List.replicate nl none) _ _ rfl ⟨g, .cons trivial (.cons ⟨s, rfl, D⟩ (hrep nl)), ?_, ?_, ⟨rfl, [], rfl, rfl⟩, ⟨fun _ _ _ _ _ _ _ _ _ _ _ _ z => z, tbs⟩, ?_, ?_, ?_⟩ ha ⟨fun _ _ _ _ _ _ z => z.elim, ?_, fun _ _ _ _ _ _ z => z.elim, fun _ _ _ _ _ _ z => z.elim⟩
  · show ([] ++ ([s] ++ owns (List.replicate nl none) (List.replicate nl none))).Nodup
    rw [how]
    simp
  · intro p hp
    have hp' : p ∈ ([] ++ ([s] ++ owns (List.replicate nl none) (List.replicate nl none)) : List Addr) := hp
    rw [how] at hp'
    simp at hp'
    subst hp'
    exact ⟨D.out, .inr hn⟩
  · intro i av v e1 e2 p hp
    refine .inr ?_
    match i, e1, e2 with
    | 1, e1, e2 =>
      cases e1
      cases e2
      rw [List.mem_singleton.mp hp]
      exact hn
    | i + 2, e1, _ =>
      have e1' : (List.replicate nl (none : Option AV))[i]? = some (some av) := e1
      rw [List.getElem?_replicate] at e1'
      split at e1' <;> cases e1'
  · show (List.replicate (nl + 2) ([] : List Addr)).length = (List.replicate nl (none : Option V)).length + 1 + 1
    rw [List.length_replicate, List.length_replicate]
  · intro i _
    show (List.replicate (nl + 2) ([] : List Addr)).getD i [] = []
    rw [List.getD, List.getElem?_replicate]
    split <;> rfl
  · intro U2 H2 σ2 ρ2 av v I r _ _ z
    have z' : av = .fz (.bl true) := z
    subst z'
    rw [show v = .bl true from r]
    exact q H2
end SW
namespace SW
open PySem PySem.Spec PyProof.Rows L2
variable [QN]
mutual
def okD : Nat → D → Bool
  | _, .int _ => true
  | _, .bl _ => true
  | _, .non => true
  | _, .str x => PyData.strOk x
  | n + 1, .tup ds => okDs n ds
  | n + 1, .lst ds => okDs n ds
  | _, _ => false
def okDs : Nat → List D → Bool
  | _, [] => true
  | n, d :: ds => okD n d && okDs n ds
end
mutual
def toPy : D → PyData
  | .int i => .int i
  | .bl b => .bool b
  | .str x => .str x
  | .tup ds => .tuple (toPys ds)
  | .lst ds => .list (toPys ds)
  | _ => .none
def toPys : List D → List PyData
  | [] => []
  | d :: ds => toPy d :: toPys ds
end
mutual
def deq : D → D → Bool
  | .non, .non => true
  | .bl a, .bl b => a == b
  | .bl a, .int j => (if a then 1 else 0) == j
  | .int i, .bl b => i == (if b then 1 else 0)
  | .int i, .int j => i == j
  | .str x, .str y => x == y
  | .lst xs, .lst ys => deqs xs ys
  | .tup xs, .tup ys => deqs xs ys
  | _, _ => false
def deqs : List D → List D → Bool
  | [], [] => true
  | x :: xs, y :: ys => deq x y && deqs xs ys
  | _, _ => false
end
mutual
theorem okD_lay : ∀ (n : Nat) (d : D), okD n d = true → Lay n (toPy d)
  | n, .int _, _ => lay_int
  | n, .bl _, _ => lay_bool
  | n, .non, _ => lay_none
  | n, .str x, h => ⟨by cases n <;> exact h, Nat.zero_le _⟩
  | 0, .tup _, h => by cases h
  | 0, .lst _, h => by cases h
  | n + 1, .tup ds, h => ⟨(okDs_lay n ds h).1, Nat.succ_le_succ (okDs_lay n ds h).2⟩
  | n + 1, .lst ds, h => ⟨(okDs_lay n ds h).1, Nat.succ_le_succ (okDs_lay n ds h).2⟩
  | n, .ty _, h => by cases n <;> cases h
  | n, .dK _ _, h => by cases n <;> cases h
  | n, .dT _ _, h => by cases n <;> cases h
  | n, .obj _ _ _, h => by cases n <;> cases h
  | n, .exn _ _ _ _ _, h => by cases n <;> cases h
theorem okDs_lay : ∀ (n : Nat) (ds : List D), okDs n ds = true → PyData.canLayAll0 (toPys ds) = true ∧ PyData.depthAll (toPys ds) ≤ n
  | n, [], _ => ⟨rfl, Nat.zero_le _⟩
  | n, d :: ds, h => by
    have h' : (okD n d && okDs n ds) = true := h
    rw [Bool.and_eq_true] at h'
    have h1 := okD_lay n d h'.1
    have h2 := okDs_lay n ds h'.2
    refine ⟨?_, ?_⟩
    · show ((toPy d).canLay0 && PyData.canLayAll0 (toPys ds)) = true
      rw [h1.1, h2.1]
      rfl
    · show max (toPy d).depth (PyData.depthAll (toPys ds)) ≤ n
      exact Nat.max_le.mpr ⟨h1.2, h2.2⟩
end
section
variable {K : PySem.W.Frag} {U H : Hp}
mutual
theorem okD_dp (s : Same U H) : ∀ (n : Nat) (d : D) (v : V), okD n d = true → R K U d v → Dp K H v (toPy d)
  | n, .int i, v, _, r => by rw [show v = .int i from r]; exact .int i
  | n, .bl i, v, _, r => by rw [show v = .bl i from r]; exact .bl i
  | n, .non, v, _, r => by rw [show v = .non from r]; exact .non
  | n, .str x, v, h, r => by rw [show v = .str x from r]; exact .str x
  | 0, .tup _, _, h, _ => by cases h
  | 0, .lst _, _, h, _ => by cases h
  | n + 1, .tup ds, v, h, ⟨a, xs, e, h1, h2⟩ => by rw [e]; exact .tup (Same.tup s h1) (okDs_dp s n ds xs h h2)
  | n + 1, .lst ds, v, h, ⟨a, xs, e, h1, h2⟩ => by rw [e]; exact .lst (SqL.of (s _ _ h1)) (okDs_dp s n ds xs h h2)
  | n, .ty _, _, h, _ => by cases n <;> cases h
  | n, .dK _ _, _, h, _ => by cases n <;> cases h
  | n, .dT _ _, _, h, _ => by cases n <;> cases h
  | n, .obj _ _ _, _, h, _ => by cases n <;> cases h
  | n, .exn _ _ _ _ _, _, h, _ => by cases n <;> cases h
theorem okDs_dp (s : Same U H) : ∀ (n : Nat) (ds : List D) (vs : List V), okDs n ds = true → Rs K U ds vs → DpAll K H vs (toPys ds)
  | n, [], vs, _, r => by rw [show vs = [] from r]; exact .nil
  | n, d :: ds, vs, h, ⟨v, r, e, h1, h2⟩ => by
    have h' : (okD n d && okDs n ds) = true := h
    rw [Bool.and_eq_true] at h'
    rw [e]
    exact .cons (okD_dp s n d v h'.1 h1) (okDs_dp s n ds r h'.2 h2)
end
theorem cr_dp {d : D} {v : V} (s : Same U H) (c : CR K U H d v) (h : okD 8 d = true) : Dp K H v (toPy d) := by
  obtain ⟨av, r, f⟩ := c
  cases av with
  | fz d' => cases f; exact okD_dp s 8 _ v h r
  | ol ds =>
    cases f
    obtain ⟨p, xs, rfl, e1, e2⟩ := r
    exact .lst (SqL.of e1) (okDs_dp s 7 ds xs h e2)
  | ok ks ds => cases f; cases h
  | ot ks ds => cases f; cases h
  | on ws as =>
    cases f
    obtain ⟨p, rfl, e1, e2⟩ := r
    exact .lst (SqL.of e1) (okDs_dp s 7 _ _ h (seens_r e2))
  | ut ws as =>
    cases f
    obtain ⟨p, rfl, e1, e2⟩ := r
    exact okD_dp s 8 _ _ h ⟨p, _, rfl, e1, seens_r e2⟩
  | ob C dx ns ws as => cases f; cases h
  | _ => cases f
end
mutual
theorem eqv_deq : ∀ (n m : Nat) (d e : D), okD n d = true → okD m e = true → PyData.eqv (toPy d) (toPy e) = deq d e
  | n, m, .int _, .int _, _, _ => rfl
  | n, m, .int _, .bl _, _, _ => rfl
  | n, m, .bl _, .int _, _, _ => rfl
  | n, m, .bl _, .bl _, _, _ => rfl
  | n, m, .non, .non, _, _ => rfl
  | n, m, .str _, .str _, _, _ => rfl
  | n + 1, m + 1, .tup xs, .tup ys, h, k => eqvs_deqs n m xs ys h k
  | n + 1, m + 1, .lst xs, .lst ys, h, k => eqvs_deqs n m xs ys h k
  | n, m, .int _, .non, _, _ => rfl
  | n, m, .int _, .str _, _, _ => rfl
  | n, m, .int _, .tup _, _, _ => rfl
  | n, m, .int _, .lst _, _, _ => rfl
  | n, m, .bl _, .non, _, _ => rfl
  | n, m, .bl _, .str _, _, _ => rfl
  | n, m, .bl _, .tup _, _, _ => rfl
  | n, m, .bl _, .lst _, _, _ => rfl
  | n, m, .non, .int _, _, _ => rfl
  | n, m, .non, .bl _, _, _ => rfl
  | n, m, .non, .str _, _, _ => rfl
  | n, m, .non, .tup _, _, _ => rfl
  | n, m, .non, .lst _, _, _ => rfl
  | n, m, .str _, .int _, _, _ => rfl
  | n, m, .str _, .bl _, _, _ => rfl
  | n, m, .str _, .non, _, _ => rfl
  | n, m, .str _, .tup _, _, _ => rfl
  | n, m, .str _, .lst _, _, _ => rfl
  | n, m, .tup _, .int _, _, _ => rfl
  | n, m, .tup _, .bl _, _, _ => rfl
  | n, m, .tup _, .non, _, _ => rfl
  | n, m, .tup _, .str _, _, _ => rfl
  | n, m, .tup _, .lst _, _, _ => rfl
  | n, m, .lst _, .int _, _, _ => rfl
  | n, m, .lst _, .bl _, _, _ => rfl
  | n, m, .lst _, .non, _, _ => rfl
  | n, m, .lst _, .str _, _, _ => rfl
  | n, m, .lst _, .tup _, _, _ => rfl
  | 0, m, .tup _, .tup _, h, _ => by cases h
  | n + 1, 0, .tup _, .tup _, _, k => by cases k
  | 0, m, .lst _, .lst _, h, _ => by cases h
  | n + 1, 0, .lst _, .lst _, _, k => by cases k
  | n, m, .ty _, _, h, _ => by cases n <;> cases h
  | n, m, .dK _ _, _, h, _ => by cases n <;> cases h
  | n, m, .dT _ _, _, h, _ => by cases n <;> cases h
  | n, m, .obj _ _ _, _, h, _ => by cases n <;> cases h
  | n, m, .exn _ _ _ _ _, _, h, _ => by cases n <;> cases h
  | n, m, _, .ty _, _, h => by cases m <;> cases h
  | n, m, _, .dK _ _, _, h => by cases m <;> cases h
  | n, m, _, .dT _ _, _, h => by cases m <;> cases h
  | n, m, _, .obj _ _ _, _, h => by cases m <;> cases h
  | n, m, _, .exn _ _ _ _ _, _, h => by cases m <;> cases h
theorem eqvs_deqs : ∀ (n m : Nat) (xs ys : List D), okDs n xs = true → okDs m ys = true → PyData.eqvAll (toPys xs) (toPys ys) = deqs xs ys
  | n, m, [], [], _, _ => rfl
  | n, m, x :: xs, y :: ys, h, k => by
    have h' : (okD n x && okDs n xs) = true := h
    have k' : (okD m y && okDs m ys) = true := k
    rw [Bool.and_eq_true] at h' k'
    show (PyData.eqv (toPy x) (toPy y) && PyData.eqvAll (toPys xs) (toPys ys)) = (deq x y && deqs xs ys)
    rw [eqv_deq n m x y h'.1 k'.1, eqvs_deqs n m xs ys h'.2 k'.2]
  | n, m, [], _ :: _, _, _ => rfl
  | n, m, _ :: _, [], _, _ => rfl
end
section
variable {K : PySem.W.Frag} {U H : Hp}
def oEqD : D → D → (D → Prop) → Prop := fun d e Q => okD 8 d = true ∧ okD 8 e = true ∧ Q (.bl (deq d e))
def oNeD : D → D → (D → Prop) → Prop := fun d e Q => okD 8 d = true ∧ okD 8 e = true ∧ Q (.bl (!deq d e))
theorem op_eqDD : OpD K (rEqD K) oEqD := fun U H v w d e Q q s cd ce z k => by
  obtain ⟨h1, h2, z⟩ := z
  refine ⟨toPy d, toPy e, cr_dp s cd h1, cr_dp s ce h2, (okD_lay 8 d h1).shaped (by decide), (okD_lay 8 e h2).shaped (by decide), ?_⟩
  rw [eqv_deq 8 8 d e h1 h2]
  exact k U H (.bl _) _ (Gr.refl s) rfl z
theorem op_neDD : OpD K (rNeD K) oNeD := fun U H v w d e Q q s cd ce z k => by
  obtain ⟨h1, h2, z⟩ := z
  refine ⟨toPy d, toPy e, cr_dp s cd h1, cr_dp s ce h2, (okD_lay 8 d h1).shaped (by decide), (okD_lay 8 e h2).shaped (by decide), ?_⟩
  rw [eqv_deq 8 8 d e h1 h2]
  exact k U H (.bl _) _ (Gr.refl s) rfl z
def inD (d : D) (ds : List D) : Bool := ds.any fun y => deq y d
theorem inD_py {n m : Nat} {d : D} (hd : okD n d = true) : ∀ (ds : List D), okDs m ds = true → ((toPys ds).any fun z => PyData.eqv z (toPy d)) = inD d ds
  | [], _ => rfl
  | e :: ds, h => by
    have h' : (okD m e && okDs m ds) = true := h
    rw [Bool.and_eq_true] at h'
    show (PyData.eqv (toPy e) (toPy d) || (toPys ds).any fun z => PyData.eqv z (toPy d)) = (deq e d || inD d ds)
    rw [eqv_deq m n e d h'.1 hd, inD_py hd ds h'.2]
def oNotInD : D → D → (D → Prop) → Prop := fun d e Q => lstQ (fun ds => okD 8 d = true ∧ okDs 7 ds = true ∧ Q (.bl (!inD d ds))) e
theorem op_notInDD : OpD K (rNotInD K) oNotInD := fun U H v w d e Q q s cd ce z k => by
  obtain ⟨ds, rfl, h1, h2, z⟩ := lstQ_of z
  refine ⟨toPy d, toPys ds, cr_dp s cd h1, cr_dp (d := .lst ds) s ce h2, (okD_lay 8 d h1).shaped (by decide), (okD_lay 8 (.lst ds) h2).shaped (by decide), ?_⟩
  rw [inD_py h1 ds h2]
  exact k U H (.bl _) _ (Gr.refl s) rfl z
end
theorem op_notInDK {X : Cx} {K : PySem.W.Frag} (h : X.K = K) (hu : X.A.units + 65 < cLine) : OpR X (compareOp .NotIn) (rNotInD K) := by subst h; exact op_notInD hu
abbrev AP := Env → (Option Int → Prop) → (Exn → Prop) → Prop
section
variable {c : DC} {U H : Hp} {te : TE} {e : AE}
def SimP (c : DC) (t : TO) (e : AP) : Prop := ∀ (U H : Hp) (σ : L2.St) (ρ : Env) (Q : Option Int → Prop) (q : Option Int → Hp → Prop), DI c U H σ ρ → e ρ Q (c.x ρ) →
  (∀ U' H' o, Gr (drs ρ σ) U H U' H' → DI c U' H' σ ρ → Q o → q o H') → t σ H q
def aNoPart : AP := fun _ Q _ => Q none
def aPart (e : AE) : AP := fun ρ Q X => e ρ (intQ fun i => Q (some i)) X
theorem sim_noPart : SimP c tNoPart aNoPart := fun U H σ ρ Q q I z k => k U H none (Gr.refl I.vh) I z
theorem sim_part (h : SimW c te e) : SimP c (tPart te) (aPart e) := fun U H σ ρ Q q I z k => h U H σ ρ _ _ I z fun U1 H1 d v g1 I1 w1 z1 => by
  obtain ⟨i, rfl, z2⟩ := intQ_of z1
  exact ⟨i, (w1.cr I1).int, k U1 H1 (some i) g1 I1 z2⟩
def SlD (K : PySem.W.Frag) (r : V → Option Int → Option Int → Hp → VK → Prop) (f : D → Option Int → Option Int → (D → Prop) → Prop) : Prop := ∀ (U H : Hp) (v : V) (d : D) (lo hi : Option Int) (Q : D → Prop) (q : VK), Same U H → CR K U H d v → f d lo hi Q →
  (∀ U' H' z u, Gr [] U H U' H' → R K U' z u → Q z → q u H') → r v lo hi H q
def aSl (f : D → Option Int → Option Int → (D → Prop) → Prop) (a : AE) (lo hi : AP) : AE := fun ρ Q X => a ρ (fun d => lo ρ (fun l => hi ρ (fun h => f d l h Q) X) X) X
def aSlO (f : D → Option Int → Option Int → (AV → Prop) → Prop) (a : AE) (lo hi : AP) : AO := fun ρ Q X => a ρ (fun d => lo ρ (fun l => hi ρ (fun h => f d l h Q) X) X) X
theorem sim_sl {r : V → Option Int → Option Int → Hp → VK → Prop} {f : D → Option Int → Option Int → (D → Prop) → Prop} {tl th : TO} {l h : AP} (hf : SlD c.K r f) (ha : SimW c te e) (hl : SimP c tl l) (hh : SimP c th h) : SimE c (tSl r te tl th) (aSl f e l h) := fun U H σ ρ Q q I z k =>
  ha U H σ ρ _ _ I z fun U1 H1 d v g1 I1 w1 z1 => hl U1 H1 σ ρ _ _ I1 z1 fun U2 H2 lo g2 I2 z2 => hh U2 H2 σ ρ _ _ I2 z2 fun U3 H3 hi g3 I3 z3 =>
    hf U3 H3 v d lo hi Q q I3.vh ((w1.mono (g2.vv.trans g3.vv)).cr I3) z3 fun U4 H4 y u g4 r4 z4 => k U4 H4 y u (((g1.trans g2).trans g3).trans g4.any) (I3.grow g4) r4 z4
def cutD (xs : List D) (lo hi : Option Int) : List D := (xs.drop (HT.sIx xs.length 0 lo)).take (HT.sIx xs.length xs.length hi - HT.sIx xs.length 0 lo)
theorem cut_r {K : PySem.W.Frag} {ds : List D} {xs : List V} (r : Rs K U ds xs) (lo hi : Option Int) : Rs K U (cutD ds lo hi) (cutV xs lo hi) := by
  unfold cutD cutV
  rw [r.len]
  exact (r.drop _).take _
def oSlL : D → Option Int → Option Int → (AV → Prop) → Prop := fun d lo hi Q => lstQ (fun ds => Q (.ol (cutD ds lo hi))) d
def oSlT : D → Option Int → Option Int → (D → Prop) → Prop := fun d lo hi Q => tupQ (fun ds => Q (.tup (cutD ds lo hi))) d
theorem sl_tD {K : PySem.W.Frag} : SlD K (rSlA K) oSlT := fun U H v d lo hi Q q s cd z0 k => by
  obtain ⟨ds, rfl, z⟩ := tupQ_of z0
  have rd := cd.tupR
  obtain ⟨a, xs, rfl, h1, h2⟩ := cd.tup s
  refine ⟨a, xs, rfl, h1, fun hw => ?_, fun _ p np => ?_⟩
  · have e : cutD ds lo hi = ds := by
      unfold cutD
      rw [h2.len, hw.1, hw.2, List.drop_zero, Nat.sub_zero, ← h2.len, List.take_length]
    rw [e] at z
    exact k U H _ _ (Gr.refl s) rd z
  · have g := (Gr.refl (M := []) s).new (o := .tup (cutV xs lo hi)) np
    exact k _ _ (.tup (cutD ds lo hi)) (.ref p) g (R.tup upd_same (Rs.mono g.vv _ _ (cut_r h2 lo hi))) z
def aRev (e : AE) : AO := fun ρ Q X => e ρ (lstQ fun ds => Q (.ol ds.reverse)) X
theorem Rs.rev {K : PySem.W.Frag} : ∀ {ds : List D} {xs : List V}, Rs K U ds xs → Rs K U ds.reverse xs.reverse
  | [], _, h => by rw [show _ = [] from h]; rfl
  | d :: ds, _, ⟨v, r, e, h1, h2⟩ => by
    rw [e, List.reverse_cons, List.reverse_cons]
    exact (Rs.rev h2).snoc h1
theorem sim_rev (h : SimW c te e) : SimO c (tRevL c.K te) (aRev e) := fun U H σ ρ Q q I z k => h U H σ ρ _ _ I z fun U1 H1 d v g1 I1 w1 z1 => by
  obtain ⟨ds, rfl, z2⟩ := lstQ_of z1
  obtain ⟨a, xs, rfl, h1, h2⟩ := (w1.cr I1).lst I1.vh
  exact ⟨a, xs, rfl, SqL.of h1, fun p np => own_new I1.vh np h2.rev z2 fun U2 H2 av u g2 r2 n2 z3 => k U2 H2 av u (g1.trans g2.any) (I1.grow g2) r2 (n2.back fun _ h => g1.fresh h) z3⟩
end
def aSeal (i : Nat) (a : AS) : AS := fun N ρ => match ρ[i]? with
  | some (some av) => frzQ (fun d => a N (ρ.set i (some (.fz d)))) av
  | _ => False
theorem units65 {k : Nat} {A : Around} (r : Room k A) : A.units + 65 < cLine := by have := r.un; omega
theorem cond_dec {p : Prop} [Decidable p] {A B : Prop} (h1 : p → A) (h2 : ¬ p → B) : cond (decide p) A B := by
  by_cases h : p
  · rw [decide_eq_true h]; exact h1 h
  · rw [decide_eq_false h]; exact h2 h
theorem cond_not {b : Bool} {A B : Prop} (h : cond b B A) : cond (!b) A B := by
  cases b <;> exact h
end SW
namespace SW
open PySem PySem.Spec PyProof.Rows L2
variable [QN]
theorem loop_inv {g : AG} {b : AS} {N : AEnds} {ds : List D} {ρ : Env} (Inv : Nat → Env → Prop) (h0 : Inv 0 ρ)
    (hs : ∀ (i : Nat) (d : D) (ρ : Env) (K : Env → Prop), ds[i]? = some d → Inv i ρ → (∀ ρ', Inv (i + 1) ρ' → K ρ') → g d ρ (fun ρ2 => b ⟨K, N.rt, N.nx, K, N.ex⟩ ρ2)) (hd : ∀ ρ, Inv ds.length ρ → N.nx ρ) : aLoop g b N ds ρ := by
  have go : ∀ (k : Nat) (ρ : Env), k ≤ ds.length → Inv (ds.length - k) ρ → aLoop g b N (ds.drop (ds.length - k)) ρ := by
    intro k
    induction k with
    | zero =>
      intro ρ _ h
      rw [Nat.sub_zero] at h ⊢
      rw [List.drop_length]
      exact hd ρ h
    | succ k ih =>
      intro ρ hk h
      have hl : ds.length - (k + 1) < ds.length := by omega
      have e : ds[ds.length - (k + 1)]? = some ds[ds.length - (k + 1)] := List.getElem?_eq_getElem hl
      rw [drop_at e]
      refine hs _ _ ρ _ e h fun ρ' h' => ?_
      have e2 : ds.length - (k + 1) + 1 = ds.length - k := by omega
      rw [e2] at h' ⊢
      exact ih ρ' (by omega) h'
  have := go ds.length ρ (Nat.le_refl _) (by rw [Nat.sub_self]; exact h0)
  rwa [Nat.sub_self, List.drop_zero] at this
theorem rngD_at {lo : Int} {n i : Nat} {d : D} (h : (rngD lo n)[i]? = some d) : i < n ∧ d = .int (lo + (i : Nat)) := by
  unfold rngD at h
  rw [List.getElem?_map] at h
  cases e : (List.range n)[i]? with
  | none => rw [e] at h; cases h
  | some k =>
    rw [e] at h
    obtain ⟨hk, e2⟩ := List.getElem?_eq_some_iff.mp e
    rw [List.getElem_range] at e2
    rw [List.length_range] at hk
    subst e2
    exact ⟨hk, (Option.some.inj h).symm⟩
theorem rngD_len {lo : Int} {n : Nat} : (rngD lo n).length = n := by unfold rngD; rw [List.length_map, List.length_range]
/-- for k in range(n) -/
theorem loop_rng {g : AG} {b : AS} {N : AEnds} {lo : Int} {n : Nat} {ρ : Env} (Inv : Nat → Env → Prop) (h0 : Inv 0 ρ)
    (hs : ∀ (i : Nat) (ρ : Env) (K : Env → Prop), i < n → Inv i ρ → (∀ ρ', Inv (i + 1) ρ' → K ρ') → g (.int (lo + (i : Nat))) ρ (fun ρ2 => b ⟨K, N.rt, N.nx, K, N.ex⟩ ρ2)) (hd : ∀ ρ, Inv n ρ → N.nx ρ) : aLoop g b N (rngD lo n) ρ :=
  loop_inv Inv h0 (fun i d ρ K e h k => by
    obtain ⟨hi, rfl⟩ := rngD_at e
    exact hs i ρ K hi h k) (fun ρ h => hd ρ (by rw [rngD_len] at h; exact h))
/-- for x in a row of things of one kind -/
theorem loop_map {α : Type} {f : α → D} {g : AG} {b : AS} {N : AEnds} {xs : List α} {ρ : Env} (Inv : Nat → Env → Prop) (h0 : Inv 0 ρ)
    (hs : ∀ (i : Nat) (x : α) (ρ : Env) (K : Env → Prop), xs[i]? = some x → Inv i ρ → (∀ ρ', Inv (i + 1) ρ' → K ρ') → g (f x) ρ (fun ρ2 => b ⟨K, N.rt, N.nx, K, N.ex⟩ ρ2)) (hd : ∀ ρ, Inv xs.length ρ → N.nx ρ) : aLoop g b N (xs.map f) ρ :=
  loop_inv Inv h0 (fun i d ρ K e h k => by
    rw [List.getElem?_map] at e
    cases ex : xs[i]? with
    | none => rw [ex] at e; cases e
    | some x =>
      rw [ex] at e
      cases e
      exact hs i x ρ K ex h k) (fun ρ h => hd ρ (by rw [List.length_map] at h; exact h))
section
variable {g : AG} {tt : AT} {te : AE} {ρ : Env} {X : Exn → Prop} {Q : List D → Prop}
theorem comp_rel {ds acc : List D} (P : D → D → Prop) (hl : acc.length + ds.length ≤ 1000000) (h : ∀ d ∈ ds, ∀ Q : D → Prop, (∀ y, P d y → Q y) → g d ρ (fun ρ2 => te ρ2 Q X)) (q : ∀ ys, Paired P ds ys → Q (acc ++ ys)) : aComp g aYes te ρ X ds acc Q := by
  induction ds generalizing acc with
  | nil =>
    have := q [] .nil
    rwa [List.append_nil] at this
  | cons d ds ih =>
    rw [List.length_cons] at hl
    refine h d List.mem_cons_self _ fun y hy => ⟨by omega, ih (by rw [List.length_append]; show acc.length + 1 + _ ≤ _; omega) (fun e he => h e (List.mem_cons_of_mem _ he)) fun ys hys => ?_⟩
    have := q (y :: ys) (.cons hy hys)
    rwa [List.append_assoc]
theorem comp_filter {ds acc : List D} (p : D → Bool) (f : D → D) (hl : acc.length + ds.length ≤ 1000000)
    (h : ∀ d ∈ ds, ∀ (Q : D → Prop) (A : Prop), (p d = true → Q (f d)) → (p d = false → A) → g d ρ (fun ρ2 => tt ρ2 (fun b => cond b (te ρ2 Q X) A) X)) (q : Q (acc ++ (ds.filter p).map f)) : aComp g tt te ρ X ds acc Q := by
  induction ds generalizing acc with
  | nil => rwa [List.filter_nil, List.map_nil, List.append_nil] at q
  | cons d ds ih =>
    rw [List.length_cons] at hl
    refine h d List.mem_cons_self _ _ (fun hp => ⟨by omega, ih (by rw [List.length_append]; show acc.length + 1 + _ ≤ _; omega) (fun e he => h e (List.mem_cons_of_mem _ he)) ?_⟩) (fun hp => ih (by omega) (fun e he => h e (List.mem_cons_of_mem _ he)) ?_)
    · rw [List.filter_cons_of_pos hp, List.map_cons] at q
      rwa [List.append_assoc]
    · rwa [List.filter_cons_of_neg (by rw [hp]; exact Bool.false_ne_true)] at q
end
/-- numbers within bounds, one for each -/
theorem paired_ints {α : Type} {P : Int → Prop} : ∀ {xs : List α} {ys : List D}, Paired (fun _ y => ∃ i, y = .int i ∧ P i) xs ys → ∃ ns : List Int, ys = ns.map D.int ∧ ns.length = xs.length ∧ ∀ n ∈ ns, P n
  | _, _, .nil => ⟨[], rfl, rfl, fun n h => by cases h⟩
  | _, _, .cons ⟨i, h1, h2⟩ t => by
    obtain ⟨ns, e1, e2, e3⟩ := paired_ints t
    refine ⟨i :: ns, by rw [h1, e1]; rfl, by rw [List.length_cons, List.length_cons, e2], fun n hn => ?_⟩
    rcases List.mem_cons.mp hn with rfl | hn
    · exact h2
    · exact e3 n hn
end SW
namespace SW
open PySem PySem.Spec PyProof.Rows L2
variable [QN]
section
variable {ρ ρ' : Env} {nx bk ct : Env → Prop} {rt : AV → Env → Prop} {ex : Exn → Env → Prop} {X : Exn → Prop} {Q : D → Prop} {O : AV → Prop} {L : List D → Prop} {a b e e' : AE} {o : AO} {r : AL} {t u : AT} {sa sb : AS} {i j : Nat} {d d' : D} {ds es : List D} {av : AV}
theorem w_seq (q : sa ⟨fun ρ' => sb ⟨nx, rt, bk, ct, ex⟩ ρ', rt, bk, ct, ex⟩ ρ) : aSeq sa sb ⟨nx, rt, bk, ct, ex⟩ ρ := q
theorem w_next (q : nx ρ) : aNext ⟨nx, rt, bk, ct, ex⟩ ρ := q
theorem w_set (q : e ρ (fun d => nx (ρ.set i (some (.fz d)))) (fun x => ex x ρ)) : aSet i e ⟨nx, rt, bk, ct, ex⟩ ρ := q
theorem w_setO (q : o ρ (fun av => nx (ρ.set i (some av))) (fun x => ex x ρ)) : aSetO i o ⟨nx, rt, bk, ct, ex⟩ ρ := q
theorem w_drop (q : e ρ (fun _ => nx ρ) (fun x => ex x ρ)) : aDrop e ⟨nx, rt, bk, ct, ex⟩ ρ := q
theorem w_ret (q : e ρ (fun d => rt (.fz d) ρ) (fun x => ex x ρ)) : aRet e ⟨nx, rt, bk, ct, ex⟩ ρ := q
theorem w_retO (q : o ρ (fun av => rt av ρ) (fun x => ex x ρ)) : aRetO o ⟨nx, rt, bk, ct, ex⟩ ρ := q
theorem w_retN (q : rt (.fz .non) ρ) : aRetN ⟨nx, rt, bk, ct, ex⟩ ρ := q
theorem w_retV (h : ρ[i]? = some (some (.ol ds))) (q : rt (.ol ds) (ρ.set i none)) : aRetV i ⟨nx, rt, bk, ct, ex⟩ ρ := by unfold aRetV; rw [h]; exact q
theorem w_if (q : t ρ (fun x => cond x (sa ⟨nx, rt, bk, ct, ex⟩ ρ) (sb ⟨nx, rt, bk, ct, ex⟩ ρ)) (fun x => ex x ρ)) : aIf t sa sb ⟨nx, rt, bk, ct, ex⟩ ρ := q
theorem w_brk (q : bk ρ) : aBrk ⟨nx, rt, bk, ct, ex⟩ ρ := q
theorem w_cnt (q : ct ρ) : aCnt ⟨nx, rt, bk, ct, ex⟩ ρ := q
theorem w_raise {C : Addr} (q : ex ⟨C, [], []⟩ ρ) : aRaise C ⟨nx, rt, bk, ct, ex⟩ ρ := q
theorem w_var (h : ρ[i]? = some (some (.fz d))) (q : Q d) : aVar i ρ Q X := by unfold aVar; rw [h]; exact q
theorem w_varW (h : ρ[i]? = some (some av)) (f : av.sh = some d) (q : Q d) : aVarW i ρ Q X := by
  unfold aVarW
  rw [h]
  cases av <;> first | (cases f; exact q) | cases f
theorem w_c (q : Q d) : aC d ρ Q X := q
theorem w_op {f : D → D → (D → Prop) → Prop} (q : a ρ (fun d => b ρ (fun e => f d e Q) X) X) : aOp f a b ρ Q X := q
theorem w_opO {f : D → D → (AV → Prop) → Prop} (q : a ρ (fun d => b ρ (fun e => f d e O) X) X) : aOpO f a b ρ O X := q
theorem w_un {f : D → (D → Prop) → Prop} (q : a ρ (fun d => f d Q) X) : aUn f a ρ Q X := q
theorem w_oI {g : Int → Int → D} {x y : Int} (q : Q (g x y)) : oI g (.int x) (.int y) Q := q
theorem w_oIC {C : Int → Int → Prop} {g : Int → Int → D} {x y : Int} (c : C x y) (q : Q (g x y)) : oIC C g (.int x) (.int y) Q := ⟨c, q⟩
theorem w_oU {g : Int → D} {x : Int} (q : Q (g x)) : oU g (.int x) Q := q
theorem w_oEq {k : Bool} (h : eqS d d' = some k) (q : Q (.bl k)) : oEq d d' Q := by unfold oEq; rw [h]; exact q
theorem w_oNe {k : Bool} (h : eqS d d' = some k) (q : Q (.bl (!k))) : oNe d d' Q := by unfold oNe; rw [h]; exact q
theorem w_isN0 (q : Q (.bl true)) : oIsN .non .non Q := q
theorem w_isNi {x : Int} (q : Q (.bl false)) : oIsN (.int x) .non Q := q
theorem w_isNl (q : Q (.bl false)) : oIsN (.lst ds) .non Q := q
theorem w_isNt (q : Q (.bl false)) : oIsN (.tup ds) .non Q := q
theorem w_isNs {x : Str} (q : Q (.bl false)) : oIsN (.str x) .non Q := q
theorem w_isNo {C : Addr} {ns : List Str} (q : Q (.bl false)) : oIsN (.obj C ns ds) .non Q := q
theorem w_notN0 (q : Q (.bl false)) : oNotN .non .non Q := q
theorem w_notNi {x : Int} (q : Q (.bl true)) : oNotN (.int x) .non Q := q
theorem w_notNl (q : Q (.bl true)) : oNotN (.lst ds) .non Q := q
theorem w_notNt (q : Q (.bl true)) : oNotN (.tup ds) .non Q := q
theorem w_notNs {x : Str} (q : Q (.bl true)) : oNotN (.str x) .non Q := q
theorem w_notNo {C : Addr} {ns : List Str} (q : Q (.bl true)) : oNotN (.obj C ns ds) .non Q := q
theorem w_ixL {k : Int} (h : atI ds k = some d) (q : Q d) : oIxL (.lst ds) (.int k) Q := by unfold oIxL; show someQ Q (atI ds k); rw [h]; exact q
theorem w_ixT {k : Int} (h : atI ds k = some d) (q : Q d) : oIxT (.tup ds) (.int k) Q := by unfold oIxT; show someQ Q (atI ds k); rw [h]; exact q
theorem w_ixS {x : Str} {k : Int} {c : Nat} (l : x.length ≤ 1000000) (h : atI x.cps.toList k = some c) (q : Q (.str ⟨#[c]⟩)) : oIxS (.str x) (.int k) Q := ⟨l, by show someQ _ (atI x.cps.toList k); rw [h]; exact q⟩
theorem w_ninL (h : flatD d = true) (h' : ds.all flatD = true) (q : Q (.bl (!inF d ds))) : oNotIn d (.lst ds) Q := ⟨h, h', q⟩
theorem w_cat (h : ds.length + es.length ≤ 1000000) (q : O (.ol (ds ++ es))) : oCat (.lst ds) (.lst es) O := ⟨h, q⟩
theorem w_catT (h : ds.length + es.length ≤ 1000000) (q : Q (.tup (ds ++ es))) : oCatT (.tup ds) (.tup es) Q := ⟨h, q⟩
theorem w_fz (q : o ρ (frzQ Q) X) : aFz o ρ Q X := q
theorem w_frzL (q : Q (.lst ds)) : frzQ Q (.ol ds) := q
theorem w_frzF (q : Q d) : frzQ Q (.fz d) := q
theorem w_up (q : e ρ (fun d => O (.fz d)) X) : aUp e ρ O X := q
theorem w_call0 {A : AF} {r : AA} (q : r ρ (callQ A ρ O fun _ => False) X) : aCall0 A r ρ O X := q
theorem w_call {A : AF} {r : AA} (q : r ρ (callQ A ρ O X) X) : aCall A r ρ O X := q
theorem w_arg {r : AA} {P : List Arg → Prop} (q : a ρ (fun d => r ρ (fun ds => P (.val d :: ds)) X) X) : aArg a r ρ P X := q
theorem w_slot {r : AA} {P : List Arg → Prop} (h : ρ[i]? = some (some .dr)) (q : r ρ (fun ds => P (.slot i :: ds)) X) : aSlot i r ρ P X := by unfold aSlot; rw [h]; exact q
theorem w_args {P : List Arg → Prop} (q : P []) : aArgs ρ P X := q
theorem w_callQ {A : AF} {as : List Arg} {avs : List AV} (h1 : slots as ≤ 1) (h : argsAV ρ as = some avs) (q : A avs O X) : callQ A ρ O X as := ⟨h1, by rw [h]; exact q⟩
theorem w_draw {m : Int} (h0 : 0 < m) (h1 : m < 2 ^ 200) (q : ∀ r : Int, 0 ≤ r → r < m → O (.fz (.int r))) : A_draw [.dr, .fz (.int m)] O X := ⟨h0, h1, q⟩
theorem w_nil (q : L []) : aNil ρ L X := q
theorem w_cons (q : a ρ (fun d => r ρ (fun ds => L (d :: ds)) X) X) : aCons a r ρ L X := q
theorem w_tup (q : r ρ (fun ds => ds.length ≤ 1000000 ∧ Q (.tup ds)) X) : aTup r ρ Q X := q
theorem w_lst (q : r ρ (fun ds => ds.length ≤ 1000000 ∧ O (.ol ds)) X) : aLst r ρ O X := q
theorem w_test {P : Bool → Prop} (q : e ρ (blQ P) X) : aTest e ρ P X := q
theorem w_blQ {P : Bool → Prop} {k : Bool} (q : P k) : blQ P (.bl k) := q
theorem w_not {P : Bool → Prop} (q : t ρ (fun k => P (!k)) X) : aNot t ρ P X := q
theorem w_and {P : Bool → Prop} (q : t ρ (fun x => cond x (u ρ P X) (P false)) X) : aAnd t u ρ P X := q
theorem w_or {P : Bool → Prop} (q : t ρ (fun x => cond x (P true) (u ρ P X)) X) : aOr t u ρ P X := q
theorem w_andV (q : a ρ (blQ fun x => cond x (b ρ Q X) (Q (.bl false))) X) : aAndV a b ρ Q X := q
theorem w_orV (q : a ρ (blQ fun x => cond x (Q (.bl true)) (b ρ Q X)) X) : aOrV a b ρ Q X := q
theorem w_notV (q : a ρ (blQ fun x => Q (.bl (!x))) X) : aNotV a ρ Q X := q
theorem w_ifE (q : t ρ (fun x => cond x (a ρ Q X) (b ρ Q X)) X) : aIfE t a b ρ Q X := q
theorem w_chain {f g : D → D → (D → Prop) → Prop} (q : a ρ (fun x => b ρ (fun y => f x y (blQ fun k => cond k (e ρ (fun z => g y z Q) X) (Q (.bl false)))) X) X) : aChain f g a b e ρ Q X := q
theorem w_cT {A B : Prop} (q : A) : cond true A B := q
theorem w_cF {A B : Prop} (q : B) : cond false A B := q
theorem w_cNT {A B : Prop} (q : B) : cond (!true) A B := q
theorem w_cNF {A B : Prop} (q : A) : cond (!false) A B := q
theorem w_cN {k : Bool} {A B : Prop} (q : cond k B A) : cond (!k) A B := cond_not q
theorem w_cb {f : List D → (D → Prop) → Prop} (q : r ρ (fun ds => f ds Q) X) : aCB f r ρ Q X := q
theorem w_cbO {f : List D → (AV → Prop) → Prop} (q : r ρ (fun ds => f ds O) X) : aCBO f r ρ O X := q
theorem w_lenL (q : Q (.int ds.length)) : oLen [.lst ds] Q := q
theorem w_lenT (q : Q (.int ds.length)) : oLen [.tup ds] Q := q
theorem w_listL (q : O (.ol ds)) : oList [.lst ds] O := q
theorem w_listT (q : O (.ol ds)) : oList [.tup ds] O := q
theorem w_tupleL (q : Q (.tup ds)) : oTuple [.lst ds] Q := q
theorem w_tupleT (q : Q (.tup ds)) : oTuple [.tup ds] Q := q
theorem w_isi {m n : String} (h : tyD d = some n) (hm : m = "int" ∨ m = "bool" ∨ m = "str" ∨ m = "list" ∨ m = "tuple") (q : Q (.bl (isiD n m))) : oIsi [d, .ty m] Q := by unfold oIsi; show someQ _ (tyD d); rw [h]; exact ⟨hm, q⟩
theorem w_isiT {m n : String} (h : tyD d = some n) (hm : m = "int" ∨ m = "bool" ∨ m = "str" ∨ m = "list" ∨ m = "tuple") (hk : isiD n m = true) (q : Q (.bl true)) : oIsi [d, .ty m] Q := w_isi h hm (by rw [hk]; exact q)
theorem w_isiF {m n : String} (h : tyD d = some n) (hm : m = "int" ∨ m = "bool" ∨ m = "str" ∨ m = "list" ∨ m = "tuple") (hk : isiD n m = false) (q : Q (.bl false)) : oIsi [d, .ty m] Q := w_isi h hm (by rw [hk]; exact q)
theorem w_fld {C : Addr} {f : Str} (q : a ρ (fldQ C f Q) X) : aFld C f a ρ Q X := q
theorem w_fldQ {C : Addr} {f : Str} {ns : List Str} (h : lookD f ns ds = some d) (q : Q d) : fldQ C f Q (.obj C ns ds) := by unfold fldQ; exact ⟨rfl, by rw [h]; exact q⟩
theorem w_olQ (h : ρ[i]? = some (some (.ol ds))) (q : L ds) : olQ ρ i L := by unfold olQ; rw [h]; exact q
theorem w_app (h : ρ[i]? = some (some (.ol ds))) (q : e ρ (fun d => olQ ρ i fun ds => ds.length < 1000000 ∧ nx (ρ.set i (some (.ol (ds ++ [d]))))) (fun x => ex x ρ)) : aApp i e ⟨nx, rt, bk, ct, ex⟩ ρ := w_olQ h q
theorem w_put (h : ρ[i]? = some (some (.ol ds))) (q : e ρ (fun d => e' ρ (fun k => olQ ρ i fun ds => ixQ ds.length (fun j => nx (ρ.set i (some (.ol (ds.set j d))))) k) (fun x => ex x ρ)) (fun x => ex x ρ)) : aPut i e' e ⟨nx, rt, bk, ct, ex⟩ ρ := w_olQ h q
theorem w_ext (h : ρ[i]? = some (some (.ol ds))) (q : e ρ (lstQ fun es => olQ ρ i fun ds => ds.length + es.length ≤ 1000000 ∧ nx (ρ.set i (some (.ol (ds ++ es))))) (fun x => ex x ρ)) : aExt i e ⟨nx, rt, bk, ct, ex⟩ ρ := w_olQ h q
theorem w_lstQ (q : L ds) : lstQ L (.lst ds) := q
theorem w_tupQ (q : L ds) : tupQ L (.tup ds) := q
theorem w_intQ {P : Int → Prop} {x : Int} (q : P x) : intQ P (.int x) := q
theorem w_oneQ (q : Q d) : oneQ Q [d] := q
theorem w_twoQ {P : D → D → Prop} (q : P d d') : twoQ P [d, d'] := q
theorem w_for {it : AL} {g : AG} (q : it ρ (fun ds => aLoop g sa ⟨nx, rt, bk, ct, ex⟩ ds ρ) (fun x => ex x ρ)) : aFor it g sa ⟨nx, rt, bk, ct, ex⟩ ρ := q
theorem w_itL (q : e ρ (lstQ L) X) : aItL e ρ L X := q
theorem w_itT (q : e ρ (tupQ L) X) : aItT e ρ L X := q
theorem w_rng1 (q : r ρ (oneQ (intQ fun j => (-(2 ^ 62) ≤ j ∧ j < 2 ^ 62) ∧ L (rngD 0 j.toNat))) X) : aRng1 r ρ L X := q
theorem w_rng2 (q : r ρ (twoQ fun d e => intQ (fun i => intQ (fun j => (-(2 ^ 62) ≤ i ∧ i < 2 ^ 62 ∧ -(2 ^ 62) ≤ j ∧ j < 2 ^ 62) ∧ L (rngD i (j - i).toNat)) e) d) X) : aRng2 r ρ L X := q
theorem w_enum (q : r ρ (oneQ (lstQ fun xs => L (enumD xs))) X) : aEnum r ρ L X := q
theorem w_zip (q : r ρ (twoQ fun d e => lstQ (fun xs => lstQ (fun ys => L (zipD xs ys)) e) d) X) : aZip r ρ L X := q
theorem w_asg {g : AG} (q : e ρ (fun d => g d ρ nx) (fun x => ex x ρ)) : aAsg e g ⟨nx, rt, bk, ct, ex⟩ ρ := q
theorem w_gN {P : Env → Prop} (q : P (ρ.set i (some (.fz d)))) : gN i d ρ P := q
theorem w_gT {n : Nat} {rs : AGs} {P : Env → Prop} (h : ds.length = n) (q : rs ds ρ P) : gT n rs (.tup ds) ρ P := ⟨h, q⟩
theorem w_gsCons {g : AG} {rs : AGs} {P : Env → Prop} (q : g d ρ (fun ρ' => rs ds ρ' P)) : gsCons g rs (d :: ds) ρ P := q
theorem w_gsNil {P : Env → Prop} (q : P ρ) : gsNil [] ρ P := q
theorem w_par (q : r ρ (twoQ fun d e => nx ((ρ.set i (some (.fz d))).set j (some (.fz e)))) (fun x => ex x ρ)) : aPar i j r ⟨nx, rt, bk, ct, ex⟩ ρ := q
theorem w_aug {f : D → D → (D → Prop) → Prop} (h : ρ[i]? = some (some (.fz d))) (q : e ρ (fun y => f d y fun z => nx (ρ.set i (some (.fz z)))) (fun x => ex x ρ)) : aAug i f e ⟨nx, rt, bk, ct, ex⟩ ρ := by unfold aAug; rw [h]; exact q
theorem w_lc {it : AL} {g : AG} {vs : List Nat} (q : it ρ (fun ds => aComp g t e (wipeA ρ vs) X ds [] (fun acc => O (.ol acc))) X) : aLc it g t e vs ρ O X := q
theorem w_yes {P : Bool → Prop} (q : P true) : aYes ρ P X := q
theorem w_sealL (h : ρ[i]? = some (some (.ol ds))) (q : sa ⟨nx, rt, bk, ct, ex⟩ (ρ.set i (some (.fz (.lst ds))))) : aSeal i sa ⟨nx, rt, bk, ct, ex⟩ ρ := by unfold aSeal; rw [h]; exact q
theorem w_sealF (h : ρ[i]? = some (some (.fz d))) (q : sa ⟨nx, rt, bk, ct, ex⟩ (ρ.set i (some (.fz d)))) : aSeal i sa ⟨nx, rt, bk, ct, ex⟩ ρ := by unfold aSeal; rw [h]; exact q
theorem w_rev (q : e ρ (lstQ fun ds => O (.ol ds.reverse)) X) : aRev e ρ O X := q
theorem w_sl {f : D → Option Int → Option Int → (D → Prop) → Prop} {lo hi : AP} (q : a ρ (fun d => lo ρ (fun l => hi ρ (fun h => f d l h Q) X) X) X) : aSl f a lo hi ρ Q X := q
theorem w_slO {f : D → Option Int → Option Int → (AV → Prop) → Prop} {lo hi : AP} (q : a ρ (fun d => lo ρ (fun l => hi ρ (fun h => f d l h O) X) X) X) : aSlO f a lo hi ρ O X := q
theorem w_noPart {P : Option Int → Prop} (q : P none) : aNoPart ρ P X := q
theorem w_part {P : Option Int → Prop} (q : e ρ (intQ fun i => P (some i)) X) : aPart e ρ P X := q
theorem w_slL {lo hi : Option Int} (q : O (.ol (cutD ds lo hi))) : oSlL (.lst ds) lo hi O := q
theorem w_slT {lo hi : Option Int} (q : Q (.tup (cutD ds lo hi))) : oSlT (.tup ds) lo hi Q := q
theorem w_eqD (h : okD 8 d = true) (h' : okD 8 d' = true) (q : Q (.bl (deq d d'))) : oEqD d d' Q := ⟨h, h', q⟩
theorem w_neD (h : okD 8 d = true) (h' : okD 8 d' = true) (q : Q (.bl (!deq d d'))) : oNeD d d' Q := ⟨h, h', q⟩
theorem w_ninD (h : okD 8 d = true) (h' : okDs 7 ds = true) (q : Q (.bl (!inD d ds))) : oNotInD d (.lst ds) Q := ⟨h, h', q⟩
end
end SW
namespace SW
open PySem PySem.Spec PyProof.Rows L2
variable [QN]
def ownK (ρ : Env) (σ : L2.St) (k : Nat) : List Addr := match ρ[k]?, σ[k]? with
  | some a, some v => ownS a v
  | _, _ => []
theorem ownK_mem : ∀ {ρ : Env} {σ : L2.St} {p : Addr}, p ∈ owns ρ σ ↔ ∃ k, p ∈ ownK ρ σ k
  | [], σ, p => ⟨fun h => by simp [owns] at h, fun ⟨k, h⟩ => by simp [ownK] at h⟩
  | a :: ρ, [], p => ⟨fun h => by simp [owns] at h, fun ⟨k, h⟩ => by simp [ownK] at h⟩
  | a :: ρ, v :: σ, p => by
    constructor
    · intro h
      rcases List.mem_append.mp h with h | h
      · exact ⟨0, h⟩
      · obtain ⟨k, hk⟩ := ownK_mem.mp h
        exact ⟨k + 1, hk⟩
    · rintro ⟨k, h⟩
      cases k with
      | zero => exact List.mem_append_left _ h
      | succ k => exact List.mem_append_right _ (ownK_mem.mpr ⟨k, h⟩)
theorem ownK_nodup : ∀ {ρ : Env} {σ : L2.St}, (owns ρ σ).Nodup ↔ (∀ k, (ownK ρ σ k).Nodup) ∧ ∀ k l p, k ≠ l → p ∈ ownK ρ σ k → p ∉ ownK ρ σ l
  | [], σ => ⟨fun _ => ⟨fun k => by simp [ownK], fun k l p _ h => by simp [ownK] at h⟩, fun _ => by simp [owns]⟩
  | a :: ρ, [] => ⟨fun _ => ⟨fun k => by simp [ownK], fun k l p _ h => by simp [ownK] at h⟩, fun _ => by simp [owns]⟩
  | a :: ρ, v :: σ => by
    have ih := ownK_nodup (ρ := ρ) (σ := σ)
    have e0 : ownK (a :: ρ) (v :: σ) 0 = ownS a v := rfl
    have es : ∀ k, ownK (a :: ρ) (v :: σ) (k + 1) = ownK ρ σ k := fun k => rfl
    constructor
    · intro h
      obtain ⟨n1, n2, n3⟩ := List.nodup_append.mp (show (ownS a v ++ owns ρ σ).Nodup from h)
      obtain ⟨i1, i2⟩ := ih.mp n2
      refine ⟨fun k => ?_, fun k l p hkl hk hl => ?_⟩
      · cases k with
        | zero => exact n1
        | succ k => exact i1 k
      · cases k with
        | zero =>
          cases l with
          | zero => exact hkl rfl
          | succ l => exact n3 p hk p (ownK_mem.mpr ⟨l, hl⟩) rfl
        | succ k =>
          cases l with
          | zero => exact n3 p hl p (ownK_mem.mpr ⟨k, hk⟩) rfl
          | succ l => exact i2 k l p (fun z => hkl (by rw [z])) hk hl
    · rintro ⟨h1, h2⟩
      refine List.nodup_append.mpr ⟨h1 0, ih.mpr ⟨fun k => h1 (k + 1), fun k l p hkl hk hl => h2 (k + 1) (l + 1) p (fun z => hkl (Nat.succ.inj z)) hk hl⟩, fun x hx y hy z => ?_⟩
      subst z
      obtain ⟨k, hk⟩ := ownK_mem.mp hy
      exact h2 0 (k + 1) x (by omega) hx hk
theorem paired_at {α β : Type} {F : α → β → Prop} {xs : List α} {ys : List β} (hl : xs.length = ys.length) (h : ∀ (k : Nat) (x : α) (y : β), xs[k]? = some x → ys[k]? = some y → F x y) : Paired F xs ys := by
  induction xs generalizing ys with
  | nil => cases ys with
    | nil => exact .nil
    | cons y ys => cases hl
  | cons x xs ih =>
    cases ys with
    | nil => cases hl
    | cons y ys => exact .cons (h 0 x y rfl rfl) (ih (Nat.succ.inj hl) fun k a b ha hb => h (k + 1) a b ha hb)
section
variable {c : DC} {U H U' H' : Hp} {σ : L2.St} {ρ ρ' : Env}
/-- a step that changes some slots' things: J tells which -/
theorem DI.multiG {M : List Addr} (J : Nat → Bool) (I : DI c U H σ ρ) (g : Gr M U H U' H') (len : ρ'.length = ρ.length) (keep : ∀ k, J k = false → ρ'[k]? = ρ[k]?) (own1 : ∀ k, J k = true → ∃ a a' v, ρ[k]? = some (some a) ∧ ρ'[k]? = some (some a') ∧ σ[k]? = some (some v) ∧ a'.kind = a.kind ∧ RepA c.K U' H' a' v ∧ (own a' v).Nodup)
    (hM : ∀ p ∈ M, ∃ k, J k = true ∧ p ∈ ownK ρ σ k) (out : ∀ k p, J k = true → p ∈ ownK ρ' σ k → U' p = none ∧ (p ∈ ownK ρ σ k ∨ (p ∉ owns ρ σ ∧ c.H0 p = none))) (dis : ∀ k l p, k ≠ l → J k = true → J l = true → p ∈ ownK ρ' σ k → p ∉ ownK ρ' σ l) : DI c U' H' σ ρ' := by
  obtain ⟨nd1, nd2⟩ := ownK_nodup.mp I.nd
  have ek : ∀ k, J k = false → ownK ρ' σ k = ownK ρ σ k := fun k hk => by
    unfold ownK
    rw [keep k hk]
  have memo : ∀ k p, p ∈ ownK ρ σ k → p ∈ owns ρ σ := fun k p h => ownK_mem.mpr ⟨k, h⟩
  have nM : ∀ k p, J k = false → p ∈ ownK ρ σ k → p ∉ M := fun k p hk hp z => by
    obtain ⟨l, hl, hp'⟩ := hM p z
    exact nd2 k l p (fun e => by rw [e, hl] at hk; cases hk) hp hp'
  have rl : ρ.length = σ.length := I.rep.length
  refine ⟨⟨I.gr.vv.trans g.vv, g.vh, fun a o ma nn ha => ?_, fun a ha => g.dom a (I.gr.dom a ha), fun a h k => g.fr a (I.gr.fr a h k) (I.gr.dom a k), fun P h => g.tb P (I.gr.tb P h), fun h => g.nt (I.gr.nt h)⟩, ?_, ownK_nodup.mpr ⟨fun k => ?_, fun k l p hkl hk hl => ?_⟩, fun p hp => ?_, ?_, I.ko, fun k av v e1 e2 p hp => ?_, I.on⟩
  · refine g.hh a o (fun z => ?_) nn (I.gr.hh a o ma nn ha)
    obtain ⟨l, _, hp'⟩ := hM a z
    rcases (I.out a (memo l a hp')).2 with y | y
    · exact ma y
    · rw [y] at ha
      cases ha
  · refine paired_at (len.trans rl) fun k x y hx hy => ?_
    cases hj : J k with
    | true =>
      obtain ⟨a, a', v, e1, e2, e3, _, r, _⟩ := own1 k hj
      rw [e2] at hx
      rw [e3] at hy
      cases hx
      cases hy
      exact r
    | false =>
      rw [keep k hj] at hx
      obtain ⟨y', ey, ry⟩ := Paired.at' I.rep k x hx
      rw [hy] at ey
      cases ey
      cases x with
      | none => trivial
      | some av =>
        cases y with
        | none => exact ry
        | some v =>
          have hok : ownK ρ σ k = own av v := by unfold ownK; rw [hx, hy]; rfl
          exact RepA.keep g.vv av v (fun p hp => ⟨keep_at g (own_pl av v ry p hp) (nM k p hj (by rw [hok]; exact hp)), g.fr p (I.out p (memo k p (by rw [hok]; exact hp))).1 (own_some av v ry p hp)⟩) ry
  · cases hj : J k with
    | true =>
      obtain ⟨a, a', v, e1, e2, e3, _, _, n⟩ := own1 k hj
      unfold ownK
      rw [e2, e3]
      exact n
    | false =>
      rw [ek k hj]
      exact nd1 k
  · cases hj : J k with
    | true =>
      cases hj' : J l with
      | true => exact dis k l p hkl hj hj' hk hl
      | false =>
        rw [ek l hj'] at hl
        rcases (out k p hj hk).2 with z | z
        · exact nd2 k l p hkl z hl
        · exact z.1 (memo l p hl)
    | false =>
      rw [ek k hj] at hk
      cases hj' : J l with
      | true =>
        rcases (out l p hj' hl).2 with z | z
        · exact nd2 k l p hkl hk z
        · exact z.1 (memo k p hk)
      | false =>
        rw [ek l hj'] at hl
        exact nd2 k l p hkl hk hl
  · obtain ⟨k, hk⟩ := ownK_mem.mp hp
    cases hj : J k with
    | true =>
      obtain ⟨o1, o2⟩ := out k p hj hk
      refine ⟨o1, ?_⟩
      rcases o2 with z | z
      · exact (I.out p (memo k p z)).2
      · exact .inr z.2
    | false =>
      rw [ek k hj] at hk
      have hin := I.out p (memo k p hk)
      exact ⟨g.fr p hin.1 (I.ex p (memo k p hk)), hin.2⟩
  · obtain ⟨p1, avs, p2, p3⟩ := I.par
    refine ⟨p1, ?_⟩
    have go : ∀ (ks : List Bool) (ρ ρ' : Env) (avs : List AV), ρ'.length = ρ.length → (∀ k : Nat, ρ'[k]? = ρ[k]? ∨ ∃ a a' : AV, ρ[k]? = some (some a) ∧ ρ'[k]? = some (some a') ∧ a'.kind = a.kind) → selM ks ρ = avs.map some → ∃ bs : List AV, selM ks ρ' = bs.map some ∧ bs.map AV.kind = avs.map AV.kind := by
      intro ks
      induction ks with
      | nil =>
        intro ρ ρ' avs _ _ e
        refine ⟨avs, ?_, rfl⟩
        rw [← e]
        cases ρ <;> cases ρ' <;> rfl
      | cons b ks ih =>
        intro ρ ρ' avs hl hh e
        cases ρ with
        | nil =>
          cases ρ' with
          | nil => exact ⟨avs, e, rfl⟩
          | cons _ _ => cases hl
        | cons a ρ =>
          cases ρ' with
          | nil => cases hl
          | cons a' ρ' =>
            have hh' : ∀ k : Nat, ρ'[k]? = ρ[k]? ∨ ∃ a a' : AV, ρ[k]? = some (some a) ∧ ρ'[k]? = some (some a') ∧ a'.kind = a.kind := fun k => hh (k + 1)
            cases b with
            | false => exact ih ρ ρ' avs (Nat.succ.inj hl) hh' e
            | true =>
              cases avs with
              | nil => cases e
              | cons a0 avs =>
                obtain ⟨g1, g2⟩ := List.cons.inj e
                subst g1
                obtain ⟨bs, k1, k2⟩ := ih ρ ρ' avs (Nat.succ.inj hl) hh' g2
                rcases hh 0 with z | ⟨x, x', z1, z2, z3⟩
                · have z' := Option.some.inj z
                  subst z'
                  exact ⟨a0 :: bs, by show some a0 :: selM ks ρ' = _; rw [k1]; rfl, by rw [List.map_cons, List.map_cons, k2]⟩
                · have z1' := Option.some.inj z1
                  have z2' := Option.some.inj z2
                  have z1'' := Option.some.inj z1'
                  subst z1'' z2'
                  exact ⟨x' :: bs, by show some x' :: selM ks ρ' = _; rw [k1]; rfl, by rw [List.map_cons, List.map_cons, k2, z3]⟩
    obtain ⟨bs, k1, k2⟩ := go c.ks ρ ρ' avs len (fun k => by
      cases hj : J k with
      | true =>
        obtain ⟨a, a', v, e1, e2, _, e4, _⟩ := own1 k hj
        exact .inr ⟨a, a', e1, e2, e4⟩
      | false => exact .inl (keep k hj)) p2
    exact ⟨bs, k1, k2.trans p3⟩
  · have hok : ownK ρ' σ k = own av v := by unfold ownK; rw [e1, e2]; rfl
    cases hj : J k with
    | true =>
      obtain ⟨a, a', w, f1, f2, f3, _⟩ := own1 k hj
      rcases (out k p hj (by rw [hok]; exact hp)).2 with z | z
      · unfold ownK at z
        rw [f1, f3] at z
        rw [f3] at e2
        cases e2
        exact I.ow k a _ f1 f3 p z
      · exact .inr z.2
    | false =>
      rw [keep k hj] at e1
      exact I.ow k av v e1 e2 p hp
theorem DI.multi {M : List Addr} (J : Nat → Bool) (I : DI c U H σ ρ) (g : Gr M U H U' H') (len : ρ'.length = ρ.length) (keep : ∀ k, J k = false → ρ'[k]? = ρ[k]?) (own1 : ∀ k, J k = true → ∃ a a' v, ρ[k]? = some (some a) ∧ ρ'[k]? = some (some a') ∧ σ[k]? = some (some v) ∧ a'.kind = a.kind ∧ RepA c.K U' H' a' v ∧ (own a' v).Nodup)
    (hM : ∀ p ∈ M, ∃ k, J k = true ∧ p ∈ ownK ρ σ k) (out : ∀ k p, J k = true → p ∈ ownK ρ' σ k → U' p = none ∧ (p ∈ ownK ρ σ k ∨ H p = none)) (dis : ∀ k l p, k ≠ l → J k = true → J l = true → p ∈ ownK ρ' σ k → p ∉ ownK ρ' σ l) : DI c U' H' σ ρ' :=
  I.multiG J g len keep own1 hM (fun k p hj hp => ⟨(out k p hj hp).1, (out k p hj hp).2.imp id fun z => ⟨fun y => I.ex p y z, I.gr.fresh z⟩⟩) dis
abbrev AFM := List AV → (AV → List AV → Prop) → (Exn → List AV → Prop) → Prop
/-- each one's places are those it had, or new -/
def PerA (H : Hp) : List AV → List AV → List V → Prop
  | a' :: as', a :: as, v :: vs => (∀ p ∈ own a' v, p ∈ own a v ∨ H p = none) ∧ PerA H as' as vs
  | [], [], _ => True
  | _, _, _ => False
def spM (K : PySem.W.Frag) (tb : List Addr) (A : AFM) : Sp := fun vs H Q E => ∃ (U : Hp) (avs : List AV) (q : AV → List AV → Prop) (x : Exn → List AV → Prop), Same U H ∧ TbOk tb U H ∧ Paired (RepA K U H) avs vs ∧ (ownAs avs vs).Nodup ∧ (∀ p ∈ ownAs avs vs, U p = none) ∧ A avs q x ∧
  (∀ U' H' av v avs', Gr (ownAs avs vs) U H U' H' → RepA K U' H' av v → (own av v).Nodup → (∀ p ∈ own av v, U' p = none ∧ H p = none ∧ p ∉ ownAs avs' vs) → Paired (RepA K U' H') avs' vs → (ownAs avs' vs).Nodup → (∀ p ∈ ownAs avs' vs, U' p = none) → avs'.map AV.kind = avs.map AV.kind → PerA H avs' avs vs → q av avs' → Q v H') ∧
  (∀ U' H' ex cls o avs', Gr (ownAs avs vs) U H U' H' → XRep K U' H' ex cls o → Paired (RepA K U' H') avs' vs → (ownAs avs' vs).Nodup → (∀ p ∈ ownAs avs' vs, U' p = none) → avs'.map AV.kind = avs.map AV.kind → PerA H avs' avs vs → x ex avs' → E cls o H')
/-- the parameters as they stand: what never changes as it came, what is one's own from its slot -/
def mrg : List AV → List (Option AV) → List AV
  | .fz d :: as, r => .fz d :: mrg as r
  | _ :: as, some a :: r => a :: mrg as r
  | a :: as, none :: r => a :: mrg as r
  | a :: as, [] => a :: mrg as []
  | [], _ => []
/-- the marked parameters put back -/
theorem mrg_rep {K : PySem.W.Frag} {U H U' H' : Hp} (s : Same U U') : ∀ {avs : List AV} {vs : List V} (bs : List AV), Paired (RepA K U H) avs vs → RepAs K U' H' bs (selM (avs.map AV.isOwn) vs) → bs.map AV.kind = (selM (avs.map AV.isOwn) avs).map AV.kind →
    Paired (RepA K U' H') (mrg avs (bs.map some)) vs ∧ ownAs (mrg avs (bs.map some)) vs = ownAs bs (selM (avs.map AV.isOwn) vs) ∧ (mrg avs (bs.map some)).map AV.kind = avs.map AV.kind
  | [], [], bs, .nil, _, e => by
    cases bs with
    | nil => exact ⟨.nil, rfl, rfl⟩
    | cons b bs => cases e
  | a :: avs, v :: vs, bs, .cons h t, r, e => by
    by_cases ho : a.isOwn = true
    · cases bs with
      | nil =>
        have e' : ([] : List Nat) = (selM (a.isOwn :: avs.map AV.isOwn) (a :: avs)).map AV.kind := e
        rw [ho] at e'
        cases e'
      | cons b bs =>
        have e' : b.kind :: bs.map AV.kind = (selM (a.isOwn :: avs.map AV.isOwn) (a :: avs)).map AV.kind := e
        rw [ho] at e'
        obtain ⟨e1, e2⟩ := List.cons.inj e'
        have r' : RepAs K U' H' (b :: bs) (selM (a.isOwn :: avs.map AV.isOwn) (v :: vs)) := r
        rw [ho] at r'
        obtain ⟨w, ws, ew, r1, r2⟩ := r'
        obtain ⟨g1, g2⟩ := List.cons.inj ew
        subst g1
        have r2' : RepAs K U' H' bs (selM (avs.map AV.isOwn) vs) := by rw [g2]; exact r2
        obtain ⟨i1, i2, i3⟩ := mrg_rep s bs t r2' e2
        have em : mrg (a :: avs) ((b :: bs).map some) = b :: mrg avs (bs.map some) := by
          cases a <;> first | rfl | cases ho
        have es : selM ((a :: avs).map AV.isOwn) (v :: vs) = v :: selM (avs.map AV.isOwn) vs := by
          show selM (a.isOwn :: avs.map AV.isOwn) (v :: vs) = _
          rw [ho]
          rfl
        rw [em, es]
        exact ⟨.cons r1 i1, by show own b v ++ _ = own b v ++ _; rw [i2], by rw [List.map_cons, List.map_cons, i3, e1]⟩
    · cases a with
      | fz d =>
        obtain ⟨i1, i2, i3⟩ := mrg_rep s bs t r e
        exact ⟨.cons (R.mono s d v h) i1, by
          show own (.fz d) v ++ ownAs (mrg avs (bs.map some)) vs = ownAs bs (selM (avs.map AV.isOwn) vs)
          rw [i2]
          cases v <;> rfl, by rw [show mrg (.fz d :: avs) (bs.map some) = .fz d :: mrg avs (bs.map some) from rfl, List.map_cons, List.map_cons, i3]⟩
      | _ => exact absurd rfl ho
theorem mrg_per {H : Hp} : ∀ (avs : List AV) (vs : List V) (bs : List AV) (n : Nat), avs.length = vs.length → PerO H bs (selM (avs.map AV.isOwn) vs) (selM (avs.map AV.isOwn) (ownL (avs.map some ++ List.replicate n none) (vs.map some ++ List.replicate n none))) → PerA H (mrg avs (bs.map some)) avs vs
  | [], [], bs, n, _, h => by cases bs <;> trivial
  | a :: avs, v :: vs, bs, n, hl, h => by
    have ih := mrg_per (H := H) avs vs
    by_cases ho : a.isOwn = true
    · have h' : PerO H bs (selM (a.isOwn :: avs.map AV.isOwn) (v :: vs)) (selM (a.isOwn :: avs.map AV.isOwn) (own a v :: ownL (avs.map some ++ List.replicate n none) (vs.map some ++ List.replicate n none))) := h
      rw [ho] at h'
      cases bs with
      | nil => exact h'.elim
      | cons b bs =>
        have em : mrg (a :: avs) ((b :: bs).map some) = b :: mrg avs (bs.map some) := by
          cases a <;> first | rfl | cases ho
        rw [em]
        exact ⟨h'.1, ih bs n (Nat.succ.inj hl) h'.2⟩
    · cases a with
      | fz d => exact ⟨fun p hp => (by cases v <;> cases hp), ih bs n (Nat.succ.inj hl) h⟩
      | _ => exact absurd rfl ho
def bodyM (kk : List Nat) (nl : Nat) (a : AS) : AFM := fun avs q x => avs.map AV.kind = kk ∧ a ⟨fun ρ => q (.fz .non) (mrg avs (selM (avs.map AV.isOwn) ρ)), fun av ρ => q av (mrg avs (selM (avs.map AV.isOwn) ρ)), fun _ => False, fun _ => False, fun e ρ => x e (mrg avs (selM (avs.map AV.isOwn) ρ))⟩ (avs.map some ++ List.replicate nl none)
def ownM (kk : List Nat) : List Bool := kk.map fun k => k != 0
theorem ownM_of : ∀ (avs : List AV), avs.map AV.isOwn = ownM (avs.map AV.kind)
  | [] => rfl
  | a :: avs => by
    show a.isOwn :: avs.map AV.isOwn = (a.kind != 0) :: ownM (avs.map AV.kind)
    rw [ownM_of avs]
    cases a <;> rfl
theorem run_bodyM {K : PySem.W.Frag} {kk : List Nat} {nl : Nat} {a : AS} {vs : List V} {H : Hp} {Q : VK} {E : XK} {t : TS} {σ : L2.St} {tb : List Addr} (h : spM K tb (bodyM kk nl a) vs H Q E) (hσ : σ = vs.map some ++ List.replicate nl none) (hs : ∀ pk pv O M U0 H0 X, SimS ⟨K, ownM kk, pk, pv, O, M, U0, H0, X, fun _ => E, tb⟩ t a) :
    t { nx := fun _ H' => Q .non H', rt := Q } σ H := by
  obtain ⟨U, avs, q, x, sU, tbs, rep, nd, out, ⟨hk, hb⟩, kq, kx⟩ := h
  subst hσ
  have lv : avs.length = vs.length := rep.length
  have ek : avs.map AV.isOwn = ownM kk := by rw [ownM_of, hk]
  have key : ∀ {U' H' : Hp} {as : List (Option AV)} {X : Exn → List (Option AV) → Prop}, Same U U' → ParRep ⟨K, avs.map AV.isOwn, (selM (avs.map AV.isOwn) avs).map AV.kind, selM (avs.map AV.isOwn) vs, ownL (avs.map some ++ List.replicate nl none) (vs.map some ++ List.replicate nl none), ownAs avs vs, U, H, X, fun _ => E, tb⟩ U' H' as →
      Paired (RepA K U' H') (mrg avs as) vs ∧ (ownAs (mrg avs as) vs).Nodup ∧ (∀ p ∈ ownAs (mrg avs as) vs, U' p = none) ∧ (mrg avs as).map AV.kind = avs.map AV.kind ∧ PerA H (mrg avs as) avs vs := fun {U' H' as X} s pr => by
    obtain ⟨bs, eb, r, k, n1, n2, n3⟩ := pr.ex
    subst eb
    obtain ⟨i1, i2, i3⟩ := mrg_rep s bs rep r k
    exact ⟨i1, by rw [i2]; exact n1, by rw [i2]; exact n2, i3, mrg_per avs vs bs nl lv n3⟩
  have I := start_DI (K := K) (nl := nl) (X := fun e as => x e (mrg avs as)) (E := E) sU rep nd out ⟨fun U' H' _ as ex cls o _ _ g pr xr z => by
    obtain ⟨k1, k2, k3, k4, k5⟩ := key g.vv pr
    exact kx U' H' ex cls o _ g xr k1 k2 k3 k4 k5 z, tbs⟩
  have hs' : SimS ⟨K, avs.map AV.isOwn, (selM (avs.map AV.isOwn) avs).map AV.kind, selM (avs.map AV.isOwn) vs, ownL (avs.map some ++ List.replicate nl none) (vs.map some ++ List.replicate nl none), ownAs avs vs, U, H, fun e as => x e (mrg avs as), fun _ => E, tb⟩ t a := by rw [ek]; exact hs _ _ _ _ _ _ _
  refine hs' U H _ _ _ _ rfl I hb ⟨?_, ?_, ?_, ?_⟩
  · intro U' H' σ' ρ' _ I z
    obtain ⟨k1, k2, k3, k4, k5⟩ := key I.gr.vv I.pars
    exact kq U' H' (.fz .non) .non _ I.gr rfl List.nodup_nil (fun p hp => by cases hp) k1 k2 k3 k4 k5 z
  · intro U' H' σ' ρ' av v I r n1 n z
    obtain ⟨k1, k2, k3, k4, k5⟩ := key I.gr.vv I.pars
    obtain ⟨e1, bs, e2, e3⟩ := I.par
    obtain ⟨r1, r2⟩ := sel_owns _ ρ' σ' bs _ I.rep e2 e1
    refine kq U' H' av v _ I.gr r n1 (fun p hp => ⟨(n p hp).1, (n p hp).2.1, fun hz => (n p hp).2.2 ?_⟩) k1 k2 k3 k4 k5 z
    have e2' : selM (avs.map AV.isOwn) ρ' = bs.map some := e2
    rw [e2', (mrg_rep I.gr.vv bs rep r1 e3).2.1] at hz
    exact r2.mem hz
  · exact fun U' H' σ' ρ' _ I z => z.elim
  · exact fun U' H' σ' ρ' _ I z => z.elim
theorem spM_len {K : PySem.W.Frag} {kk : List Nat} {nl : Nat} {a : AS} {vs : List V} {H : Hp} {Q : VK} {E : XK} {tb : List Addr} (h : spM K tb (bodyM kk nl a) vs H Q E) : vs.length = kk.length := by
  obtain ⟨U, avs, q, x, sU, tbs, rep, nd, out, ⟨hk, hb⟩, kq, kx⟩ := h
  rw [← rep.length, ← hk, List.length_map]
abbrev AM := Env → (D → Env → Prop) → (Exn → Env → Prop) → Prop
abbrev AMO := Env → (AV → Env → Prop) → (Exn → Env → Prop) → Prop
abbrev AML := Env → (List D → Env → Prop) → (Exn → Env → Prop) → Prop
def OldNew (H : Hp) (ρ ρ' : Env) (σ : L2.St) : Prop := ∀ p ∈ owns ρ' σ, p ∈ owns ρ σ ∨ H p = none
theorem Gr.comp {M N : List Addr} {U0 H0 U1 H1 U2 H2 : Hp} (a : Gr M U0 H0 U1 H1) (b : Gr N U1 H1 U2 H2) (h : ∀ p ∈ N, p ∈ M ∨ H0 p = none) : Gr M U0 H0 U2 H2 :=
  ⟨a.vv.trans b.vv, b.vh, fun x o m nn e => b.hh x o (fun z => by
    rcases h x z with y | y
    · exact m y
    · rw [y] at e; cases e) nn (a.hh x o m nn e), fun x e => b.dom x (a.dom x e), fun x e k => b.fr x (a.fr x e k) (a.dom x k), fun P h => b.tb P (a.tb P h), fun h => b.nt (a.nt h)⟩
theorem OldNew.trans {H H1 : Hp} {M : List Addr} {U U1 : Hp} {ρ ρ1 ρ2 : Env} {σ : L2.St} (g : Gr M U H U1 H1) (a : OldNew H ρ ρ1 σ) (b : OldNew H1 ρ1 ρ2 σ) : OldNew H ρ ρ2 σ := fun p hp => by
  rcases b p hp with z | z
  · exact a p z
  · exact .inr (g.fresh z)
def SimM (c : DC) (t : TE) (e : AM) : Prop := ∀ (U H : Hp) (σ : L2.St) (ρ : Env) (Q : D → Env → Prop) (q : VK), DI c U H σ ρ → e ρ Q (fun x ρ => c.x ρ x) →
  (∀ U' H' ρ' d v, Gr (owns ρ σ) U H U' H' → DI c U' H' σ ρ' → OldNew H ρ ρ' σ → R c.K U' d v → Q d ρ' → q v H') → t σ H q
def SimMO (c : DC) (t : TE) (e : AMO) : Prop := ∀ (U H : Hp) (σ : L2.St) (ρ : Env) (Q : AV → Env → Prop) (q : VK), DI c U H σ ρ → e ρ Q (fun x ρ => c.x ρ x) →
  (∀ U' H' ρ' av v, Gr (owns ρ σ) U H U' H' → DI c U' H' σ ρ' → OldNew H ρ ρ' σ → RepA c.K U' H' av v → Fresh U' H av v → (∀ p ∈ own av v, p ∉ owns ρ' σ) → Q av ρ' → q v H') → t σ H q
theorem OldNew.refl {H : Hp} {ρ : Env} {σ : L2.St} : OldNew H ρ ρ σ := fun _ h => .inl h
section
variable {t ta : TE} {e : AE} {o : AO} {m : AM} {mo : AMO} {i : Nat}
def mE (e : AE) : AM := fun ρ Q X => e ρ (fun d => Q d ρ) (fun x => X x ρ)
def mO (e : AO) : AMO := fun ρ Q X => e ρ (fun d => Q d ρ) (fun x => X x ρ)
def mFz (e : AMO) : AM := fun ρ Q X => e ρ (fun av ρ' => frzQ (fun d => Q d ρ') av) X
theorem simM_fz (h : SimMO c t mo) : SimM c t (mFz mo) := fun U H σ ρ Q q I z k => h U H σ ρ _ _ I z fun U1 H1 ρ1 av v g1 I1 o1 r1 n1 d1 z1 => by
  obtain ⟨d, f, z2⟩ := frzQ_some z1
  exact k (sealU U1 H1 (own av v)) H1 ρ1 d v (g1.sealL n1.out (own_pl av v r1)) (I1.sealL (fun p hp => ⟨(n1.out p hp).1, I.gr.fresh (n1.out p hp).2, d1 p hp⟩) (own_pl av v r1)) o1 (RepA.frozen (fun p hp => (n1.out p hp).1) av v d r1 f fun _ h => h) z2
def mNil : AML := fun ρ Q _ => Q [] ρ
def mCons (a : AM) (r : AML) : AML := fun ρ Q X => a ρ (fun d ρ1 => r ρ1 (fun ds ρ2 => Q (d :: ds) ρ2) X) X
def mTup (r : AML) : AM := fun ρ Q X => r ρ (fun ds ρ1 => ds.length ≤ 1000000 ∧ Q (.tup ds) ρ1) X
def mLst (r : AML) : AMO := fun ρ Q X => r ρ (fun ds ρ1 => ds.length ≤ 1000000 ∧ Q (.ol ds) ρ1) X
def mSet (i : Nat) (e : AM) : AS := fun N ρ => e ρ (fun d ρ1 => N.nx (ρ1.set i (some (.fz d)))) N.ex
def mSetO (i : Nat) (e : AMO) : AS := fun N ρ => e ρ (fun av ρ1 => N.nx (ρ1.set i (some av))) N.ex
def mDrop (e : AM) : AS := fun N ρ => e ρ (fun _ ρ1 => N.nx ρ1) N.ex
def mRet (e : AM) : AS := fun N ρ => e ρ (fun d ρ1 => N.rt (.fz d) ρ1) N.ex
def mRetO (e : AMO) : AS := fun N ρ => e ρ (fun av ρ1 => N.rt av ρ1) N.ex
theorem simM_set (hi : noPar c i = true) (h : SimM c t m) : SimS c (tAsg t (gName i)) (mSet i m) := fun U H σ ρ N n hx I z P => by
  unfold mSet at z
  rw [hx] at z
  exact h U H σ ρ _ _ I z fun U1 H1 ρ1 d v g1 I1 _ r1 z1 => P.nx U1 H1 _ _ g1.vv (I1.setF r1 hi) z1
def mApp (i : Nat) (e : AM) : AS := fun N ρ => olQ ρ i fun _ => e ρ (fun d ρ1 => olQ ρ1 i fun ds => ds.length < 1000000 ∧ N.nx (ρ1.set i (some (.ol (ds ++ [d]))))) N.ex
def argM (ρ : Env) : Arg → Option AV
  | .val d => some (.fz d)
  | .slot i => match ρ[i]? with
    | some (some av) => if av.isOwn = true then some av else none
    | _ => none
def argsM (ρ : Env) : List Arg → Option (List AV)
  | [] => some []
  | a :: as => match argM ρ a, argsM ρ as with
    | some x, some xs => some (x :: xs)
    | _, _ => none
def slotIx : List Arg → List Nat
  | [] => []
  | .slot i :: as => i :: slotIx as
  | .val _ :: as => slotIx as
def putA (ρ : Env) : List Arg → List AV → Env
  | .slot i :: as, a :: avs => (putA ρ as avs).set i (some a)
  | .val _ :: as, _ :: avs => putA ρ as avs
  | _, _ => ρ
theorem putA_len (ρ : Env) : ∀ (as : List Arg) (avs : List AV), (putA ρ as avs).length = ρ.length
  | [], _ => by unfold putA; rfl
  | .slot i :: as, [] => by unfold putA; rfl
  | .val _ :: as, [] => by unfold putA; rfl
  | .slot i :: as, a :: avs => by show ((putA ρ as avs).set i (some a)).length = _; rw [List.length_set]; exact putA_len ρ as avs
  | .val _ :: as, a :: avs => putA_len ρ as avs
theorem putA_out (ρ : Env) {k : Nat} : ∀ (as : List Arg) (avs : List AV), k ∉ slotIx as → (putA ρ as avs)[k]? = ρ[k]?
  | [], _, _ => by unfold putA; rfl
  | .slot i :: as, [], _ => by unfold putA; rfl
  | .val _ :: as, [], _ => by unfold putA; rfl
  | .slot i :: as, a :: avs, h => by
    show ((putA ρ as avs).set i (some a))[k]? = _
    rw [List.getElem?_set_ne (fun z => h (by rw [z]; exact List.mem_cons_self)), putA_out ρ as avs fun z => h (List.mem_cons_of_mem _ z)]
  | .val _ :: as, a :: avs, h => putA_out ρ as avs h
theorem slotIx_mem {i : Nat} : ∀ {as : List Arg}, i ∈ slotIx as ↔ ∃ n : Nat, as[n]? = some (.slot i)
  | [] => ⟨fun h => (by cases h), fun ⟨n, h⟩ => (by simp at h)⟩
  | .slot j :: as => by
    constructor
    · intro h
      rcases List.mem_cons.mp h with rfl | h
      · exact ⟨0, rfl⟩
      · obtain ⟨n, hn⟩ := (slotIx_mem (as := as)).mp h
        exact ⟨n + 1, hn⟩
    · rintro ⟨n, h⟩
      cases n with
      | zero => cases h; exact List.mem_cons_self
      | succ n => exact List.mem_cons_of_mem _ ((slotIx_mem (as := as)).mpr ⟨n, h⟩)
  | .val d :: as => by
    constructor
    · intro h
      obtain ⟨n, hn⟩ := (slotIx_mem (as := as)).mp (show i ∈ slotIx as from h)
      exact ⟨n + 1, hn⟩
    · rintro ⟨n, h⟩
      cases n with
      | zero => cases h
      | succ n => exact (show i ∈ slotIx as from (slotIx_mem (as := as)).mpr ⟨n, h⟩)
theorem slot_uniq {i : Nat} : ∀ {as : List Arg} {n m : Nat}, (slotIx as).Nodup → as[n]? = some (.slot i) → as[m]? = some (.slot i) → n = m
  | [], n, m, _, h, _ => by simp at h
  | .val d :: as, 0, m, _, h, _ => by cases h
  | .val d :: as, n + 1, 0, _, _, h => by cases h
  | .val d :: as, n + 1, m + 1, nd, h, k => congrArg (· + 1) (slot_uniq (as := as) nd h k)
  | .slot j :: as, 0, 0, _, _, _ => rfl
  | .slot j :: as, 0, m + 1, nd, h, k => by
    cases h
    exact absurd (slotIx_mem.mpr ⟨m, k⟩) (List.nodup_cons.mp (show (i :: slotIx as).Nodup from nd)).1
  | .slot j :: as, n + 1, 0, nd, h, k => by
    cases k
    exact absurd (slotIx_mem.mpr ⟨n, h⟩) (List.nodup_cons.mp (show (i :: slotIx as).Nodup from nd)).1
  | .slot j :: as, n + 1, m + 1, nd, h, k => congrArg (· + 1) (slot_uniq (as := as) (List.nodup_cons.mp (show (j :: slotIx as).Nodup from nd)).2 h k)
theorem putA_in (ρ : Env) {i : Nat} {a' : AV} (hi : i < ρ.length) : ∀ (as : List Arg) (avs : List AV) (n : Nat), (slotIx as).Nodup → as[n]? = some (.slot i) → avs[n]? = some a' → (putA ρ as avs)[i]? = some (some a')
  | [], _, n, _, h, _ => by simp at h
  | _ :: _, [], n, _, _, h => by simp at h
  | .slot j :: as, a :: avs, 0, _, h, k => by
    cases h
    cases k
    show ((putA ρ as avs).set i (some a'))[i]? = _
    rw [List.getElem?_set_self (by rw [putA_len]; exact hi)]
  | .slot j :: as, a :: avs, n + 1, nd, h, k => by
    have nd' := List.nodup_cons.mp (show (j :: slotIx as).Nodup from nd)
    show ((putA ρ as avs).set j (some a))[i]? = _
    rw [List.getElem?_set_ne (fun z => nd'.1 (slotIx_mem.mpr ⟨n, by rw [z]; exact h⟩))]
    exact putA_in ρ hi as avs n nd'.2 h k
  | .val d :: as, a :: avs, 0, _, h, _ => by cases h
  | .val d :: as, a :: avs, n + 1, nd, h, k => putA_in ρ hi as avs n nd h k
theorem argsM_at {ρ : Env} : ∀ {as : List Arg} {avs : List AV}, argsM ρ as = some avs → avs.length = as.length ∧ ∀ (n : Nat) (x : Arg), as[n]? = some x → ∃ a, avs[n]? = some a ∧ argM ρ x = some a
  | [], avs, e => by
    cases e
    exact ⟨rfl, fun n x h => by simp at h⟩
  | y :: as, avs, e => by
    unfold argsM at e
    cases ea : argM ρ y with
    | none => rw [ea] at e; cases e
    | some a =>
      rw [ea] at e
      cases es : argsM ρ as with
      | none => rw [es] at e; cases e
      | some xs =>
        rw [es] at e
        cases e
        obtain ⟨l, h⟩ := argsM_at es
        refine ⟨by rw [List.length_cons, List.length_cons, l], fun n x hx => ?_⟩
        cases n with
        | zero => cases hx; exact ⟨a, rfl, ea⟩
        | succ n => exact h n x hx
theorem argM_slot {ρ : Env} {i : Nat} {a : AV} (h : argM ρ (.slot i) = some a) : ρ[i]? = some (some a) ∧ a.isOwn = true := by
  unfold argM at h
  dsimp only at h
  split at h
  · rename_i av e
    split at h
    · cases h; exact ⟨e, by assumption⟩
    · cases h
  · cases h
theorem perA_at {H : Hp} : ∀ {as' as : List AV} {vs : List V} {n : Nat} {a' a : AV} {v : V}, PerA H as' as vs → as'[n]? = some a' → as[n]? = some a → vs[n]? = some v → ∀ p ∈ own a' v, p ∈ own a v ∨ H p = none
  | [], _, _, n, _, _, _, _, h, _, _ => by simp at h
  | _ :: _, [], _, n, _, _, _, _, _, h, _ => by simp at h
  | _ :: _, _ :: _, [], n, _, _, _, _, _, _, h => by simp at h
  | x' :: as', x :: as, w :: vs, 0, a', a, v, h, e1, e2, e3 => by
    cases e1
    cases e2
    cases e3
    exact h.1
  | x' :: as', x :: as, w :: vs, n + 1, a', a, v, h, e1, e2, e3 => perA_at (as' := as') (as := as) (vs := vs) (n := n) h.2 e1 e2 e3
theorem ownAs_K (avs : List AV) (vs : List V) (h : avs.length = vs.length) : ownAs avs vs = owns (avs.map some) (vs.map some) := by
  have := owns_args avs vs 0 0 h
  rw [← this]
  simp
theorem ownK_args {avs : List AV} {vs : List V} {n : Nat} {a : AV} {v : V} (h1 : avs[n]? = some a) (h2 : vs[n]? = some v) : ownK (avs.map some) (vs.map some) n = own a v := by
  unfold ownK
  rw [List.getElem?_map, List.getElem?_map, h1, h2]
  rfl
def callM (A : AFM) (ρ : Env) (Q : AV → Env → Prop) (X : Exn → Env → Prop) (as : List Arg) : Prop := (slotIx as).Nodup ∧ match argsM ρ as with
  | some avs => A avs (fun av avs' => Q av (putA ρ as avs')) (fun x avs' => X x (putA ρ as avs'))
  | none => False
theorem callM_of {A : AFM} {Q : AV → Env → Prop} {X : Exn → Env → Prop} {as : List Arg} (h : callM A ρ Q X as) : (slotIx as).Nodup ∧ ∃ avs, argsM ρ as = some avs ∧ A avs (fun av avs' => Q av (putA ρ as avs')) (fun x avs' => X x (putA ρ as avs')) := by
  obtain ⟨h1, h2⟩ := h
  refine ⟨h1, ?_⟩
  cases e : argsM ρ as with
  | none => rw [e] at h2; exact h2.elim
  | some avs => rw [e] at h2; exact ⟨avs, rfl, h2⟩
theorem run_spM {A : AFM} {as : List Arg} {vs : List V} {Q : AV → Env → Prop} {q : VK} {E : XK} {X : Exn → Env → Prop} (I : DI c U H σ ρ) (r : Paired (ArgR c.K U σ) as vs) (h : callM A ρ Q X as)
    (k : ∀ U' H' ρ' av v, Gr (owns ρ σ) U H U' H' → DI c U' H' σ ρ' → OldNew H ρ ρ' σ → RepA c.K U' H' av v → Fresh U' H av v → (∀ p ∈ own av v, p ∉ owns ρ' σ) → Q av ρ' → q v H')
    (kx : ∀ U' H' ρ' x cls o, DI c U' H' σ ρ' → XRep c.K U' H' x cls o → X x ρ' → E cls o H') : spM c.K c.tb A vs H q E := by
  obtain ⟨nd, avs, ea, hA⟩ := callM_of h
  obtain ⟨la, hat⟩ := argsM_at ea
  have lv : as.length = vs.length := r.length
  obtain ⟨nd1, nd2⟩ := ownK_nodup.mp I.nd
  have rl : ρ.length = σ.length := I.rep.length
  -- position by position
  have slot : ∀ (n i : Nat), as[n]? = some (.slot i) → ∃ a v, avs[n]? = some a ∧ vs[n]? = some v ∧ ρ[i]? = some (some a) ∧ σ[i]? = some (some v) ∧ RepA c.K U H a v ∧ ownK ρ σ i = own a v := fun n i hn => by
    obtain ⟨a, e1, e2⟩ := hat n _ hn
    obtain ⟨e3, _⟩ := argM_slot e2
    obtain ⟨v, e4, e5⟩ := Paired.at' r n _ hn
    obtain ⟨w, e6, e7, _⟩ := rep_at I.rep i a e3
    have e5' : σ[i]? = some (some v) := e5
    rw [e5'] at e6
    cases e6
    exact ⟨a, v, e1, e4, e3, e5', e7, by unfold ownK; rw [e3, e5']; rfl⟩
  have val : ∀ (n : Nat) (d : D), as[n]? = some (.val d) → avs[n]? = some (.fz d) := fun n d hn => by
    obtain ⟨a, e1, e2⟩ := hat n _ hn
    cases e2
    exact e1
  have rep : Paired (RepA c.K U H) avs vs := paired_at (la.trans lv) fun n a v ha hv => by
    obtain ⟨x, ex⟩ : ∃ x, as[n]? = some x := ⟨as[n]'(by rw [lv]; exact (List.getElem?_eq_some_iff.mp hv).1), List.getElem?_eq_getElem _⟩
    cases x with
    | val d =>
      rw [val n d ex] at ha
      cases ha
      obtain ⟨w, e1, e2⟩ := Paired.at' r n _ ex
      rw [hv] at e1
      cases e1
      exact e2
    | slot i =>
      obtain ⟨a', v', f1, f2, _, _, f5, _⟩ := slot n i ex
      rw [ha] at f1
      rw [hv] at f2
      cases f1
      cases f2
      exact f5
  have ownN : ∀ (n : Nat) (a : AV) (v : V) (p : Addr), avs[n]? = some a → vs[n]? = some v → p ∈ own a v → ∃ i, as[n]? = some (.slot i) ∧ p ∈ ownK ρ σ i := fun n a v p ha hv hp => by
    obtain ⟨x, ex⟩ : ∃ x, as[n]? = some x := ⟨as[n]'(by rw [lv]; exact (List.getElem?_eq_some_iff.mp hv).1), List.getElem?_eq_getElem _⟩
    cases x with
    | val d =>
      rw [val n d ex] at ha
      cases ha
      cases v <;> cases hp
    | slot i =>
      obtain ⟨a', v', f1, f2, _, _, _, f6⟩ := slot n i ex
      rw [ha] at f1
      rw [hv] at f2
      cases f1
      cases f2
      exact ⟨i, ex, by rw [f6]; exact hp⟩
  have memA : ∀ {bs : List AV} {p : Addr}, bs.length = vs.length → p ∈ ownAs bs vs → ∃ (n : Nat) (b : AV) (v : V), bs[n]? = some b ∧ vs[n]? = some v ∧ p ∈ own b v := fun {bs p} hl hp => by
    rw [ownAs_K bs vs hl] at hp
    obtain ⟨n, hn⟩ := ownK_mem.mp hp
    unfold ownK at hn
    rw [List.getElem?_map, List.getElem?_map] at hn
    cases e1 : bs[n]? with
    | none => rw [e1] at hn; cases hn
    | some b =>
      rw [e1] at hn
      cases e2 : vs[n]? with
      | none => rw [e2] at hn; cases hn
      | some v => rw [e2] at hn; exact ⟨n, b, v, e1, e2, hn⟩
  have inA : ∀ p ∈ ownAs avs vs, ∃ i, i ∈ slotIx as ∧ p ∈ ownK ρ σ i := fun p hp => by
    obtain ⟨n, a, v, e1, e2, e3⟩ := memA (la.trans lv) hp
    obtain ⟨i, f1, f2⟩ := ownN n a v p e1 e2 e3
    exact ⟨i, slotIx_mem.mpr ⟨n, f1⟩, f2⟩
  have ndA : (ownAs avs vs).Nodup := by
    rw [ownAs_K avs vs (la.trans lv)]
    refine ownK_nodup.mpr ⟨fun n => ?_, fun n m p hnm hn hm => ?_⟩
    · cases e1 : avs[n]? with
      | none => unfold ownK; rw [List.getElem?_map, e1]; exact List.nodup_nil
      | some a =>
        cases e2 : vs[n]? with
        | none => unfold ownK; rw [List.getElem?_map, List.getElem?_map, e1, e2]; exact List.nodup_nil
        | some v =>
          rw [ownK_args e1 e2]
          by_cases hz : own a v = []
          · rw [hz]; exact List.nodup_nil
          · obtain ⟨p, hp⟩ := List.exists_mem_of_ne_nil _ hz
            obtain ⟨i, f1, _⟩ := ownN n a v p e1 e2 hp
            obtain ⟨a', v', g1, g2, _, _, _, g6⟩ := slot n i f1
            rw [e1] at g1
            rw [e2] at g2
            cases g1
            cases g2
            rw [← g6]
            exact nd1 i
    · have at1 : ∀ l, p ∈ ownK (avs.map some) (vs.map some) l → ∃ i, as[l]? = some (.slot i) ∧ p ∈ ownK ρ σ i := fun l hl => by
        unfold ownK at hl
        rw [List.getElem?_map, List.getElem?_map] at hl
        cases e1 : avs[l]? with
        | none => rw [e1] at hl; cases hl
        | some a =>
          rw [e1] at hl
          cases e2 : vs[l]? with
          | none => rw [e2] at hl; cases hl
          | some v => rw [e2] at hl; exact ownN l a v p e1 e2 hl
      obtain ⟨i, f1, f2⟩ := at1 n hn
      obtain ⟨j, g1, g2⟩ := at1 m hm
      by_cases hij : i = j
      · subst hij
        exact hnm (slot_uniq nd f1 g1)
      · exact nd2 i j p hij f2 g2
  have step : ∀ {U' H' : Hp} {avs' : List AV}, Gr (ownAs avs vs) U H U' H' → Paired (RepA c.K U' H') avs' vs → (ownAs avs' vs).Nodup → (∀ p ∈ ownAs avs' vs, U' p = none) → avs'.map AV.kind = avs.map AV.kind → PerA H avs' avs vs →
      DI c U' H' σ (putA ρ as avs') ∧ OldNew H ρ (putA ρ as avs') σ ∧ Gr (owns ρ σ) U H U' H' ∧ ∀ p ∈ owns (putA ρ as avs') σ, p ∈ owns ρ σ ∨ p ∈ ownAs avs' vs := fun {U' H' avs'} g r' n' u' kd per => by
    have l' : avs'.length = vs.length := r'.length
    obtain ⟨nd1', nd2'⟩ := ownK_nodup.mp (by rw [← ownAs_K avs' vs l']; exact n')
    have sl' : ∀ (n i : Nat), as[n]? = some (.slot i) → ∃ a a' v, avs[n]? = some a ∧ avs'[n]? = some a' ∧ vs[n]? = some v ∧ ρ[i]? = some (some a) ∧ (putA ρ as avs')[i]? = some (some a') ∧ σ[i]? = some (some v) ∧ a'.kind = a.kind ∧ RepA c.K U' H' a' v ∧ ownK (putA ρ as avs') σ i = own a' v ∧ ownK ρ σ i = own a v := fun n i hn => by
      obtain ⟨a, v, e1, e2, e3, e4, _, e6⟩ := slot n i hn
      obtain ⟨a', f1⟩ : ∃ x, avs'[n]? = some x := ⟨avs'[n]'(by rw [l']; exact (List.getElem?_eq_some_iff.mp e2).1), List.getElem?_eq_getElem _⟩
      have f2 := putA_in ρ (i := i) (a' := a') (List.getElem?_eq_some_iff.mp e3).1 as avs' n nd hn f1
      obtain ⟨w, f3, f4⟩ := Paired.at' r' n a' f1
      rw [e2] at f3
      cases f3
      have f5 : a'.kind = a.kind := by
        have : (avs'.map AV.kind)[n]? = (avs.map AV.kind)[n]? := by rw [kd]
        rw [List.getElem?_map, List.getElem?_map, f1, e1] at this
        exact Option.some.inj this
      exact ⟨a, a', v, e1, f1, e2, e3, f2, e4, f5, f4, by unfold ownK; rw [f2, e4]; rfl, e6⟩
    have J : ∀ k, (slotIx as).contains k = true ↔ ∃ n : Nat, as[n]? = some (.slot k) := fun k => by rw [List.contains_iff_mem, slotIx_mem]
    have nJ : ∀ k, (slotIx as).contains k = false → k ∉ slotIx as := fun k hk z => by rw [List.contains_iff_mem.mpr z] at hk; cases hk
    have hin : ∀ p ∈ owns (putA ρ as avs') σ, p ∈ owns ρ σ ∨ p ∈ ownAs avs' vs := fun p hp => by
      obtain ⟨k, hk⟩ := ownK_mem.mp hp
      cases hj : (slotIx as).contains k with
      | true =>
        obtain ⟨n, hn⟩ := (J k).mp hj
        obtain ⟨a, a', v, _, f1, e2, _, _, _, _, _, f9, _⟩ := sl' n k hn
        refine .inr ?_
        rw [ownAs_K avs' vs l']
        exact ownK_mem.mpr ⟨n, by rw [ownK_args f1 e2, ← f9]; exact hk⟩
      | false =>
        refine .inl (ownK_mem.mpr ⟨k, ?_⟩)
        unfold ownK at hk ⊢
        rw [putA_out ρ as avs' (nJ k hj)] at hk
        exact hk
    have gw : Gr (owns ρ σ) U H U' H' := g.weak fun p hp => by
      obtain ⟨i, _, hi⟩ := inA p hp
      exact ownK_mem.mpr ⟨i, hi⟩
    refine ⟨I.multi (M := ownAs avs vs) (fun k => (slotIx as).contains k) g (putA_len ρ as avs') (fun k hk => putA_out ρ as avs' (nJ k hk)) (fun k hk => ?_) (fun p hp => ?_) (fun k p hk hp => ?_) (fun k l p hkl hk hl hp hq => ?_), fun p hp => ?_, gw, hin⟩
    · obtain ⟨n, hn⟩ := (J k).mp hk
      obtain ⟨a, a', v, e1, f1, e2, e3, f2, e4, f5, f6, f7, _⟩ := sl' n k hn
      exact ⟨a, a', v, e3, f2, e4, f5, f6, by have := nd1' n; rwa [ownK_args f1 e2] at this⟩
    · obtain ⟨i, h1, h2⟩ := inA p hp
      exact ⟨i, List.contains_iff_mem.mpr h1, h2⟩
    · obtain ⟨n, hn⟩ := (J k).mp hk
      obtain ⟨a, a', v, e1, f1, e2, e3, f2, e4, f5, f6, f7, f8⟩ := sl' n k hn
      rw [f7] at hp
      refine ⟨u' p (by rw [ownAs_K avs' vs l']; exact ownK_mem.mpr ⟨n, by rw [ownK_args f1 e2]; exact hp⟩), ?_⟩
      rw [f8]
      exact perA_at per f1 e1 e2 p hp
    · obtain ⟨n, hn⟩ := (J k).mp hk
      obtain ⟨m, hm⟩ := (J l).mp hl
      obtain ⟨a, a', v, _, f1, e2, _, _, _, _, _, f7, _⟩ := sl' n k hn
      obtain ⟨b, b', w, _, g1, h2, _, _, _, _, _, g7, _⟩ := sl' m l hm
      rw [f7] at hp
      rw [g7] at hq
      refine nd2' n m p (fun z => ?_) (by rw [ownK_args f1 e2]; exact hp) (by rw [ownK_args g1 h2]; exact hq)
      rw [z] at hn
      rw [hn] at hm
      cases hm
      exact hkl rfl
    · rcases hin p hp with z | z
      · exact .inl z
      · obtain ⟨n, a', v, f1, e2, f3⟩ := memA l' z
        obtain ⟨a, e1⟩ : ∃ x, avs[n]? = some x := ⟨avs[n]'(by rw [la, lv]; exact (List.getElem?_eq_some_iff.mp e2).1), List.getElem?_eq_getElem _⟩
        rcases perA_at per f1 e1 e2 p f3 with y | y
        · obtain ⟨i, _, hi⟩ := ownN n a v p e1 e2 y
          exact .inl (ownK_mem.mpr ⟨i, hi⟩)
        · exact .inr y
  refine ⟨U, avs, _, _, I.vh, I.tbs, rep, ndA, fun p hp => ?_, hA, fun U' H' av v avs' g ra n1 n2 r' n3 n4 kd per z => ?_, fun U' H' ex cls o avs' g xr r' n3 n4 kd per z => ?_⟩
  · obtain ⟨i, _, hi⟩ := inA p hp
    exact (I.out p (ownK_mem.mpr ⟨i, hi⟩)).1
  · obtain ⟨s1, s2, s3, s4⟩ := step g r' n3 n4 kd per
    refine k U' H' _ av v s3 s1 s2 ra ⟨n1, fun p hp => ⟨(n2 p hp).1, (n2 p hp).2.1⟩⟩ (fun p hp y => ?_) z
    rcases s4 p y with w | w
    · exact I.ex p w (n2 p hp).2.1
    · exact (n2 p hp).2.2 w
  · obtain ⟨s1, _⟩ := step g r' n3 n4 kd per
    exact kx U' H' _ ex cls o s1 xr z
def aSlotO (i : Nat) (r : AA) : AA := fun ρ Q X => match ρ[i]? with
  | some (some _) => r ρ (fun ds => Q (.slot i :: ds)) X
  | _ => False
theorem sim_slotO {tr : TA} {r : AA} (hr : SimA c tr r) : SimA c (tCons (tVar i) tr) (aSlotO i r) := fun U H σ ρ Q q I z k => by
  unfold aSlotO at z
  split at z
  · rename_i e0
    obtain ⟨v, e, _⟩ := rep_at I.rep i _ e0
    exact ⟨v, e, hr U H σ ρ _ _ I z fun U2 H2 ds vs g2 I2 r2 z2 => k U2 H2 (.slot i :: ds) (v :: vs) g2 I2 (.cons e r2) z2⟩
  · exact z.elim
def mCall (A : AFM) (r : AA) : AMO := fun ρ Q X => r ρ (callM A ρ Q X) (fun x => X x ρ)
def mCall0 (A : AFM) (r : AA) : AMO := fun ρ Q X => r ρ (callM A ρ Q fun _ _ => False) (fun x => X x ρ)
theorem simM_call {A : AFM} {tr : TA} {r : AA} {E : XK} (hr : SimA c tr r) : SimMO c (tCall (spM c.K c.tb A) [] E tr) (mCall0 A r) := fun U H σ ρ Q q I z k =>
  hr U H σ ρ _ _ I z fun U1 H1 as vs g1 I1 r1 z1 => by
    rw [List.append_nil]
    exact run_spM I1 r1 z1 (fun U2 H2 ρ2 av v g2 I2 o2 r2 n2 d2 z2 => k U2 H2 ρ2 av v ((g1.weak drs_sub).trans g2) I2 (OldNew.trans g1 .refl o2) r2 (n2.back fun _ h => g1.fresh h) d2 z2) (fun _ _ _ _ _ _ _ _ z => z.elim)
end
end
end SW
namespace SW
open PySem PySem.Spec PyProof.Rows L2
variable [QN]
def rMulS : R2 := fun x y H Q => ∃ a k, x = .str a ∧ y = .int k ∧ 0 ≤ k ∧ k ≤ 1000000 ∧ a.length * k.toNat ≤ 1000000 ∧ Q (.str (Txt.mul a k)) H
theorem op_mulS {X : Cx} : OpR X (binaryOp .Mult) rMulS := by
  intro pins s σ H x y v u Q I rx ry h
  obtain ⟨a, k, rfl, rfl, h1, h2, hz, q⟩ := h
  obtain ⟨t, rfl⟩ := rx
  obtain ⟨t', rfl⟩ := ry
  refine PySem.SB.mul ⟨?_, fun h3 _ => ?_, fun _ _ => PyProof.Rows.short24 (by omega)⟩ fun t' n => ⟨.str _, H, I.tok n, ⟨t', rfl⟩, q⟩
  · rw [decide_eq_false (by omega), decide_eq_false (by omega)]
    rfl
  · have hk : (a.length : Int) * k ≤ 1000000 := by
      have e : (k.toNat : Int) = k := Int.toNat_of_nonneg h1
      have e2 : ((a.length * k.toNat : Nat) : Int) = (a.length : Int) * k := by rw [Int.natCast_mul, e]
      omega
    have : (a.length : Int) ≤ (2 ^ 63 - 1) / k := Int.le_ediv_of_mul_le (by omega) (by omega)
    omega
def rJoinK (K : PySem.W.Frag) : V → List V → Hp → VK → Prop := fun x xs H Q => ∃ a p, ∃ ys : List Str, x = .str a ∧ xs = [.ref p] ∧ (SqL K H p (ys.map V.str) ∨ SqT K H p (ys.map V.str)) ∧
    (ys.map (·.length)).sum + ys.length * a.length ≤ 16777216 ∧ Q (.str (Txt.join a ys)) H
theorem mt_joinK {X : Cx} {K : PySem.W.Frag} (h : X.K = K) : MtR X "str.join" (rJoinK K) := by subst h; exact mt_join
section
variable {K : PySem.W.Frag} {c : DC} {U H : Hp} {ta : TE} {tr : TA} {a : AE} {r : AL}
def MtD (K : PySem.W.Frag) (m : V → List V → Hp → VK → Prop) (f : D → List D → (D → Prop) → Prop) : Prop := ∀ (U H : Hp) (v : V) (vs : List V) (d : D) (ds : List D) (Q : D → Prop) (q : VK), Same U H → CR K U H d v → Paired (CR K U H) ds vs → f d ds Q →
  (∀ U' H' z u, Gr [] U H U' H' → R K U' z u → Q z → q u H') → m v vs H q
def aBmS (f : D → List D → (D → Prop) → Prop) (a : AE) (r : AL) : AE := fun ρ Q X => a ρ (strQ fun x => r ρ (fun ds => f (.str x) ds Q) X) X
theorem sim_bmS {m : V → List V → Hp → VK → Prop} {f : D → List D → (D → Prop) → Prop} (h : MtD c.K m f) (ha : SimW c ta a) (hr : SimLW c tr r) : SimE c (tBM c.K "str" m ta tr) (aBmS f a r) := fun U H σ ρ Q q I z k =>
  ha U H σ ρ _ _ I z fun U1 H1 d v g1 I1 w1 z1 => by
    obtain ⟨x, rfl, z2⟩ := strQ_of z1
    have e := (w1.cr I1).str
    subst e
    exact ⟨rfl, hr U1 H1 σ ρ _ _ I1 z2 fun U2 H2 ds vs g2 I2 w2 z3 => h U2 H2 _ vs (.str x) ds Q q I2.vh (.of rfl) (wks_cr I2 w2) z3 fun U3 H3 y u g3 r3 z4 => k U3 H3 y u ((g1.trans g2).trans g3.any) (I2.grow g3) r3 z4⟩
def oMulS : D → D → (D → Prop) → Prop := fun d e Q => strQ (fun x => intQ (fun k => 0 ≤ k ∧ k ≤ 1000000 ∧ x.length * k.toNat ≤ 1000000 ∧ Q (.str (Txt.mul x k))) e) d
theorem op_mulSD : OpD K rMulS oMulS := fun U H v w d e Q q s cd ce z k => by
  obtain ⟨x, rfl, z⟩ := strQ_of z
  obtain ⟨i, rfl, z1, z2, z3, z⟩ := intQ_of z
  exact ⟨x, i, cd.str, ce.int, z1, z2, z3, k U H (.str _) _ (Gr.refl s) rfl z⟩
def oJoin : D → List D → (D → Prop) → Prop := fun d ds Q => strQ (fun x => oneQ (seqQ fun es => someQ (fun ys => (ys.map (·.length)).sum + ys.length * x.length ≤ 1000000 ∧ Q (.str (Txt.join x ys))) (strsOf es)) ds) d
theorem mt_joinD : MtD K (rJoinK K) oJoin := fun U H v vs d ds Q q s cd cs z k => by
  obtain ⟨x, rfl, z⟩ := strQ_of z
  obtain ⟨e, rfl, z⟩ := oneQ_of z
  obtain ⟨es, he, z⟩ := seqQ_of z
  obtain ⟨ys, hy, z1, z⟩ := someQ_of z
  obtain ⟨w, rfl, ce⟩ := paired1 cs
  obtain ⟨p, xs, rfl, h1, h2⟩ := ce.seq s he
  rw [strsOf_eq hy] at h2
  rw [h2.strs] at h1
  exact ⟨x, p, ys, cd.str, rfl, h1, by omega, k U H (.str _) _ (Gr.refl s) rfl z⟩
end
end SW
namespace SW
open PySem PySem.Spec PyProof.Rows L2
variable [QN]
section
variable {c : DC} {U H U' H' : Hp} {σ τ : L2.St} {ρ ρ' : Env}
/-- a comprehension whose element changes slots -/
def aCompM (g : AG) (e : AM) (vs : List Nat) : List D → List D → Env → (List D → Env → Prop) → (Exn → Env → Prop) → Prop
  | [], acc, ρ, Q, _ => Q acc ρ
  | d :: r, acc, ρ, Q, X => g d ρ (fun ρ2 => e ρ2 (fun y ρ3 => acc.length < 1000000 ∧ aCompM g e vs r (acc ++ [y]) (wipeA ρ3 vs) Q X) X)
def mLc (it : AL) (g : AG) (e : AM) (vs : List Nat) : AMO := fun ρ Q X => it ρ (fun ds => aCompM g e vs ds [] (wipeA ρ vs) (fun acc ρ' => Q (.ol acc) ρ') X) (fun x => X x ρ)
end
end SW
namespace SW
open PySem PySem.Spec PyProof.Rows L2
variable [QN]
section
variable {c : DC} {U H U' H' : Hp} {σ : L2.St} {ρ ρ' : Env}
inductive Swap : AV → V → AV → V → AV → AV → Prop
  | here {b b' : AV} {w : V} : Swap b w b w b' b'
  | on {ws : List V} {as : List AV} {v : V} {k : Nat} {a a' b b' : AV} {x w : V} : as[k]? = some a → ws[k]? = some x → Swap a x b w b' a' → Swap (.on ws as) v b w b' (.on ws (as.set k a'))
theorem ownAs_set : ∀ {as : List AV} {ws : List V} {k : Nat} {a a' : AV} {x : V}, as[k]? = some a → ws[k]? = some x → own a' x = own a x → ownAs (as.set k a') ws = ownAs as ws
  | [], _, k, a, a', x, e, _, _ => by simp at e
  | _ :: _, [], k, a, a', x, _, e, _ => by simp at e
  | b :: as, y :: ws, 0, a, a', x, e, f, h => by
    cases e
    cases f
    show own a' _ ++ ownAs as ws = own _ _ ++ ownAs as ws
    rw [h]
  | b :: as, y :: ws, k + 1, a, a', x, e, f, h => by
    show own b y ++ ownAs (as.set k a') ws = own b y ++ ownAs as ws
    rw [ownAs_set (as := as) (ws := ws) e f h]
theorem repAs_set {K : PySem.W.Frag} : ∀ {as : List AV} {ws : List V} {k : Nat} {a a' : AV} {x : V}, RepAs K U H as ws → as[k]? = some a → ws[k]? = some x → RepA K U H' a' x → (ownAs as ws).Nodup → (∀ p, p ∉ own a x → H' p = H p) → (∀ p ∈ ownAs as ws, U p = none) → RepAs K U H' (as.set k a') ws
  | [], _, k, a, a', x, _, e, _, _, _, _, _ => by simp at e
  | _ :: _, [], k, a, a', x, _, _, e, _, _, _, _ => by simp at e
  | b :: as, y :: ws, 0, a, a', x, ⟨v, r, e1, h1, h2⟩, e, f, h, nd, hH, hu => by
    cases e
    cases f
    obtain ⟨rfl, rfl⟩ := List.cons.inj e1
    obtain ⟨n1, n2, n3⟩ := List.nodup_append.mp (show (own b y ++ ownAs as ws).Nodup from nd)
    exact ⟨y, ws, rfl, h, RepAs.keep (Same.refl U) as ws (fun p hp => ⟨hH p (fun z => n3 p z p hp rfl), hu p (List.mem_append_right _ hp)⟩) h2⟩
  | b :: as, y :: ws, k + 1, a, a', x, ⟨v, r, e1, h1, h2⟩, e, f, h, nd, hH, hu => by
    obtain ⟨rfl, rfl⟩ := List.cons.inj e1
    obtain ⟨n1, n2, n3⟩ := List.nodup_append.mp (show (own b y ++ ownAs as ws).Nodup from nd)
    exact ⟨y, ws, rfl, RepA.keep (Same.refl U) b y (fun p hp => ⟨hH p (fun z => n3 p hp p (ownAs_at (as := as) e f p z) rfl), hu p (List.mem_append_left _ hp)⟩) h1, repAs_set (as := as) h2 e f h n2 hH fun p hp => hu p (List.mem_append_right _ hp)⟩
theorem Swap.sub {K : PySem.W.Frag} {a b b' a' : AV} {v w : V} (h : Swap a v b w b' a') : RepA K U H a v → ∀ p ∈ own b w, p ∈ own a v := by
  induction h with
  | here => exact fun _ p hp => hp
  | on h1 h2 _ ih =>
    rintro ⟨q, rfl, _, k⟩ p hp
    exact List.mem_cons_of_mem _ (ownAs_at h1 h2 p (ih (RepAs.at k _ _ _ h1 h2) p hp))
theorem ownAs_nd : ∀ {as : List AV} {ws : List V} {k : Nat} {a : AV} {x : V}, as[k]? = some a → ws[k]? = some x → (ownAs as ws).Nodup → (own a x).Nodup
  | [], _, k, a, x, e, _, _ => by simp at e
  | _ :: _, [], k, a, x, _, e, _ => by simp at e
  | b :: as, y :: ws, 0, a, x, e, f, h => by
    cases e
    cases f
    exact (List.nodup_append.mp (show (own b y ++ ownAs as ws).Nodup from h)).1
  | b :: as, y :: ws, k + 1, a, x, e, f, h => ownAs_nd (as := as) (ws := ws) e f (List.nodup_append.mp (show (own b y ++ ownAs as ws).Nodup from h)).2.1
theorem Swap.ok {K : PySem.W.Frag} {a b b' a' : AV} {v w : V} (h : Swap a v b w b' a') : RepA K U H a v → (own a v).Nodup → (∀ p ∈ own a v, U p = none) → RepA K U H' b' w → own b' w = own b w → b'.kind = b.kind → (∀ p, p ∉ own b w → H' p = H p) → RepA K U H' a' v ∧ own a' v = own a v ∧ a'.kind = a.kind := by
  induction h with
  | here => exact fun _ _ _ h1 h2 h3 _ => ⟨h1, h2, h3⟩
  | @on ws as v k a a' b b' x w h1 h2 hs ih =>
    rintro ⟨q, rfl, hq, k1⟩ nd hu r1 o1 kd hH
    have nd' : (q :: ownAs as ws).Nodup := nd
    obtain ⟨nq, nd2⟩ := List.nodup_cons.mp nd'
    have ra := RepAs.at k1 _ _ _ h1 h2
    have sub : ∀ p ∈ own a x, p ∈ ownAs as ws := ownAs_at h1 h2
    obtain ⟨i1, i2, i3⟩ := ih ra (ownAs_nd h1 h2 nd2) (fun p hp => hu p (List.mem_cons_of_mem _ (sub p hp))) r1 o1 kd hH
    have eo := ownAs_set h1 h2 i2
    have qn : q ∉ own b w := fun z => nq (sub q (hs.sub ra q z))
    refine ⟨⟨q, rfl, (hH q qn).trans hq, repAs_set k1 h1 h2 i1 nd2 (fun p hp => hH p fun z => hp (hs.sub ra p z)) fun p hp => hu p (List.mem_cons_of_mem _ hp)⟩, ?_, rfl⟩
    show q :: ownAs (as.set k a') ws = q :: ownAs as ws
    rw [eo]
/-- lines[i][k], where that never changes -/
def onQ (ρ : Env) (j : Nat) (Q : List V → List AV → Prop) : Prop := match ρ[j]? with
  | some (some (.on ws as)) => Q ws as
  | _ => False
abbrev AMLO := Env → (List AV → Env → Prop) → (Exn → Env → Prop) → Prop
def mNilO : AMLO := fun ρ Q _ => Q [] ρ
def mConsO (a : AMO) (r : AMLO) : AMLO := fun ρ Q X => a ρ (fun d ρ1 => r ρ1 (fun ds ρ2 => Q (d :: ds) ρ2) X) X
/-- a value that never changes, among things of one's own -/
def mUp (e : AM) : AMO := fun ρ Q X => e ρ (fun d ρ1 => Q (.fz d) ρ1) X
def mLstO (r : AMLO) : AMO := fun ρ Q X => r ρ (fun as ρ1 => as.length ≤ 1000000 ∧ ∀ ws : List V, ws.length = as.length → Q (.on ws as) ρ1) X
theorem repAs_snoc {K : PySem.W.Frag} : ∀ {as : List AV} {ws : List V} {a : AV} {w : V}, RepAs K U H as ws → RepA K U H a w → RepAs K U H (as ++ [a]) (ws ++ [w])
  | [], _, a, w, h, k => by
    rw [show _ = [] from h]
    exact ⟨w, [], rfl, k, rfl⟩
  | b :: as, _, a, w, ⟨v, r, e, h1, h2⟩, k => by
    subst e
    exact ⟨v, r ++ [w], rfl, h1, repAs_snoc h2 k⟩
theorem ownAs_snoc {K : PySem.W.Frag} : ∀ {as : List AV} {ws : List V} {a : AV} {w : V}, RepAs K U H as ws → ownAs (as ++ [a]) (ws ++ [w]) = ownAs as ws ++ own a w
  | [], _, a, w, h => by
    rw [show _ = [] from h]
    show own a w ++ [] = [] ++ own a w
    rw [List.append_nil]
    rfl
  | b :: as, _, a, w, ⟨v, r, e, h1, h2⟩ => by
    subst e
    show own b v ++ ownAs (as ++ [a]) (r ++ [w]) = (own b v ++ ownAs as r) ++ own a w
    rw [ownAs_snoc h2, List.append_assoc]
/-- a thing of one's own is put behind a list of such things -/
def mAppN (j : Nat) (e : AMO) : AS := fun N ρ => onQ ρ j fun _ _ => e ρ (fun av ρ1 => onQ ρ1 j fun ws as => ws.length < 1000000 ∧ av.kind = 5 ∧ ∀ p : Addr, (∀ (k : Nat) (xs : List V) (bs : List AV), as[k]? = some (.on xs bs) → ws[k]? ≠ some (.ref p)) → N.nx (ρ1.set j (some (.on (ws ++ [.ref p]) (as ++ [av]))))) N.ex
def fltD : D → Bool
  | .int _ => true
  | .bl _ => true
  | .str _ => true
  | .non => true
  | _ => false
def fltQ (Q : D → Prop) : AV → Prop
  | .fz d => fltD d = true ∧ Q d
  | _ => False
def argF (ρ : Env) : Arg → Option AV
  | .val d => some (.fz d)
  | .slot i => match ρ[i]? with
    | some (some av) => av.frz.map .fz
    | _ => none
def argsF (ρ : Env) : List Arg → Option (List AV)
  | [] => some []
  | a :: as => match argF ρ a, argsF ρ as with
    | some x, some xs => some (x :: xs)
    | _, _ => none
def callF (A : AF) (ρ : Env) (Q : D → Prop) (as : List Arg) : Prop := match argsF ρ as with
  | some avs => A avs (fltQ Q) fun _ => False
  | none => False
theorem ownAs_fz : ∀ {avs : List AV} {vs : List V}, (∀ a ∈ avs, ∃ d, a = .fz d) → ownAs avs vs = []
  | [], _, _ => by unfold ownAs; rfl
  | a :: as, [], _ => by unfold ownAs; rfl
  | a :: as, v :: vs, h => by
    obtain ⟨d, rfl⟩ := h a List.mem_cons_self
    show own (.fz d) v ++ ownAs as vs = []
    rw [ownAs_fz (avs := as) fun x hx => h x (List.mem_cons_of_mem _ hx)]
    cases v <;> rfl
def aCallF (A : AF) (r : AA) : AE := fun ρ Q X => r ρ (callF A ρ Q) X
end
end SW
namespace SW
open PySem PySem.Spec PyProof.Rows L2 SWS
variable [QN]
section
variable {c : DC} {K : PySem.W.Frag}
/-- len(set(xs)) as it is read -/
def aLenSet (a : AE) : AE := fun ρ Q X => a ρ (seqQ fun ds => someQ (fun xs => xs.length ≤ 1000 ∧ ∀ c : Nat, c ≤ xs.length → (c = xs.length ↔ xs.Nodup) → Q (.int c)) (strsOf ds)) X
end
section
variable {K : PySem.W.Frag}
def int2Q (Q : Int → Int → Prop) : List D → Prop
  | [.int a, .int b] => Q a b
  | _ => False
def oMax2 : List D → (D → Prop) → Prop := fun ds Q => int2Q (fun a b => Q (.int (if b > a then b else a))) ds
def oMin2 : List D → (D → Prop) → Prop := fun ds Q => int2Q (fun a b => Q (.int (if b < a then b else a))) ds
end
end SW
namespace SW
open PySem PySem.Spec PyProof.Rows L2 SWS
variable [QN]
section
variable {ρ : Env} {nx : Env → Prop} {rt : AV → Env → Prop} {bk ct : Env → Prop} {ex : Exn → Env → Prop} {i j : Nat} {m : AM} {mo : AMO} {r : AML} {ro : AMLO} {e a : AE} {o : AO} {Q : D → Env → Prop} {O : AV → Env → Prop} {X : Exn → Env → Prop} {L : List D → Env → Prop} {LO : List AV → Env → Prop}
theorem m_set (q : m ρ (fun d ρ1 => nx (ρ1.set i (some (.fz d)))) ex) : mSet i m ⟨nx, rt, bk, ct, ex⟩ ρ := q
theorem m_setO (q : mo ρ (fun av ρ1 => nx (ρ1.set i (some av))) ex) : mSetO i mo ⟨nx, rt, bk, ct, ex⟩ ρ := q
theorem m_drop (q : m ρ (fun _ ρ1 => nx ρ1) ex) : mDrop m ⟨nx, rt, bk, ct, ex⟩ ρ := q
theorem m_ret (q : m ρ (fun d ρ1 => rt (.fz d) ρ1) ex) : mRet m ⟨nx, rt, bk, ct, ex⟩ ρ := q
theorem m_retO (q : mo ρ (fun av ρ1 => rt av ρ1) ex) : mRetO mo ⟨nx, rt, bk, ct, ex⟩ ρ := q
theorem m_app {ds : List D} (h : ρ[i]? = some (some (.ol ds))) (q : m ρ (fun d ρ1 => olQ ρ1 i fun ds => ds.length < 1000000 ∧ nx (ρ1.set i (some (.ol (ds ++ [d]))))) ex) : mApp i m ⟨nx, rt, bk, ct, ex⟩ ρ := w_olQ h q
theorem w_onQ {ws : List V} {as : List AV} {P : List V → List AV → Prop} (h : ρ[i]? = some (some (.on ws as))) (q : P ws as) : onQ ρ i P := by unfold onQ; rw [h]; exact q
theorem m_appN {ws : List V} {as : List AV} (h : ρ[i]? = some (some (.on ws as))) (q : mo ρ (fun av ρ1 => onQ ρ1 i fun ws as => ws.length < 1000000 ∧ av.kind = 5 ∧ ∀ p : Addr, (∀ (k : Nat) (xs : List V) (bs : List AV), as[k]? = some (.on xs bs) → ws[k]? ≠ some (.ref p)) → nx (ρ1.set i (some (.on (ws ++ [.ref p]) (as ++ [av]))))) ex) : mAppN i mo ⟨nx, rt, bk, ct, ex⟩ ρ := w_onQ h q
theorem m_E (q : e ρ (fun d => Q d ρ) (fun x => X x ρ)) : mE e ρ Q X := q
theorem m_O (q : o ρ (fun d => O d ρ) (fun x => X x ρ)) : mO o ρ O X := q
theorem m_fz (q : mo ρ (fun av ρ' => frzQ (fun d => Q d ρ') av) X) : mFz mo ρ Q X := q
theorem m_up (q : m ρ (fun d ρ' => O (.fz d) ρ') X) : mUp m ρ O X := q
theorem m_nil (q : L [] ρ) : mNil ρ L X := q
theorem m_cons (q : m ρ (fun d ρ1 => r ρ1 (fun ds ρ2 => L (d :: ds) ρ2) X) X) : mCons m r ρ L X := q
theorem m_nilO (q : LO [] ρ) : mNilO ρ LO X := q
theorem m_consO (q : mo ρ (fun d ρ1 => ro ρ1 (fun ds ρ2 => LO (d :: ds) ρ2) X) X) : mConsO mo ro ρ LO X := q
theorem m_tup (q : r ρ (fun ds ρ1 => ds.length ≤ 1000000 ∧ Q (.tup ds) ρ1) X) : mTup r ρ Q X := q
theorem m_lst (q : r ρ (fun ds ρ1 => ds.length ≤ 1000000 ∧ O (.ol ds) ρ1) X) : mLst r ρ O X := q
theorem m_lstO (q : ro ρ (fun as ρ1 => as.length ≤ 1000000 ∧ ∀ ws : List V, ws.length = as.length → O (.on ws as) ρ1) X) : mLstO ro ρ O X := q
theorem m_call0 {A : AFM} {aa : AA} (q : aa ρ (callM A ρ O fun _ _ => False) (fun x => X x ρ)) : mCall0 A aa ρ O X := q
theorem m_call {A : AFM} {aa : AA} (q : aa ρ (callM A ρ O X) (fun x => X x ρ)) : mCall A aa ρ O X := q
def ndB : List Nat → Bool
  | [] => true
  | x :: l => !l.contains x && ndB l
theorem ndB_of : ∀ {l : List Nat}, ndB l = true → l.Nodup
  | [], _ => List.nodup_nil
  | x :: l, h => by
    unfold ndB at h
    rw [Bool.and_eq_true] at h
    exact List.nodup_cons.mpr ⟨fun z => (by rw [List.contains_iff_mem.mpr z] at h; cases h.1), ndB_of h.2⟩
theorem m_callM {A : AFM} {as : List Arg} {avs : List AV} (h1 : ndB (slotIx as) = true) (h : argsM ρ as = some avs) (q : A avs (fun av avs' => O av (putA ρ as avs')) (fun x avs' => X x (putA ρ as avs'))) : callM A ρ O X as := ⟨ndB_of h1, by rw [h]; exact q⟩
theorem m_lc {it : AL} {g : AG} {vs : List Nat} (q : it ρ (fun ds => aCompM g m vs ds [] (wipeA ρ vs) (fun acc ρ' => O (.ol acc) ρ') X) (fun x => X x ρ)) : mLc it g m vs ρ O X := q
end
section
variable {ρ : Env} {nx : Env → Prop} {rt : AV → Env → Prop} {bk ct : Env → Prop} {ex : Exn → Env → Prop} {i j : Nat} {a e : AE} {Q : D → Prop} {X : Exn → Prop} {d : D} {av : AV}
theorem w_slotO {r : AA} {P : List Arg → Prop} (h : ρ[i]? = some (some av)) (q : r ρ (fun ds => P (.slot i :: ds)) X) : aSlotO i r ρ P X := by unfold aSlotO; rw [h]; exact q
theorem w_callF {A : AF} {r : AA} (q : r ρ (callF A ρ Q) X) : aCallF A r ρ Q X := q
theorem w_callFQ {A : AF} {as : List Arg} {avs : List AV} (h : argsF ρ as = some avs) (q : A avs (fltQ Q) fun _ => False) : callF A ρ Q as := by unfold callF; rw [h]; exact q
theorem w_fltI {x : Int} (q : Q (.int x)) : fltQ Q (.fz (.int x)) := ⟨rfl, q⟩
theorem w_max2 {x y : Int} (q : Q (.int (if y > x then y else x))) : oMax2 [.int x, .int y] Q := q
theorem w_min2 {x y : Int} (q : Q (.int (if y < x then y else x))) : oMin2 [.int x, .int y] Q := q
theorem w_bmS {f : D → List D → (D → Prop) → Prop} {r : AL} (q : a ρ (strQ fun x => r ρ (fun ds => f (.str x) ds Q) X) X) : aBmS f a r ρ Q X := q
theorem w_strQ {P : Str → Prop} {x : Str} (q : P x) : strQ P (.str x) := q
theorem w_join {x : Str} {xs : List Str} (h : (xs.map (·.length)).sum + xs.length * x.length ≤ 1000000) (q : Q (.str (Txt.join x xs))) : oJoin (.str x) [.lst (xs.map .str)] Q := by
  show someQ _ (strsOf (xs.map D.str))
  rw [strsOf_map]
  exact ⟨h, q⟩
theorem w_mulS {x : Str} {k : Int} (h : 0 ≤ k ∧ k ≤ 1000000 ∧ x.length * k.toNat ≤ 1000000) (q : Q (.str (Txt.mul x k))) : oMulS (.str x) (.int k) Q := ⟨h.1, h.2.1, h.2.2, q⟩
theorem w_lenSet (q : a ρ (seqQ fun ds => someQ (fun xs => xs.length ≤ 1000 ∧ ∀ c : Nat, c ≤ xs.length → (c = xs.length ↔ xs.Nodup) → Q (.int c)) (strsOf ds)) X) : aLenSet a ρ Q X := q
end
end SW
namespace SW
open PySem PySem.Spec PyProof.Rows L2 SWS
variable [QN]
section
variable {c : DC} {U H U' H' : Hp} {σ : L2.St} {ρ ρ' : Env}
def obQ (ρ : Env) (i : Nat) (C : Addr) (Q : Addr → List Str → List V → List AV → Prop) : Prop := match ρ[i]? with
  | some (some (.ob C' dx ns ws as)) => C' = C ∧ Q dx ns ws as
  | _ => False
theorem obQ_of {i : Nat} {C : Addr} {Q : Addr → List Str → List V → List AV → Prop} (h : obQ ρ i C Q) : ∃ dx ns ws as, ρ[i]? = some (some (.ob C dx ns ws as)) ∧ Q dx ns ws as := by
  unfold obQ at h
  split at h
  · obtain ⟨rfl, h⟩ := h
    exact ⟨_, _, _, _, by assumption, h⟩
  · exact h.elim
theorem putF_new {f : Str} {v : V} : ∀ {ns : List Str} {ws : List V}, ns.length = ws.length → ns.contains f = false → putF f v (ns.zip ws) = (ns ++ [f]).zip (ws ++ [v])
  | [], [], _, _ => rfl
  | [], _ :: _, h, _ => by cases h
  | _ :: _, [], h, _ => by cases h
  | n :: ns, w :: ws, h, k => by
    rw [List.contains_cons, Bool.or_eq_false_iff] at k
    show (if n = f then (n, v) :: ns.zip ws else (n, w) :: putF f v (ns.zip ws)) = _
    rw [if_neg (fun z => by rw [z] at k; simp at k), putF_new (Nat.succ.inj h) k.2]
    rfl
inductive KA where
  | kw (i : Nat) | df (d : D)
def kaD (es : List D) : KA → D
  | .kw i => es.getD i .non
  | .df d => d
def kaOk (m : Nat) : KA → Bool
  | .kw i => decide (i < m)
  | .df (.int _) => true
  | .df .non => true
  | .df _ => false
theorem Paired.app {α β : Type} {F : α → β → Prop} : ∀ {xs xs' : List α} {ys ys' : List β}, Paired F xs ys → Paired F xs' ys' → Paired F (xs ++ xs') (ys ++ ys')
  | _, _, _, _, .nil, k => k
  | _, _, _, _, .cons h t, k => .cons h (Paired.app t k)
theorem rs_paired {K : PySem.W.Frag} : ∀ {ds : List D} {vs : List V}, Rs K U ds vs → Paired (RepA K U H) (ds.map .fz) vs
  | [], _, h => by rw [show _ = [] from h]; exact .nil
  | d :: ds, _, ⟨v, r, e, h1, h2⟩ => by rw [e]; exact .cons h1 (rs_paired h2)
def headQ (Q : AV → Prop) : List AV → Prop
  | a :: _ => Q a
  | [] => False
def mkQ (C : Addr) (A : AFM) (Q : AV → Prop) (X : Exn → Prop) (as : List AV) : Prop := ∀ dx : Addr, A (.ob C dx [] [] [] :: as) (fun av avs' => av = .fz .non ∧ headQ Q avs') (fun x _ => X x)
theorem run_mk {C : Addr} {A : AFM} {as : List AV} {vs : List V} {Q : AV → Prop} {X : Exn → Prop} {q : VK} {E : XK} (I : DI c U H σ ρ) (rep : Paired (RepA c.K U H) as vs) (fz : ∀ a ∈ as, ∃ d, a = .fz d) (h : mkQ C A Q X as)
    (k : ∀ U' H' av v, Gr (drs ρ σ) U H U' H' → DI c U' H' σ ρ → RepA c.K U' H' av v → Fresh U' H av v → Q av → q v H')
    (kx : ∀ U' H' x cls o, DI c U' H' σ ρ → XRep c.K U' H' x cls o → X x → E cls o H') {x dx : Addr} (nx : H x = none) (nd : H dx = none) (ne : dx ≠ x) :
    spM c.K c.tb A (.ref x :: vs) (upd (upd H dx (.own x)) x (.ins C dx [])) (fun v H3 => v = .non ∧ q (.ref x) H3) E := by
  have nx2 : upd H dx (.own x) x = none := by rw [upd_ne (fun z => ne z.symm)]; exact nx
  have g1 : Gr [] U H U (upd H dx (.own x)) := (Gr.refl I.vh).newM nd
  have g2 : Gr [] U H U (upd (upd H dx (.own x)) x (.ins C dx [])) := g1.trans ((Gr.refl g1.vh).newM nx2)
  have e0 : ownAs as vs = [] := ownAs_fz fz
  have eo : ownAs (.ob C dx [] [] [] :: as) (.ref x :: vs) = [x] := by
    show own (.ob C dx [] [] []) (.ref x) ++ ownAs as vs = [x]
    rw [e0]
    rfl
  have ux : U x = none := I.vh.free nx
  refine ⟨U, .ob C dx [] [] [] :: as, _, _, g2.vh, I.tbs.gr g2, .cons ⟨x, rfl, upd_same, rfl, rfl⟩ (paired_at rep.length fun n a v ha hv => ?_), by rw [eo]; simp, fun p hp => by rw [eo] at hp; rw [List.mem_singleton.mp hp]; exact ux, h dx, fun U' H' av v avs' g r nd' hf r2 n2 u2 kd per z => ?_, fun U' H' ex cls o avs' g xr r2 n2 u2 kd per z => ?_⟩
  · obtain ⟨w, e1, e2⟩ := Paired.at' rep n a ha
    rw [hv] at e1
    cases e1
    obtain ⟨d, rfl⟩ := fz a (List.mem_of_getElem? ha)
    exact e2
  · rw [eo] at g
    obtain ⟨rfl, z⟩ := z
    refine ⟨r, ?_⟩
    cases avs' with
    | nil => exact z.elim
    | cons a' avs' =>
      cases r2 with
      | cons ra rt =>
        have g3 : Gr [] U H U' H' := g2.comp g fun p hp => by rw [List.mem_singleton.mp hp]; exact .inr nx
        have hin : ∀ p ∈ own a' (.ref x), p ∈ ownAs (a' :: avs') (.ref x :: vs) := fun p hp => List.mem_append_left _ hp
        refine k U' H' a' (.ref x) g3.any (I.grow g3) ra ⟨(List.nodup_append.mp (show (own a' (.ref x) ++ ownAs avs' vs).Nodup from n2)).1, fun p hp => ⟨u2 p (hin p hp), ?_⟩⟩ z
        rcases per.1 p hp with y | y
        · have : p = x := by
            have y' : p ∈ [x] := y
            exact List.mem_singleton.mp y'
          rw [this]
          exact nx
        · exact g2.fresh y
  · rw [eo] at g
    have g3 : Gr [] U H U' H' := g2.comp g fun p hp => by rw [List.mem_singleton.mp hp]; exact .inr nx
    exact kx U' H' ex cls o (I.grow g3) xr z
def objQ (C : Addr) (m : Str) (Q : D → Prop) : D → Prop
  | .obj C' ns ds => C' = C ∧ ns.contains m = false ∧ Q (.obj C' ns ds)
  | _ => False
theorem objQ_of {C : Addr} {m : Str} {Q : D → Prop} {d : D} (h : objQ C m Q d) : ∃ ns ds, d = .obj C ns ds ∧ ns.contains m = false ∧ Q d := by
  cases d with
  | obj C' ns ds =>
    obtain ⟨rfl, h1, h2⟩ := h
    exact ⟨ns, ds, rfl, h1, h2⟩
  | _ => exact h.elim
theorem lookup_none {m : Str} : ∀ {ns : List Str} {xs : List V}, ns.contains m = false → (ns.zip xs).lookup m = none
  | [], _, _ => rfl
  | _ :: _, [], _ => rfl
  | n :: ns, x :: xs, h => by
    rw [List.contains_cons, Bool.or_eq_false_iff] at h
    show (match m == n with | true => some x | false => (ns.zip xs).lookup m) = none
    rw [h.1]
    exact lookup_none h.2
def aMe0 (C : Addr) (m : Str) (A : AF) (a : AE) (r : AA) : AO := fun ρ Q X => a ρ (objQ C m fun d => r ρ (fun as => callQ A ρ Q (fun _ => False) (.val d :: as)) X) X
theorem sim_me0 {C : Addr} {m : Str} {A : AF} {ta : TE} {a : AE} {tr : TA} {r : AA} {E : XK} (ha : SimE c ta a) (hr : SimA c tr r) : SimO c (tMeth C m (spD c.K c.tb A) [] E ta tr) (aMe0 C m A a r) := fun U H σ ρ Q q I z k =>
  ha U H σ ρ _ _ I z fun U1 H1 d v g1 I1 r1 z1 => by
    obtain ⟨ns, ds, rfl, nm, z2⟩ := objQ_of z1
    obtain ⟨p, dx, xs, rfl, hp, hl, hrs⟩ := r1
    refine ⟨p, dx, _, rfl, I1.vh _ _ hp, lookup_none nm, hr U1 H1 σ ρ _ _ I1 z2 fun U2 H2 as vs g2 I2 r2 z3 => ?_⟩
    rw [List.append_nil]
    have r1' : R c.K U2 (.obj C ns ds) (.ref p) := R.mono g2.vv _ _ ⟨p, dx, xs, rfl, hp, hl, hrs⟩
    exact run_spD I2 (as := .val (.obj C ns ds) :: as) (vs := .ref p :: vs) (.cons r1' r2) z3 (fun U3 H3 av v g3 I3 r3 n3 z4 => k U3 H3 av v ((g1.trans g2).trans g3) I3 r3 (n3.back fun _ h => (g1.trans g2).fresh h) z4) (fun _ _ _ _ _ _ _ z => z.elim)
def oIsC (C : Addr) : List D → (D → Prop) → Prop := fun ds Q => twoQ (fun d e => e = .adr C ∧ match d with
  | .obj C' _ _ => C' = C ∧ Q (.bl true)
  | .str _ => Q (.bl false)
  | _ => False) ds
structure IsiC (K : PySem.W.Frag) (C : Addr) : Prop where
  st : PySem.W.kitCls K (.type "str") (.ref C) = some false
  ha : PySem.W.findIn K (.ref C) "__class__" = some (some (.builtin "object.__class__"))
  hn : PySem.W.specialIn K (.builtin "object.__class__") "__get__" = some (some (.builtin "getset_descriptor.__get__"))
  ht : PySem.W.takesIn K (.builtin "object.__class__") = some true
  hm : PySem.W.mroIn K C (.type "object") = some true
  ss : PySem.W.subIn K (.type "str") (.ref C) = some false
theorem bu_isC {K : PySem.W.Frag} {C : Addr} (cl : Cls K C) (hs : IsiC K C) : BuD K (rIsi K) (oIsC C) := fun U H vs ds Q q s r z k => by
  obtain ⟨d, e, rfl, h, z9⟩ := twoQ_of z
  subst h
  obtain ⟨v, w, rfl, cd, ce⟩ := paired2 r
  rw [ce.adr]
  cases d with
  | obj C' ns es =>
    obtain ⟨rfl, z8⟩ := z9
    obtain ⟨p, dx, xs, rfl, hp, _⟩ := cd.obj s
    exact ⟨.ref p, .ref C', .ref C', .ref C', true, rfl, .own _, .base (.ins hp cl hs.ha hs.hn hs.ht hs.hm), if_pos (beq_self_eq_true _), k U H (.bl true) _ (Gr.refl s) rfl z8⟩
  | str x =>
    rw [cd.str]
    exact ⟨.str x, .ref C, .type "str", .ref C, false, rfl, .own _, .base (.str _), by
      unfold PySem.W.kitOne
      rw [if_neg (by intro h; cases h)]
      exact hs.st, k U H (.bl false) _ (Gr.refl s) rfl z9⟩
  | _ => exact z9.elim
end
def rOwnEq (C : Addr) (sp : Sp) (E : XK) : R2 := fun x y H Q => ∃ a dx fs, x = .ref a ∧ H a = some (.ins C dx fs) ∧ ((∃ b dy gs, y = .ref b ∧ H b = some (.ins C dy gs)) ∨ ∃ t, y = .str t) ∧ sp [x, y] H (fun v H' => (∃ b, v = .bl b) ∧ Q v H') E
section
variable {X : Cx} {CX : CXT} {n : Nat} {C f : Addr} {fd : FuncData} {ps : List Str} {sp : Sp} {E : XK}
theorem op_ownEq (F : FnOk X.prog X.w X.K X.mg X.base CX n f fd ps sp) (hr : Room n X.A) (i : IsiC X.K C) (hm : Meth X.K C "__eq__" f) (hb : Binds X.K fd ps []) (hx : Passes CX X E) : OpR X (compareOp .Eq) (rOwnEq C sp E) := by
  intro pins s σ H x y v u Q I rx ry h
  obtain ⟨a, dx, fs, rfl, ha, hy, hsp⟩ := h
  cases rx
  obtain ⟨mA, J, _⟩ := ins_get I.hok ha
  obtain ⟨od, J, _⟩ := J.look
  obtain ⟨m, hF⟩ := I.fr
  show wpAny (model X.prog X.w) X.A (richCompare .Eq (.ref a) u) (EP X pins σ Q) X.xe s
  have call : wpAny (model X.prog X.w) X.A (call (.ref f) [.ref a, u]) (PySem.W.CmpBack (EP X pins σ Q)) X.xe s := by
    have hl := F.len _ _ _ _ hsp
    have r2 : Vals [V.ref a, y] [Value.ref a, u] := .cons rfl (.cons ry .nil)
    refine wpAny_call (codeAny_mono (F.run X.A X.stack s H ⟨[.ref a, u], []⟩ [.ref a, u] [.ref a, y] _ E hr I.env0 (by
      have := hb s [.ref a, u] I.kIn (by simpa using hl)
      simpa using this) r2 hsp) fun r s' hq => ?_)
    cases r with
    | error e => exact hx pins σ H s e s' I hq
    | ok fl =>
      cases fl with
      | ret w =>
        obtain ⟨z, H', I', rz, ⟨b, rfl⟩, ex⟩ := I.after hq
        obtain rfl : w = .bool b := rz
        exact ⟨.bl b, H', I', rfl, ex⟩
      | next => exact False.elim hq
      | brk => exact False.elim hq
      | cont => exact False.elim hq
  rcases hy with ⟨b, dy, gs, rfl, hb'⟩ | ⟨t, rfl⟩
  · cases ry
    obtain ⟨mB, J', _⟩ := ins_get I.hok hb'
    obtain ⟨od', J', _⟩ := J'.look
    exact PySem.W.cmp_K (op := .Eq) (tb := .ref C) hr.units0 hF I.ok.mod.kin J J'.type (by simp [PySem.W.notFirst]) hm.at_ hm.fn call
  · obtain ⟨k, rfl⟩ := ry
    exact PySem.W.cmp_K (op := .Eq) (tb := .type "str") hr.units0 hF I.ok.mod.kin J (.of_pure rfl) (by unfold PySem.W.notFirst; rw [i.ss]; rfl) hm.at_ hm.fn call
end
section
variable {c : DC} {U H U' H' : Hp} {σ : L2.St} {ρ ρ' : Env}
def eqOk (C : Addr) : D → D → Prop
  | .obj C' _ _, .obj C2 _ _ => C' = C ∧ C2 = C
  | .obj C' _ _, .str _ => C' = C
  | _, _ => False
def blAV (Q : D → Prop) : AV → Prop
  | .fz (.bl b) => Q (.bl b)
  | _ => False
def aOwnEq (C : Addr) (A : AF) (a b : AE) : AE := fun ρ Q X => a ρ (fun d => b ρ (fun e => eqOk C d e ∧ A [.fz d, .fz e] (blAV Q) fun _ => False) X) X
theorem sim_ownEq {C : Addr} {A : AF} {ta tb : TE} {a b : AE} {E : XK} (ha : SimE c ta a) (hb : SimE c tb b) : SimE c (tOp (rOwnEq C (spD c.K c.tb A) E) ta tb) (aOwnEq C A a b) := fun U H σ ρ Q q I z k =>
  ha U H σ ρ _ _ I z fun U1 H1 d v g1 I1 r1 z1 => hb U1 H1 σ ρ _ _ I1 z1 fun U2 H2 e w g2 I2 r2 z2 => by
    obtain ⟨ok, z3⟩ := z2
    have r1' := R.mono g2.vv d v r1
    have call : spD c.K c.tb A [v, w] H2 (fun v H' => (∃ b, v = .bl b) ∧ q v H') E := by
      refine run_spD (Q := blAV Q) (X := fun _ => False) I2 (as := [.val d, .val e]) (vs := [v, w]) (.cons r1' (.cons r2 .nil)) ⟨Nat.zero_le _, z3⟩ (fun U3 H3 av v g3 I3 r3 n3 z4 => ?_) (fun _ _ _ _ _ _ _ z => z.elim)
      cases av with
      | fz y =>
        cases y with
        | bl b => exact ⟨⟨b, r3⟩, k U3 H3 _ v ((g1.trans g2).trans g3) I3 r3 z4⟩
        | _ => exact z4.elim
      | _ => exact z4.elim
    cases d with
    | obj C' ns ds =>
      obtain ⟨p, dx, xs, rfl, hp, _⟩ := r1'
      cases e with
      | obj C2 ns2 ds2 =>
        obtain ⟨rfl, rfl⟩ := ok
        obtain ⟨p2, dx2, xs2, rfl, hp2, _⟩ := r2
        exact ⟨p, dx, _, rfl, I2.vh _ _ hp, .inl ⟨p2, dx2, _, rfl, I2.vh _ _ hp2⟩, call⟩
      | str t =>
        have ok' : C' = C := ok
        subst ok'
        exact ⟨p, dx, _, rfl, I2.vh _ _ hp, .inr ⟨t, r2⟩, call⟩
      | _ => exact ok.elim
    | _ => exact ok.elim
theorem sim_adr {a : Addr} : SimE c (tC (.ref a)) (aC (.adr a)) := sim_c fun _ => rfl
end
end SW
namespace SWS
open PySem PySem.Spec PyProof.Rows
end SWS
namespace SW
open PySem PySem.Spec PyProof.Rows L2 SWS
end SW
namespace SW
open PySem PySem.Spec PyProof.Rows L2 SWS
variable [QN]
def keyDecMem (y : Key) : (ks : List Key) → Decidable (y ∈ ks)
  | [] => Decidable.isFalse (by simp)
  | k :: ks => if h : y = k then Decidable.isTrue (h ▸ List.mem_cons_self) else match keyDecMem y ks with
    | Decidable.isTrue t => Decidable.isTrue (List.mem_cons_of_mem _ t)
    | Decidable.isFalse t => Decidable.isFalse fun z => (List.mem_cons.mp z).elim h t
instance (y : Key) (ks : List Key) : Decidable (y ∈ ks) := keyDecMem y ks
def dval : List Key → List D → Key → Option D
  | k :: ks, d :: ds, y => if k = y then some d else dval ks ds y
  | _, _, _ => none
/-- in its place, or at the end -/
def dputK (ks : List Key) (y : Key) : List Key := if y ∈ ks then ks else ks ++ [y]
def dputD : List Key → List D → Key → D → List D
  | k :: ks, d :: ds, y, e => if k = y then e :: ds else d :: dputD ks ds y e
  | _, _, _, e => [e]
def keyD : D → Option Key
  | .str x => some (.inr x)
  | .int i => some (.inl i)
  | _ => none
theorem keyD_r {K : PySem.W.Frag} {U H : Hp} {d : D} {v : V} {k : Key} (h : keyD d = some k) (r : CR K U H d v) : v = kV k := by
  cases d with
  | str x => cases h; exact r.str
  | int i => cases h; exact r.int
  | _ => cases h
def dKQ (Q : List Key → List D → Prop) : D → Prop
  | .dK ks ds => Q ks ds
  | _ => False
section
variable {c : DC} {U H U' H' : Hp} {σ : L2.St} {ρ ρ' : Env} {ta tb : TE} {a b : AE}
/-- k in d, k not in d, d[k] -/
def aDIn (neg : Bool) (a b : AE) : AE := fun ρ Q X => a ρ (fun y => someQ (fun k => b ρ (dKQ fun ks ds => Q (.bl (if neg then !decide (k ∈ ks) else decide (k ∈ ks)))) X) (keyD y)) X
def aDGet (b a : AE) : AE := fun ρ Q X => b ρ (dKQ fun ks ds => a ρ (fun y => someQ (fun k => someQ Q (dval ks ds k)) (keyD y)) X) X
def fldIx (f : Str) : List Str → Nat → Option Nat
  | n :: ns, k => if n = f then some k else fldIx f ns (k + 1)
  | [], _ => none
def obfQ (ρ : Env) (i : Nat) (C : Addr) (f : Str) (Q : Addr → List Str → List V → List AV → Nat → AV → Prop) : Prop := obQ ρ i C fun dx ns ws as => match fldIx f ns 0 with
  | some k => match as[k]? with
    | some av => Q dx ns ws as k av
    | none => False
  | none => False
def aFldS (i : Nat) (C : Addr) (f : Str) : AE := fun ρ Q _ => obfQ ρ i C f fun _ _ _ _ _ av => someQ Q av.sh
/-- self.f = a thing of one's own -/
def aFldSetO (i : Nat) (C : Addr) (f : Str) (e : AO) : AS := fun N ρ => e ρ (fun av => obQ ρ i C fun dx ns ws as => ns.contains f = false ∧ ns.length < 1000 ∧ ∀ v : V, N.nx (ρ.set i (some (.ob C dx (ns ++ [f]) (ws ++ [v]) (as ++ [av]))))) (fun x => N.ex x ρ)
theorem sim_fldSetO {i : Nat} {C : Addr} {f : Str} {te : TE} {e : AO} (hc : Cls c.K C) (hn : NoAttr c.K C f) (he : SimO c te e) : SimS c (sFld c.K (tVar i) te f) (aFldSetO i C f e) := fun U H σ ρ N n hx I z P => by
  unfold aFldSetO at z
  rw [hx] at z
  refine he U H σ ρ _ _ I z fun U1 H1 av v g1 I1 r1 n1 z1 => ?_
  obtain ⟨dx, ns, ws, as, e1, nf, nl, z2⟩ := obQ_of z1
  obtain ⟨v0, f1, ⟨p, rfl, f3, f4, f5⟩, f6⟩ := rep_at I1.rep i _ e1
  have nd := own_nd I1.nd e1 f1
  obtain ⟨np, nd2⟩ := List.nodup_cons.mp (show (p :: ownAs as ws).Nodup from nd)
  have eo := ownAs_snoc (a := av) (w := v) f5
  have hu : ∀ q ∈ p :: ownAs as ws, U1 q = none := fun q hq => (I1.out q (f6 q hq)).1
  have d1 : ∀ q ∈ own av v, q ∉ owns ρ σ := fun q hq zz => I.ex q zz (n1.out q hq).2
  have pa : p ∉ own av v := fun zz => d1 p zz (f6 p List.mem_cons_self)
  have ej : (ρ.set i (some (.ob C dx (ns ++ [f]) (ws ++ [v]) (as ++ [av]))))[i]? = some (some (.ob C dx (ns ++ [f]) (ws ++ [v]) (as ++ [av]))) := List.getElem?_set_self (List.getElem?_eq_some_iff.mp e1).1
  have ok1 : ownK ρ σ i = p :: ownAs as ws := by unfold ownK; rw [e1, f1]; rfl
  have ok2 : ownK (ρ.set i (some (.ob C dx (ns ++ [f]) (ws ++ [v]) (as ++ [av])))) σ i = p :: (ownAs as ws ++ own av v) := by
    unfold ownK
    rw [ej, f1, ← eo]
    rfl
  have g : Gr [p] U1 H1 U1 (upd H1 p (.ins C dx (putF f v (ns.zip ws)))) := (Gr.refl I1.vh).mut (hu p List.mem_cons_self) (.inl (List.mem_singleton.mpr rfl)) (I1.pl p (f6 p List.mem_cons_self))
  refine ⟨.ref p, f1, p, C, dx, _, rfl, f3, hc, hn, by rw [List.length_zip, ← f4, Nat.min_self]; exact nl, P.nx U1 _ σ _ g1.vv (I1.multiG (M := [p]) (fun k => k == i) g (List.length_set ..) (fun k hk => ?_) (fun k hk => ?_) (fun q hq => ⟨i, by simp, by rw [ok1, List.mem_singleton.mp hq]; exact List.mem_cons_self⟩) (fun k q hk hq => ?_) (fun k l q hkl h1 h2 => ?_)) (z2 v)⟩
  · rw [List.getElem?_set_ne fun z => by rw [z] at hk; simp at hk]
  · have : k = i := by simpa using hk
    subst this
    refine ⟨_, _, .ref p, e1, ej, f1, rfl, ⟨p, rfl, by rw [upd_same, putF_new f4 nf], by rw [List.length_append, List.length_append, f4]; rfl, repAs_snoc (RepAs.keep (Same.refl U1) as ws (fun q hq => ⟨upd_ne (fun z => np (z ▸ hq)), hu q (List.mem_cons_of_mem _ hq)⟩) f5) (RepA.keep (Same.refl U1) av v (fun q hq => ⟨upd_ne (fun z => pa (z ▸ hq)), (n1.out q hq).1⟩) r1)⟩, ?_⟩
    show (p :: ownAs (as ++ [av]) (ws ++ [v])).Nodup
    rw [eo]
    refine List.nodup_cons.mpr ⟨fun z => ?_, List.nodup_append.mpr ⟨nd2, n1.nd, fun x hx' y hy e => d1 y hy (f6 y (by rw [← e]; exact List.mem_cons_of_mem _ hx'))⟩⟩
    rcases List.mem_append.mp z with z | z
    · exact np z
    · exact pa z
  · have : k = i := by simpa using hk
    subst this
    rw [ok2] at hq
    rw [ok1]
    rcases List.mem_cons.mp hq with rfl | hq
    · exact ⟨hu q List.mem_cons_self, .inl List.mem_cons_self⟩
    · rcases List.mem_append.mp hq with hq | hq
      · exact ⟨hu q (List.mem_cons_of_mem _ hq), .inl (List.mem_cons_of_mem _ hq)⟩
      · exact ⟨(n1.out q hq).1, .inr ⟨d1 q hq, I.gr.fresh (n1.out q hq).2⟩⟩
  · have a1 : k = i := by simpa using h1
    have a2 : l = i := by simpa using h2
    exact absurd (a1.trans a2.symm) hkl
def aDNew : AO := fun _ Q _ => Q (.ok [] [])
@[reducible] def DC.no (c : DC) : DC := ⟨c.K, c.ks, c.pk, c.pv, c.O, c.M, c.U0, c.H0, fun _ _ => False, c.E, c.tb⟩
theorem DI.no (I : DI c U H σ ρ) : DI c.no U H σ ρ := ⟨I.gr, I.rep, I.nd, I.out, I.par, ⟨fun _ _ _ _ _ _ _ _ _ _ _ _ z => z.elim, I.ko.tb⟩, I.ow, I.on⟩
def kD : Key → D
  | .inl i => .int i
  | .inr x => .str x
def okQ (Q : List Key → List D → Prop) : AV → Prop
  | .ok ks ds => Q ks ds
  | _ => False
/-- a comprehension over a dict of the instance in a slot -/
def aLcD (i : Nat) (C : Addr) (f : Str) (ag : AG) (at' : AT) (e : AE) (vs : List Nat) : AO := fun ρ Q _ => obfQ ρ i C f fun dx ns ws as n av => okQ (fun ks _ => aComp ag at' e (wipeA (ρ.set i (some (.ob C dx ns ws (as.set n .un)))) vs) (fun _ => False) (ks.map kD) [] (fun acc => Q (.ol acc))) av
def aDPutF (i : Nat) (C : Addr) (f : Str) (ky e : AE) : AS := fun N ρ => e ρ (fun d => obfQ ρ i C f fun dx ns ws as n av => okQ (fun ks ds => ky ρ (fun y => someQ (fun kk => ks.length < 1000000 ∧ ks.Nodup ∧ N.nx (ρ.set i (some (.ob C dx ns ws (as.set n (.ok (dputK ks kk) (dputD ks ds kk d)))))) ) (keyD y)) (fun x => N.ex x ρ)) av) (fun x => N.ex x ρ)
def mMe (C : Addr) (m : Str) (A : AFM) (i : Nat) (r : AA) : AMO := fun ρ Q X => obQ ρ i C fun _ ns _ _ => ns.contains m = false ∧ r ρ (fun as => callM A ρ Q X (.slot i :: as)) (fun x => X x ρ)
end
section
variable {c : DC} {U H U' H' : Hp} {σ : L2.St} {ρ ρ' : Env}
def mMe0 (C : Addr) (m : Str) (A : AFM) (i : Nat) (r : AA) : AMO := fun ρ Q X => obQ ρ i C fun _ ns _ _ => ns.contains m = false ∧ r ρ (fun as => callM A ρ Q (fun _ _ => False) (.slot i :: as)) (fun x => X x ρ)
def mMeN0 (C : Addr) (m : Str) (n mm : Nat) (A : AFM) (arr : List KA) (i : Nat) (r rk : AL) : AMO := fun ρ Q X => obQ ρ i C fun _ ns _ _ => ns.contains m = false ∧ r ρ (fun ds => rk ρ (fun es => ds.length = n ∧ es.length = mm ∧ arr.all (kaOk mm) = true ∧ callM A ρ Q (fun _ _ => False) (.slot i :: (ds.map .val ++ arr.map fun a => .val (kaD es a)))) (fun x => X x ρ)) (fun x => X x ρ)
/-- C() -/
def aMk00 (C : Addr) (A : AFM) : AO := fun _ Q _ => mkQ C A Q (fun _ => False) []
/-- a tuple that is read is as good as one that never changes -/
def aTupE (e : AE) : AE := fun ρ Q X => e ρ (tupQ fun ds => Q (.tup ds)) X
/-- a method with defaults alone, on the instance in a slot; nothing is raised -/
def mMeD0 (C : Addr) (m : Str) (A : AFM) (ns0 : List Int) (i : Nat) (r : AL) : AMO := fun ρ Q X => obQ ρ i C fun _ ns _ _ => ns.contains m = false ∧ r ρ (fun ds => callM A ρ Q (fun _ _ => False) (.slot i :: (ds.map .val ++ ns0.map fun a => .val (.int a)))) (fun x => X x ρ)
theorem ints_args {K : PySem.W.Frag} {σ : L2.St} : ∀ (ns : List Int), Paired (ArgR K U σ) (ns.map fun a => .val (.int a)) (ns.map V.int)
  | [] => .nil
  | n :: ns => .cons rfl (ints_args ns)
end
end SW
namespace SW
open PySem PySem.Spec PyProof.Rows L2 SWS
variable [QN]
section
variable {ρ : Env} {nx : Env → Prop} {rt : AV → Env → Prop} {bk ct : Env → Prop} {ex : Exn → Env → Prop} {i j k : Nat} {a b e : AE} {Q : D → Prop} {O : AV → Prop} {X : Exn → Prop} {C dx : Addr} {f : Str} {ns : List Str} {ws : List V} {as : List AV} {av : AV} {d : D} {ks : List Key} {ds : List D}
theorem w_dInF (q : a ρ (fun y => someQ (fun k => b ρ (dKQ fun ks _ => Q (.bl (decide (k ∈ ks)))) X) (keyD y)) X) : aDIn false a b ρ Q X := q
theorem w_dInT (q : a ρ (fun y => someQ (fun k => b ρ (dKQ fun ks _ => Q (.bl (!decide (k ∈ ks)))) X) (keyD y)) X) : aDIn true a b ρ Q X := q
theorem w_dGet (q : b ρ (dKQ fun ks ds => a ρ (fun y => someQ (fun k => someQ Q (dval ks ds k)) (keyD y)) X) X) : aDGet b a ρ Q X := q
theorem w_keyS {P : Key → Prop} {x : Str} (q : P (.inr x)) : someQ P (keyD (.str x)) := q
theorem w_dKQ {P : List Key → List D → Prop} (q : P ks ds) : dKQ P (.dK ks ds) := q
theorem w_obfQ {P : Addr → List Str → List V → List AV → Nat → AV → Prop} (h1 : ρ[i]? = some (some (.ob C dx ns ws as))) (h2 : fldIx f ns 0 = some k) (h3 : as[k]? = some av) (q : P dx ns ws as k av) : obfQ ρ i C f P := by
  unfold obfQ obQ
  rw [h1]
  refine ⟨rfl, ?_⟩
  dsimp only
  rw [h2]
  dsimp only
  rw [h3]
  exact q
theorem w_fldS (h1 : ρ[i]? = some (some (.ob C dx ns ws as))) (h2 : fldIx f ns 0 = some k) (h3 : as[k]? = some av) (h4 : av.sh = some d) (q : Q d) : aFldS i C f ρ Q X := w_obfQ h1 h2 h3 (by show someQ Q av.sh; rw [h4]; exact q)
theorem w_lcD {ag : AG} {at' : AT} {vs : List Nat} (h1 : ρ[i]? = some (some (.ob C dx ns ws as))) (h2 : fldIx f ns 0 = some k) (h3 : as[k]? = some (.ok ks ds)) (q : aComp ag at' e (wipeA (ρ.set i (some (.ob C dx ns ws (as.set k .un)))) vs) (fun _ => False) (ks.map kD) [] (fun acc => O (.ol acc))) : aLcD i C f ag at' e vs ρ O X := w_obfQ h1 h2 h3 q
theorem w_dPutF (q : e ρ (fun d => obfQ ρ i C f fun dx ns ws as n av => okQ (fun ks ds => a ρ (fun y => someQ (fun kk => ks.length < 1000000 ∧ ks.Nodup ∧ nx (ρ.set i (some (.ob C dx ns ws (as.set n (.ok (dputK ks kk) (dputD ks ds kk d))))))) (keyD y)) (fun x => ex x ρ)) av) (fun x => ex x ρ)) : aDPutF i C f a e ⟨nx, rt, bk, ct, ex⟩ ρ := q
theorem w_okQ {P : List Key → List D → Prop} (q : P ks ds) : okQ P (.ok ks ds) := q
theorem w_mk00 {A : AFM} (q : mkQ C A O (fun _ => False) []) : aMk00 C A ρ O X := q
end
section
variable {ρ : Env} {O : AV → Env → Prop} {X : Exn → Env → Prop} {C dx : Addr} {m : Str} {A : AFM} {i n mm : Nat} {r : AA} {ra rk : AL} {arr : List KA} {ns : List Str} {ws : List V} {as : List AV}
theorem w_obQ {P : Addr → List Str → List V → List AV → Prop} (h1 : ρ[i]? = some (some (.ob C dx ns ws as))) (q : P dx ns ws as) : obQ ρ i C P := by
  unfold obQ
  rw [h1]
  exact ⟨rfl, q⟩
theorem m_me (h1 : ρ[i]? = some (some (.ob C dx ns ws as))) (h2 : ns.contains m = false) (q : r ρ (fun as => callM A ρ O X (.slot i :: as)) (fun x => X x ρ)) : mMe C m A i r ρ O X := w_obQ h1 ⟨h2, q⟩
theorem m_me0 (h1 : ρ[i]? = some (some (.ob C dx ns ws as))) (h2 : ns.contains m = false) (q : r ρ (fun as => callM A ρ O (fun _ _ => False) (.slot i :: as)) (fun x => X x ρ)) : mMe0 C m A i r ρ O X := w_obQ h1 ⟨h2, q⟩
theorem m_meN0 (h1 : ρ[i]? = some (some (.ob C dx ns ws as))) (h2 : ns.contains m = false) (q : ra ρ (fun ds => rk ρ (fun es => ds.length = n ∧ es.length = mm ∧ arr.all (kaOk mm) = true ∧ callM A ρ O (fun _ _ => False) (.slot i :: (ds.map .val ++ arr.map fun a => .val (kaD es a)))) (fun x => X x ρ)) (fun x => X x ρ)) : mMeN0 C m n mm A arr i ra rk ρ O X := w_obQ h1 ⟨h2, q⟩
end
end SW
namespace SW
open PySem PySem.Spec PyProof.Rows L2 SWS
end SW
namespace SW
open PySem PySem.Spec PyProof.Rows L2 SWS
variable [QN]
def rLenOwn (C : Addr) (sp : Sp) (E : XK) : List V → Hp → VK → Prop := fun vs H Q => ∃ a dx fs, vs = [.ref a] ∧ H a = some (.ins C dx fs) ∧ sp [.ref a] H (fun v H' => ∃ n : Int, v = .int n ∧ (0 ≤ n ∧ n < 2 ^ 63) ∧ Q (.int n) H') E
section
variable {X : Cx} {CX : CXT} {k : Nat} {C f : Addr} {fd : FuncData} {ps : List Str} {sp : Sp} {E : XK}
theorem cr_lenOwn (F : FnOk X.prog X.w X.K X.mg X.base CX k f fd ps sp) (hr : Room (k + 1) X.A) (hm : Meth X.K C "__len__" f) (hb : Binds X.K fd ps []) (hx : Passes CX X E) : CallR X (.builtin "len") (rLenOwn C sp E) := by
  intro pins s σ H vs us Q I r h
  obtain ⟨a, dx, fs, rfl, ha, hsp⟩ := h
  rw [Vals.ref1 r]
  obtain ⟨mA, J, _⟩ := ins_get I.hok ha
  obtain ⟨od, J, _⟩ := J.look
  obtain ⟨m, hF⟩ := I.fr
  refine PySem.W.len_K hF I.ok.mod.kin J hm.at_ hm.fn ?_
  have hl := F.len _ _ _ _ hsp
  have e0 : Env0 X.prog X.w X.K X.mg X.base X.A.in1 X.stack s H := by
    have e := I.env0
    exact ⟨e.frames, e.mod, e.bs, e.bsz, e.funs, e.frf, e.hok, e.bare⟩
  refine wpAny_call (codeAny_mono (F.run X.A.in1 X.stack s H ⟨[.ref a], []⟩ [.ref a] [.ref a] _ E hr.in1 e0 (by
    have := hb s [.ref a] I.kIn (by simpa using hl)
    simpa using this) (.cons rfl .nil) hsp) fun r s' hq => ?_)
  cases r with
  | error e => exact hx pins σ H s e s' I hq
  | ok fl =>
    cases fl with
    | ret w =>
      obtain ⟨z, H', I', rz, n, rfl, hn, q⟩ := I.after hq
      obtain ⟨t, rfl⟩ := rz
      exact ⟨hn, .int n, H', I'.tok _, ⟨_, rfl⟩, q⟩
    | next => exact False.elim hq
    | brk => exact False.elim hq
    | cont => exact False.elim hq
end
section
variable {c : DC} {U H : Hp} {σ : L2.St} {ρ : Env}
def lenQ (Q : D → Env → Prop) : AV → Env → Prop
  | .fz (.int n), ρ => (0 ≤ n ∧ n < 2 ^ 63) ∧ Q (.int n) ρ
  | _, _ => False
def mLenOwn (C : Addr) (A : AFM) (i : Nat) : AM := fun ρ Q _ => obQ ρ i C fun _ _ _ _ => callM A ρ (lenQ Q) (fun _ _ => False) [.slot i]
/-- len(d) -/
def oLenD : List D → (D → Prop) → Prop := fun ds Q => oneQ (dKQ fun ks _ => Q (.int ks.length)) ds
end
end SW
namespace SW
open PySem PySem.Spec PyProof.Rows L2 SWS
variable [QN]
abbrev AMT := Env → (Bool → Env → Prop) → (Exn → Env → Prop) → Prop
section
variable {c : DC} {t u : TT} {ta tb te : TE} {m m1 : AM} {a b : AE} {e e1 e2 : AMT} {st su : TS} {sa sb : AS}
def mT (e : AT) : AMT := fun ρ Q X => e ρ (fun b => Q b ρ) (fun x => X x ρ)
def mTest (m : AM) : AMT := fun ρ Q X => m ρ (fun d ρ1 => blQ (fun b => Q b ρ1) d) X
def mNot (e : AMT) : AMT := fun ρ Q X => e ρ (fun b ρ1 => Q (!b) ρ1) X
def mOr (e1 e2 : AMT) : AMT := fun ρ Q X => e1 ρ (fun b ρ1 => cond b (Q true ρ1) (e2 ρ1 Q X)) X
def mAnd (e1 e2 : AMT) : AMT := fun ρ Q X => e1 ρ (fun b ρ1 => cond b (e2 ρ1 Q X) (Q false ρ1)) X
def mIf (e : AMT) (sa sb : AS) : AS := fun N ρ => e ρ (fun b ρ1 => cond b (sa N ρ1) (sb N ρ1)) N.ex
/-- an operator whose left side changes slots -/
def mOpL (f : D → D → (D → Prop) → Prop) (m : AM) (b : AE) : AM := fun ρ Q X => m ρ (fun d ρ1 => b ρ1 (fun e => f d e (fun y => Q y ρ1)) (fun x => X x ρ1)) X
end
section
variable {ρ : Env} {Q : D → Env → Prop} {QT : Bool → Env → Prop} {O : AV → Env → Prop} {X : Exn → Env → Prop} {nx bk ct : Env → Prop} {rt : AV → Env → Prop} {ex : Exn → Env → Prop} {m : AM} {a b : AE} {e e1 e2 : AMT} {sa sb : AS} {C dx : Addr} {ns : List Str} {ws : List V} {as : List AV} {i : Nat} {A : AFM}
theorem m_ifM (q : e ρ (fun x ρ1 => cond x (sa ⟨nx, rt, bk, ct, ex⟩ ρ1) (sb ⟨nx, rt, bk, ct, ex⟩ ρ1)) ex) : mIf e sa sb ⟨nx, rt, bk, ct, ex⟩ ρ := q
theorem m_T {t : AT} (q : t ρ (fun x => QT x ρ) (fun x => X x ρ)) : mT t ρ QT X := q
theorem m_test (q : m ρ (fun d ρ1 => blQ (fun x => QT x ρ1) d) X) : mTest m ρ QT X := q
theorem m_not (q : e ρ (fun x ρ1 => QT (!x) ρ1) X) : mNot e ρ QT X := q
theorem m_or (q : e1 ρ (fun x ρ1 => cond x (QT true ρ1) (e2 ρ1 QT X)) X) : mOr e1 e2 ρ QT X := q
theorem m_and (q : e1 ρ (fun x ρ1 => cond x (e2 ρ1 QT X) (QT false ρ1)) X) : mAnd e1 e2 ρ QT X := q
theorem m_opL {f : D → D → (D → Prop) → Prop} (q : m ρ (fun d ρ1 => b ρ1 (fun y => f d y (fun z => Q z ρ1)) (fun x => X x ρ1)) X) : mOpL f m b ρ Q X := q
theorem m_lenOwn (h1 : ρ[i]? = some (some (.ob C dx ns ws as))) (q : callM A ρ (lenQ Q) (fun _ _ => False) [.slot i]) : mLenOwn C A i ρ Q X := w_obQ h1 q
theorem m_meD0 {mn : Str} {ns0 : List Int} {r : AL} (h1 : ρ[i]? = some (some (.ob C dx ns ws as))) (h2 : ns.contains mn = false) (q : r ρ (fun ds => callM A ρ O (fun _ _ => False) (.slot i :: (ds.map .val ++ ns0.map fun a => .val (.int a)))) (fun x => X x ρ)) : mMeD0 C mn A ns0 i r ρ O X := w_obQ h1 ⟨h2, q⟩
theorem w_tupE {XE : Exn → Prop} {QE : D → Prop} (q : a ρ (tupQ fun ds => QE (.tup ds)) XE) : aTupE a ρ QE XE := q
theorem w_lenD {ks : List Key} {ds : List D} {QE : D → Prop} (q : QE (.int ks.length)) : oLenD [.dK ks ds] QE := q
end
end SW
namespace SW
open PySem PySem.Spec PyProof.Rows L2 SWS
variable [QN]
open Sem (wp)
open AutoSeq1 (wpAny_loadPart')
section
variable {c : DC} {U H : Hp} {σ : L2.St} {ρ : Env}
def aEnumT (r : AL) : AL := fun ρ Q X => r ρ (oneQ (tupQ fun xs => Q (enumD xs))) X
def rngC (lo st : Int) (n : Nat) : List D := (List.range n).map fun i => .int (lo + (i : Nat) * st)
def threeQ (Q : D → D → D → Prop) : List D → Prop
  | [a, b, e] => Q a b e
  | _ => False
/-- range(i, j, k), n items -/
def aRng3 (r : AL) : AL := fun ρ Q X => r ρ (threeQ fun a b e => intQ (fun i => intQ (fun j => intQ (fun k => ∃ n : Nat, RgC i j k n ∧ Q (rngC i k n)) e) b) a) X
/-- an operator whose right side changes slots -/
def mOpRO (f : D → D → (AV → Prop) → Prop) (a : AE) (m : AM) : AMO := fun ρ Q X => a ρ (fun d => m ρ (fun e ρ1 => f d e (fun y => Q y ρ1)) X) (fun x => X x ρ)
end
section
variable {ρ : Env} {Q : D → Env → Prop} {L : List D → Prop} {O : AV → Env → Prop} {X : Exn → Env → Prop} {XE : Exn → Prop} {m : AM} {a : AE} {r : AL}
theorem w_enumT (q : r ρ (oneQ (tupQ fun xs => L (enumD xs))) XE) : aEnumT r ρ L XE := q
theorem w_rng3 (q : r ρ (threeQ fun a b e => intQ (fun i => intQ (fun j => intQ (fun k => ∃ n : Nat, RgC i j k n ∧ L (rngC i k n)) e) b) a) XE) : aRng3 r ρ L XE := q
theorem w_threeQ {P : D → D → D → Prop} {d1 d2 d3 : D} (q : P d1 d2 d3) : threeQ P [d1, d2, d3] := q
theorem w_fltB {QE : D → Prop} {x : Bool} (q : QE (.bl x)) : fltQ QE (.fz (.bl x)) := ⟨rfl, q⟩
theorem m_opRO {f : D → D → (AV → Prop) → Prop} (q : a ρ (fun d => m ρ (fun e ρ1 => f d e (fun y => O y ρ1)) X) (fun x => X x ρ)) : mOpRO f a m ρ O X := q
end
end SW
namespace SW
open PySem PySem.Spec PyProof.Rows L2
variable [QN]
def leD (d e : D) : Bool := PySem.W.dataLe false toPy d e
def leP {α : Type} (a b : α × D) : Bool := PySem.W.dataLe false (fun x : α × D => toPy x.2) a b
def alikeD (ds : List D) : Bool := ds.all fun d => ds.all fun e => PySem.W.alike (toPy d) (toPy e)
def tupNE : D → Bool
  | .tup (_ :: _) => true
  | _ => false
def noTup : D → Bool
  | .int _ => true
  | .bl _ => true
  | .str _ => true
  | .lst _ => true
  | _ => false
def sortableD (ds : List D) : Bool := ds.all tupNE || ds.all noTup
theorem alikeD_all {ds : List D} (h : alikeD ds = true) {α : Type} {l : List (α × D)} (hl : ∀ x ∈ l, x.2 ∈ ds) : PySem.W.AllAlike (l.map fun x => toPy x.2) := fun d hd e he => by
  obtain ⟨x, hx, rfl⟩ := List.mem_map.mp hd
  obtain ⟨y, hy, rfl⟩ := List.mem_map.mp he
  exact List.all_eq_true.mp (List.all_eq_true.mp h _ (hl x hx)) _ (hl y hy)
theorem sortable_all {ds : List D} (h : sortableD ds = true) {α : Type} {l : List (α × D)} (hl : ∀ x ∈ l, x.2 ∈ ds) : PySem.W.Sortable (l.map fun x => toPy x.2) := by
  rcases Bool.or_eq_true _ _ |>.mp h with h | h
  · refine .inl fun d hd => ?_
    obtain ⟨x, hx, rfl⟩ := List.mem_map.mp hd
    have := List.all_eq_true.mp h _ (hl x hx)
    unfold tupNE at this
    split at this
    · rename_i d r e
      rw [e]
      exact ⟨toPy d, toPys r, rfl⟩
    · cases this
  · refine .inr fun d hd => ?_
    obtain ⟨x, hx, rfl⟩ := List.mem_map.mp hd
    have := List.all_eq_true.mp h _ (hl x hx)
    unfold noTup at this
    split at this
    · rename_i e; rw [e]; exact ⟨(fun z => by cases z), (fun xs z => by cases z)⟩
    · rename_i e; rw [e]; exact ⟨(fun z => by cases z), (fun xs z => by cases z)⟩
    · rename_i e; rw [e]; exact ⟨(fun z => by cases z), (fun xs z => by cases z)⟩
    · rename_i e; rw [e]; exact ⟨(fun z => by cases z), (fun xs z => by cases z)⟩
    · cases this
theorem okDs_depth {n : Nat} : ∀ {ds : List D}, okDs n ds = true → ∀ d ∈ ds, (toPy d).depth ≤ n
  | d :: ds, h, e, he => by
    unfold okDs at h
    rw [Bool.and_eq_true] at h
    rcases List.mem_cons.mp he with rfl | he
    · exact (okD_lay n _ h.1).2
    · exact okDs_depth h.2 e he
theorem dps_each {X : Cx} {pins : List (Addr × Obj)} {σ : L2.St} {H : Hp} {s : Shared} (I : Inv X pins σ H s) : ∀ {xs : List V} {ds : List D} {us : List Value}, DpAll X.K H xs (toPys ds) → Vals xs us → PySem.W.EachIs (fun (v : Value) (b : V × D) => ∃ as, Reads s.heap v (toPy b.2) as) us (xs.zip ds)
  | [], [], _, _, .nil => .nil
  | [], d :: ds, _, h, _ => by cases h
  | x :: xs, [], _, h, _ => by cases h
  | x :: xs, d :: ds, _, .cons h t, .cons r q => .cons (Dp.reads I _ _ _ h r) (dps_each I t q)
theorem rel_each : ∀ {xs : List V} {ds : List D} {us : List Value}, xs.length = ds.length → Vals xs us → PySem.W.EachIs (fun (v : Value) (b : V × D) => RelV b.1 v) us (xs.zip ds)
  | [], [], _, _, .nil => .nil
  | [], d :: ds, _, h, _ => by cases h
  | x :: xs, [], _, h, _ => by cases h
  | x :: xs, d :: ds, _, h, .cons r q => .cons r (rel_each (Nat.succ.inj h) q)
theorem each_vals : ∀ {l : List (V × D)} {us : List Value}, PySem.W.EachIs (fun (v : Value) (b : V × D) => RelV b.1 v) us l → Vals (l.map (·.1)) us
  | _, _, .nil => .nil
  | _, _, .cons h t => .cons h (each_vals t)
def rSortA (K : PySem.W.Frag) : List V → Hp → VK → Prop := fun vs H Q => ∃ (a : Addr) (xs : List V) (ds : List D), vs = [V.ref a] ∧ SqL K H a xs ∧ DpAll K H xs (toPys ds) ∧ xs.length = ds.length ∧ okDs 8 ds = true ∧ alikeD ds = true ∧ sortableD ds = true ∧
  ∀ p, H p = none → Q (.ref p) (upd H p (.lst (((xs.zip ds).mergeSort leP).map (·.1))))
theorem cr_sortA {X : Cx} {K : PySem.W.Frag} (hK : X.K = K) (hu : X.A.units + 65 < cLine) : CallR X (.builtin "sorted") (rSortA K) := by
  subst hK
  intro pins s σ H vs us Q I r h
  obtain ⟨a, xs, ds, rfl, hs, hd, hl, ok, al, so, q⟩ := h
  rw [Vals.ref1 r]
  obtain ⟨its, rv, hL, hz⟩ := I.list hs
  have mem2 : ∀ x ∈ xs.zip ds, x.2 ∈ ds := fun x hx => (List.of_mem_zip hx).2
  have lz : (xs.zip ds).length = xs.length := by rw [List.length_zip, hl, Nat.min_self]
  refine PySem.W.sorted_data (enc := fun x : V × D => toPy x.2) (R := fun v b => RelV b.1 v) (bs := xs.zip ds) hL.isList (rel_each hl rv) (dps_each I hd rv) (alikeD_all al mem2) (sortable_all so mem2) (by rw [lz]; exact hz) (fun b hb => ?_) fun out lo eo => ?_
  · have := okDs_depth ok b.2 (mem2 b hb)
    omega
  · obtain ⟨ep, he'⟩ := PyProof.Rows.sortedAll_at s.heap its (List.toArray out)
    have ev := each_vals eo
    have hlen : (((xs.zip ds).mergeSort leP).map (·.1)).length ≤ sizeLine := by
      rw [List.length_map, List.length_mergeSort, lz]
      exact hz
    exact ⟨.ref _, upd H (s.heap.objs.size + 1) (.lst (((xs.zip ds).mergeSort leP).map (·.1))), I.laid (t' := s.toks) (fun _ _ => PyProof.Rows.sortedAll_old) (Nat.le_succ _) ⟨hlen, out, ep, ev, he'⟩, rfl, q _ (I.hok.fresh (Nat.le_succ _))⟩
theorem zip_snd {α : Type} : ∀ {xs : List α} {ds : List D}, xs.length = ds.length → (xs.zip ds).map (·.2) = ds
  | [], [], _ => rfl
  | [], d :: ds, h => by cases h
  | x :: xs, [], h => by cases h
  | x :: xs, d :: ds, h => by rw [List.zip_cons_cons, List.map_cons, zip_snd (Nat.succ.inj h)]
theorem sort_snd {xs : List V} {ds : List D} (h : xs.length = ds.length) : ((xs.zip ds).mergeSort leP).map (·.2) = ds.mergeSort leD := by
  rw [PySem.W.sort_maps (r := leP) (s := leD) (fun x : V × D => x.2) (fun a _ b _ => rfl), zip_snd h]
theorem rs_zip {K : PySem.W.Frag} {U : Hp} : ∀ {l : List (V × D)}, (∀ x ∈ l, R K U x.2 x.1) → Rs K U (l.map (·.2)) (l.map (·.1))
  | [], _ => rfl
  | x :: l, h => ⟨x.1, l.map (·.1), rfl, h x List.mem_cons_self, rs_zip fun y hy => h y (List.mem_cons_of_mem _ hy)⟩
theorem rs_mem {K : PySem.W.Frag} {U : Hp} : ∀ {ds : List D} {xs : List V}, Rs K U ds xs → ∀ x ∈ xs.zip ds, R K U x.2 x.1
  | [], _, h, x, hx => by rw [show _ = [] from h] at hx; cases hx
  | d :: ds, _, ⟨v, r, e, h1, h2⟩, x, hx => by
    subst e
    rcases List.mem_cons.mp hx with rfl | hx
    · exact h1
    · exact rs_mem h2 x hx
theorem rs_sort {K : PySem.W.Frag} {U : Hp} {ds : List D} {xs : List V} (h : Rs K U ds xs) : Rs K U (ds.mergeSort leD) (((xs.zip ds).mergeSort leP).map (·.1)) := by
  rw [← sort_snd h.len.symm]
  exact rs_zip fun x hx => rs_mem h x (List.mem_mergeSort.mp hx)
def oSortA : List D → (AV → Prop) → Prop := fun ds Q => oneQ (lstQ fun xs => okDs 8 xs = true ∧ alikeD xs = true ∧ sortableD xs = true ∧ Q (.ol (xs.mergeSort leD))) ds
theorem bu_sortA {K : PySem.W.Frag} : BuO K (rSortA K) oSortA := fun U H vs ds Q q s r z k => by
  obtain ⟨e, rfl, z⟩ := oneQ_of z
  obtain ⟨xs, rfl, h1, h2, h3, z⟩ := lstQ_of z
  obtain ⟨w, rfl, ce⟩ := paired1 r
  obtain ⟨a, ys, rfl, hs, hr⟩ := ce.lst s
  refine ⟨a, ys, xs, rfl, SqL.of hs, okDs_dp s 8 xs ys h1 hr, hr.len.symm, h1, h2, h3, fun p np => ?_⟩
  exact own_new s np (rs_sort hr) z k
theorem w_sortA {xs : List D} {O : AV → Prop} (h1 : okDs 8 xs = true) (h2 : alikeD xs = true) (h3 : sortableD xs = true) (q : O (.ol (xs.mergeSort leD))) : oSortA [.lst xs] O := ⟨h1, h2, h3, q⟩
end SW
namespace SW
open PySem PySem.Spec PyProof.Rows L2
variable [QN]
section
variable {X : Cx} {pins : List (Addr × Obj)} {σ : L2.St} {H : Hp} {s : Shared}
/-- tables grow, all else stands -/
structure Grown (H H' : Hp) : Prop where
  keep : ∀ b o, H b = some o → (∀ ps, o ≠ .tbl ps) → H' b = some o
  tab : ∀ P, LamX.TabS H P (QN.qn P) → LamX.TabS H' P (QN.qn P)
  dom : ∀ b, H b ≠ none → H' b ≠ none
theorem Grown.refl (H : Hp) : Grown H H := ⟨fun _ _ h _ => h, fun _ h => h, fun _ h => h⟩
end
def leK {α : Type} (a b : α × Str) : Bool := PySem.W.dataLe false (fun x : α × Str => PyData.str x.2) a b
end SW
namespace SWS
open PySem PySem.Spec PyProof.Rows L2
/-- every st-th item -/
def pickS {α : Type} (xs : List α) (lo hi : Option Int) (st : Int) : List α :=
  (List.range (Builtin.Slice.slicePlaces (Builtin.Slice.sliceAdjust lo hi st (xs.length : Nat)).1 (Builtin.Slice.sliceAdjust lo hi st (xs.length : Nat)).2 st)).filterMap fun k : Nat => xs[((Builtin.Slice.sliceAdjust lo hi st (xs.length : Nat)).1 + (k : Int) * st).toNat]?
end SWS
namespace SW
open PySem PySem.Spec PyProof.Rows L2 SWS
variable [QN]
section
variable {c : DC} {te : TE} {e : AE} {tl th : TO} {l h : AP}
def aSlT (st : Int) (a : AE) (lo hi : AP) : AE := fun ρ Q X => a ρ (tupQ fun ds => lo ρ (fun l => hi ρ (fun h => (pickS ds l h st).length ≤ 1000000 ∧ Q (.tup (pickS ds l h st))) X) X) X
def keyOf1 (C : Addr) (f : Str) : D → Option Str
  | .obj C' ns ds => if C' = C then (match lookD f ns ds with | some (.str k) => some k | _ => none) else none
  | _ => none
def keysOf (C : Addr) (f : Str) : List D → Option (List Str)
  | [] => some []
  | d :: ds => match keyOf1 C f d, keysOf C f ds with
    | some k, some ks => some (k :: ks)
    | _, _ => none
def sortK {α : Type} (ds : List α) (ks : List Str) : List α := ((ds.zip ks).mergeSort leK).map (·.1)
def aSortK (C : Addr) (f : Str) (a : AE) : AO := fun ρ Q X => a ρ (lstQ fun ds => someQ (fun ks => Q (.ol (sortK ds ks))) (keysOf C f ds)) X
theorem w_stT {ρ : Env} {Q : D → Prop} {X : Exn → Prop} {st : Int} (q : e ρ (tupQ fun ds => l ρ (fun lo => h ρ (fun hi => (pickS ds lo hi st).length ≤ 1000000 ∧ Q (.tup (pickS ds lo hi st))) X) X) X) : aSlT st e l h ρ Q X := q
theorem w_sortK {ρ : Env} {Q : AV → Prop} {X : Exn → Prop} {C : Addr} {f : Str} (q : e ρ (lstQ fun ds => someQ (fun ks => Q (.ol (sortK ds ks))) (keysOf C f ds)) X) : aSortK C f e ρ Q X := q
end
end SW
namespace SWS
open PySem PySem.Spec PyProof.Rows L2
end SWS
namespace SW
open PySem PySem.Spec PyProof.Rows L2 SWS
variable [QN]
def okR (Rm : Shared → Prop) : Result → Shared → Prop := fun r s => match r with
  | .ok _ => Rm s
  | .error _ => False
end SW
namespace SW
open PySem PySem.Spec PyProof.Rows L2 SWS
variable [QN]
structure CA where
  it : AL
  g : AG
  tt : AT
  vs : List Nat
def aWk (f : D → List D → (List D → Prop) → Prop) : List D → List D → (List D → Prop) → Prop
  | [], acc, K => K acc
  | d :: ds, acc, K => f d acc fun acc' => aWk f ds acc' K
def aCl (e : AE) : List CA → Env → (Exn → Prop) → List D → (List D → Prop) → Prop
  | [], ρ, X, acc, K => e ρ (fun d => acc.length < 1000000 ∧ K (acc ++ [d])) X
  | a :: r, ρ, X, acc, K => a.it ρ (fun ds => aWk (fun d acc K => a.g d (wipeA ρ a.vs) fun ρ2 => a.tt ρ2 (fun b => cond b (aCl e r ρ2 X acc K) (K acc)) X) ds acc K) X
def aLcN (cs : List CA) (e : AE) : AO := fun ρ Q X => aCl e cs ρ X [] fun acc => Q (.ol acc)
section
variable {c : DC} {U H U' H' : Hp} {σ : L2.St} {ρ : Env} {te : TE} {e : AE}
theorem drs_dr {K : PySem.W.Frag} : ∀ {ρ : Env} {σ : L2.St}, Paired (RepS K U H) ρ σ → ∀ p ∈ drs ρ σ, Dr U H p
  | _, _, .nil, p, hp => by simp [drs] at hp
  | a :: ρ, b :: σ, .cons h t, p, hp => by
    have hp' : p ∈ drS a b ++ drs ρ σ := hp
    rcases List.mem_append.mp hp' with z | z
    · unfold drS at z
      split at z
      · obtain ⟨s, e1, e2⟩ := h
        have e' := V.ref.inj e1
        subst e'
        rw [List.mem_singleton.mp z]
        exact e2
      · cases z
    · exact drs_dr t p z
theorem w_lcN {O : AV → Prop} {X : Exn → Prop} {cs : List CA} (q : aCl e cs ρ X [] fun acc => O (.ol acc)) : aLcN cs e ρ O X := q
end
end SW
namespace SW
open PySem PySem.Spec PyProof.Rows L2 SWS
variable [QN]
section
variable {c : DC} {U H U' H' : Hp} {σ : L2.St} {ρ : Env} {tr tk : TA} {r rk : AL}
def aCallN (n m : Nat) (A : AF) (arr : List KA) (r rk : AL) : AO := fun ρ Q X => r ρ (fun ds => rk ρ (fun es => ds.length = n ∧ es.length = m ∧ arr.all (kaOk m) = true ∧ A ((ds ++ arr.map (kaD es)).map .fz) Q X) X) X
def aCallN0 (n m : Nat) (A : AF) (arr : List KA) (r rk : AL) : AO := fun ρ Q X => r ρ (fun ds => rk ρ (fun es => ds.length = n ∧ es.length = m ∧ arr.all (kaOk m) = true ∧ A ((ds ++ arr.map (kaD es)).map .fz) Q fun _ => False) X) X
/-- the keywords left out: the defaults' values behind -/
def aCallD (A : AF) (dd : List D) (r : AL) : AO := fun ρ Q X => r ρ (fun ds => A ((ds ++ dd).map .fz) Q X) X
def aCallD0 (A : AF) (dd : List D) (r : AL) : AO := fun ρ Q X => r ρ (fun ds => A ((ds ++ dd).map .fz) Q fun _ => False) X
variable {O : AV → Prop} {XE : Exn → Prop} {A : AF} {n m : Nat} {arr : List KA} {dd : List D}
theorem w_callN0 (q : r ρ (fun ds => rk ρ (fun es => ds.length = n ∧ es.length = m ∧ arr.all (kaOk m) = true ∧ A ((ds ++ arr.map (kaD es)).map .fz) O fun _ => False) XE) XE) : aCallN0 n m A arr r rk ρ O XE := q
theorem w_callN (q : r ρ (fun ds => rk ρ (fun es => ds.length = n ∧ es.length = m ∧ arr.all (kaOk m) = true ∧ A ((ds ++ arr.map (kaD es)).map .fz) O XE) XE) XE) : aCallN n m A arr r rk ρ O XE := q
theorem w_callD0 (q : r ρ (fun ds => A ((ds ++ dd).map .fz) O fun _ => False) XE) : aCallD0 A dd r ρ O XE := q
theorem w_callD (q : r ρ (fun ds => A ((ds ++ dd).map .fz) O XE) XE) : aCallD A dd r ρ O XE := q
end
end SW
namespace SW
open PySem PySem.Spec PyProof.Rows L2 LamX
def qnc (s : Str) : QN := ⟨fun _ => s⟩
end SW
namespace SW
open PySem PySem.Spec PyProof.Rows L2 SWS
variable [QN]
inductive KB where
  | kw (i : Nat) | df (d : D) (v : V)
def kbD (es : List D) : KB → D
  | .kw i => es.getD i .non
  | .df d _ => d
def kbOk (m : Nat) : KB → Bool
  | .kw i => decide (i < m)
  | .df _ _ => true
section
variable {c : DC} {U H U' H' : Hp} {σ : L2.St} {ρ : Env} {tr tk : TA} {r rk : AL}
def aCallV (n m : Nat) (A : AF) (arr : List KB) (r rk : AL) : AO := fun ρ Q X => r ρ (fun ds => rk ρ (fun es => ds.length = n ∧ es.length = m ∧ arr.all (kbOk m) = true ∧ A ((ds ++ arr.map (kbD es)).map .fz) Q X) X) X
def aCallV0 (n m : Nat) (A : AF) (arr : List KB) (r rk : AL) : AO := fun ρ Q X => r ρ (fun ds => rk ρ (fun es => ds.length = n ∧ es.length = m ∧ arr.all (kbOk m) = true ∧ A ((ds ++ arr.map (kbD es)).map .fz) Q fun _ => False) X) X
variable {O : AV → Prop} {XE : Exn → Prop} {A : AF} {n m : Nat} {arr : List KB}
theorem w_callV0 (q : r ρ (fun ds => rk ρ (fun es => ds.length = n ∧ es.length = m ∧ arr.all (kbOk m) = true ∧ A ((ds ++ arr.map (kbD es)).map .fz) O fun _ => False) XE) XE) : aCallV0 n m A arr r rk ρ O XE := q
theorem w_callV (q : r ρ (fun ds => rk ρ (fun es => ds.length = n ∧ es.length = m ∧ arr.all (kbOk m) = true ∧ A ((ds ++ arr.map (kbD es)).map .fz) O XE) XE) XE) : aCallV n m A arr r rk ρ O XE := q
end
end SW
namespace SW
open PySem PySem.Spec PyProof.Rows L2 SWS
variable [QN]
abbrev Hnd := Value × Option Nat × (Addr → Value → Option Addr → TS)
def endsI : Option Nat → L2.Ends → L2.Ends
  | none, D => D
  | some i, D => { nx := fun s1 h1 => D.nx (s1.set i none) h1, rt := D.rt, bk := fun s1 h1 => D.bk (s1.set i none) h1, ct := fun s1 h1 => D.ct (s1.set i none) h1 }
def setI : Option Nat → Addr → L2.St → L2.St
  | none, _, s1 => s1
  | some i, a, s1 => s1.set i (some (.ref a))
def wHs (K : PySem.W.Frag) (Wo : WX) (D : L2.Ends) : List Hnd → WX
  | [] => Wo
  | h :: r => fun cls d s1 h1 => ∃ b, PySem.W.exmOne K cls h.1 = some b ∧ (b = true → ∀ a, h1 a = none → h.2.2 a cls d (endsI h.2.1 D) (setI h.2.1 a s1) h1) ∧ (b = false → wHs K Wo D r cls d s1 h1)
inductive HndsOk (X : Cx) : List ExceptHandler → List Hnd → Prop
  | nil : HndsOk X [] []
  | only {x : Str} {c : Value} {ts : Addr → Value → Option Addr → TS} {b0 : Stmt} {su : List Stmt} {np p1 : Pos} {hs : List ExceptHandler} {l : List Hnd} (hc : Names X x c)
      (run : ∀ (a : Addr) (oe : Obj) (cls : Value) (d : Option Addr) (pn : List (Addr × Obj)), Zc cls d oe → (∃ vs, oe.data = .fields vs) → PSs (X.suite a ((a, oe) :: pn)) (b0 :: su) (ts a cls d)) (rest : HndsOk X hs l) :
      HndsOk X (.ExceptHandler (some (.Name x np)) none (b0 :: su) p1 :: hs) ((c, none, ts) :: l)
  | named {x n : Str} {c : Value} {i : Nat} {ts : Addr → Value → Option Addr → TS} {b0 : Stmt} {su : List Stmt} {np p1 : Pos} {hs : List ExceptHandler} {l : List Hnd} (hc : Names X x c) (hi : X.N[i]? = some n) (hln : X.env.kindOf n = some .local)
      (run : ∀ (a : Addr) (oe : Obj) (cls : Value) (d : Option Addr) (pn : List (Addr × Obj)), Zc cls d oe → (∃ vs, oe.data = .fields vs) → PSs (X.suite a ((a, oe) :: pn)) (b0 :: su) (ts a cls d)) (rest : HndsOk X hs l) :
      HndsOk X (.ExceptHandler (some (.Name x np)) (some n) (b0 :: su) p1 :: hs) ((c, some i, ts) :: l)
section
variable {X : Cx} {body : List Stmt} {hd0 : ExceptHandler} {hds : List ExceptHandler} {l : List Hnd} {pos : Pos} {tb : WX → TS} {Wo : WX}
/-- a try as it is read: told by name, so that what stands in it is found again -/
def tTryHs (K : PySem.W.Frag) (tb : WX → TS) (Wo : WX) (l : List Hnd) : TS := fun D s1 h1 => tb (wHs K Wo D l) D s1 h1
theorem ps_try_hs (stk : X.stack = X.env :: X.outer) (fr : X.env.frame = some X.env.locals) (nd : X.N.Nodup) (out : Takes X Wo)
    (hb : ∀ (W : WX) (pn : List (Addr × Obj)) (xe : Value → Shared → Prop), Takes (X.tr pn xe) W → PassesOwn (model X.prog X.w) X.A X.env xe → PSs (X.tr pn xe) body (tb W))
    (hh : HndsOk X (hd0 :: hds) l) : PS X (.Try body (hd0 :: hds) [] [] pos) (tTryHs X.K tb Wo l) := by
  constructor
  intro pp s σ0 G0 D I given
  have okx := I.ok
  have frames : X.A.frames = some (X.env :: X.outer) := by rw [okx.frames, stk]
  apply wpAny_Try_except
  have run := hb (wHs X.K Wo D l) (X.pn ++ pp) (fun e t1 => wpAny (model X.prog X.w) X.A (noteFrame e X.env) (fun _ t2 => wpAny (model X.prog X.w) X.A (setFlight e none) (fun _ t3 =>
    wpAny (model X.prog X.w) X.A (handleBy e X.env (hd0 :: hds)) (SP X pp D) X.xe t3) X.xe t2) X.xe t1) (fun u t0 air => ?_) PassesOwn.looking
  · refine wpAny_mono (run.run [] s σ0 G0 D (I.toTry _) given) (fun fl t1 done => ?_) (fun _ _ z => z)
    cases fl with
    | next =>
      obtain ⟨sl, G, J, z⟩ := done
      exact wpAny_execs_nil ⟨sl, G, J.ofTry okx, z⟩
    | brk =>
      obtain ⟨sl, G, J, z⟩ := done
      exact ⟨sl, G, J.ofTry okx, z⟩
    | cont =>
      obtain ⟨sl, G, J, z⟩ := done
      exact ⟨sl, G, J.ofTry okx, z⟩
    | ret u =>
      obtain ⟨v, sl, G, J, rv, z⟩ := done
      exact ⟨v, sl, G, J.ofTry okx, rv, z⟩
  · obtain ⟨a, gr, si, pq, sl, G, cls, d, rfl, Jt, nb, up, sky, na, os, ag, wish⟩ := air
    have J : Inv X pp sl G si := Jt.ofTry okx
    have skyX : Sky gr (X.env :: X.outer) a (Zc cls d) X.env.locals t0.heap := by rw [← stk]; exact sky
    show wpAny (model X.prog X.w) X.A (noteFrame (.ref a) X.env) _ _ _
    refine Sky.land Zc.steady frames fr skyX fun g3 land3 u3 => ?_
    have J3 : Inv X pp sl G { t0 with heap := g3 } := J.landed nb land3.1 (up.trans u3) os ag
    obtain ⟨oe3, vs3, at3, zc3, dat3⟩ := land3.there
    have far : a ∉ frs (X.env :: X.outer) := fun hm => by
      obtain ⟨_, o1, e1, hnf⟩ := (land3.2.2.1).mem hm
      rw [at3] at e1
      cases e1
      exact hnf _ dat3
    have nL : a ≠ X.env.locals := fun z => far (List.mem_filterMap.mpr ⟨X.env, List.mem_cons_self, by rw [fr, z]⟩)
    have nF : a ∉ X.fs := fun hm => by
      obtain ⟨e, he, q⟩ := List.mem_filterMap.mp hm
      exact far (List.mem_filterMap.mpr ⟨e, List.mem_cons_of_mem _ he, q⟩)
    have S3 := J3.suite at3 dat3 na nL nF
    have go : ∀ {hs1 : List ExceptHandler} {l1 : List Hnd}, HndsOk X hs1 l1 → wHs X.K Wo D l1 cls d sl G → wpAny (model X.prog X.w) X.A (handleBy (.ref a) X.env hs1) (SP X pp D) X.xe { t0 with heap := g3 } := by
      intro hs1 l1 ok1
      -- the class that is named
      have named : ∀ {x : Str} {np : Pos} {c : Value} {Q E : Value → Shared → Prop}, Names X x c → Q c { t0 with heap := g3 } → wpAny (model X.prog X.w) (X.A.mark (some (.ref a))) (eval (.Name x np) X.env) Q E { t0 with heap := g3 } := fun {x np c Q E} nm q => by
        obtain ⟨hg, hdb, h | ⟨h, hv, hne⟩⟩ := nm
        · exact ld_glob (X := X.suite a ((a, oe3) :: (X.pn ++ pp))) S3 hg h q hdb
        · exact ld_blt (X := X.suite a ((a, oe3) :: (X.pn ++ pp))) S3 hg h hv q hne hdb
      have looks : PySem.W.Looks (model X.prog X.w) g3 (typeOf (.ref a)) cls := fun A Q E s0 k q => wpAny_typeOf_ref (k _ _ at3) (by rw [zc3.1]; exact q)
      induction ok1 with
      | nil =>
        intro w
        apply wpAny_handleBy_nil
        obtain ⟨_, _, _, oe, vs, T, _, _, he, _, hd, hT, _⟩ := id land3
        unfold PySem.passOn
        apply wpAny_bind
        apply wpAny_field he hd hT
        rw [if_neg (show ¬ (Value.ref T == Value.none) = true by simp)]
        have away : wpAny (model X.prog X.w) X.A (setFlight (.ref a) X.env.frame) (fun _ t4 => wpAny (model X.prog X.w) X.A (throw (.ref a) : Sem Flow) (SP X pp D) X.xe t4) X.xe { t0 with heap := g3 } := by
          rw [fr]
          refine HandSPX.setFlight_upZ land3 fun g4 held u4 => wpAny_throw (out _ _ ?_)
          exact ⟨a, gr, si, pp, sl, G, cls, d, rfl, J, nb, (up.trans u3).trans u4, .inr (.inr (by rw [stk]; exact held)), na, os, ag, w⟩
        first
          | exact wpAny_bind (wpAny_pure (wpAny_bind away))
          | exact wpAny_bind away
      | @only x c ts b0 su np p1 hs2 l2 nm run2 rest ih =>
        rintro ⟨b, isB, yes, no⟩
        refine wpAny_handleBy_cons (codeAny_handlers_test ?_) (by intro q; cases q)
        refine named nm ((PySem.W.exm_one (M := model X.prog X.w) J3.kIn looks isB).here ?_)
        cases b with
        | false => exact ih (no rfl)
        | true =>
          apply codeAny_handlers_suite
          refine HandSPX.lands_againZ land3 fun g4 land4 u4 => ?_
          have J4 : Inv X pp sl G { t0 with heap := g4 } := J.landed nb land4.1 ((up.trans u3).trans u4) os ag
          obtain ⟨oe4, vs4, at4, zc4, dat4⟩ := land4.there
          have S4 := J4.suite at4 dat4 na nL nF
          refine wpAny_mono ((run2 a oe4 cls d (X.pn ++ pp) zc4 ⟨_, dat4⟩).run [] _ _ G _ S4 (yes rfl a na)) (fun fl s6 done => ?_) (fun _ _ z => z.elim)
          cases fl with
          | next => obtain ⟨s7, G7, S7, z⟩ := done; exact ⟨_, _, S7.unsuite okx, z⟩
          | brk => obtain ⟨s7, G7, S7, z⟩ := done; exact ⟨_, _, S7.unsuite okx, z⟩
          | cont => obtain ⟨s7, G7, S7, z⟩ := done; exact ⟨_, _, S7.unsuite okx, z⟩
          | ret u => obtain ⟨v7, s7, G7, S7, rv, z⟩ := done; exact ⟨_, _, _, S7.unsuite okx, rv, z⟩
      | @named x n c i ts b0 su np p1 hs2 l2 nm hi hln run2 rest ih =>
        rintro ⟨b, isB, yes, no⟩
        refine wpAny_handleBy_cons (codeAny_handlers_test ?_) (by intro q; cases q)
        refine named nm ((PySem.W.exm_one (M := model X.prog X.w) J3.kIn looks isB).here ?_)
        cases b with
        | false => exact ih (no rfl)
        | true =>
          apply codeAny_handlers_suite_as
          refine HandSPX.lands_againZ land3 fun g4 land4 u4 => ?_
          have J4 : Inv X pp sl G { t0 with heap := g4 } := J.landed nb land4.1 ((up.trans u3).trans u4) os ag
          obtain ⟨oe4, vs4, at4, zc4, dat4⟩ := land4.there
          have S4 := J4.suite at4 dat4 na nL nF
          refine store_ok (X := X.suite a ((a, oe4) :: (X.pn ++ pp))) (v := .ref a) S4 nd hi (.inl hln) rfl (fun s5 S5 => ?_) (.inr hln)
          have gone : ∀ {s7 : L2.St} {G7 : Hp} {s6 : Shared} {Q : Shared → Prop}, Inv (X.suite a ((a, oe4) :: (X.pn ++ pp))) [] s7 G7 s6 → (∀ s8, Inv X pp (s7.set i none) G7 s8 → Q s8) →
              wpAny (model X.prog X.w) X.A (do bindName X.env n .none; unbindBehindTheSuite X.env n p1) (fun _ s8 => Q s8) X.xe s6 := fun S7 q => gone_ok (S7.unsuite okx) nd hi hln q
          refine wpAny_mono ((run2 a oe4 cls d (X.pn ++ pp) zc4 ⟨_, dat4⟩).run [] s5 _ G _ S5 (yes rfl a na)) (fun fl s6 done => ?_) (fun _ _ z => z.elim)
          cases fl with
          | next => obtain ⟨s7, G7, S7, z⟩ := done; exact gone S7 fun s8 J8 => ⟨_, _, J8, z⟩
          | brk => obtain ⟨s7, G7, S7, z⟩ := done; exact gone S7 fun s8 J8 => ⟨_, _, J8, z⟩
          | cont => obtain ⟨s7, G7, S7, z⟩ := done; exact gone S7 fun s8 J8 => ⟨_, _, J8, z⟩
          | ret u => obtain ⟨v7, s7, G7, S7, rv, z⟩ := done; exact gone S7 fun s8 J8 => ⟨_, _, _, J8, rv, z⟩
    exact go hh wish
end
structure AHnd where
  C : Addr
  i : Option Nat
  suite : Addr → Addr → Option Addr → AS
/-- the marked slots stand as they are, of the others nothing is known -/
def fillM : List Bool → List (Option AV) → Nat → Env
  | _, _, 0 => []
  | [], _, n + 1 => none :: fillM [] [] n
  | true :: ks, a :: as, n + 1 => a :: fillM ks as n
  | true :: ks, [], n + 1 => none :: fillM ks [] n
  | false :: ks, as, n + 1 => none :: fillM ks as n
def setE (i : Option Nat) (a : AV) (ρ : Env) : Env := match i with
  | none => ρ
  | some i => ρ.set i (some a)
def goneE (i : Option Nat) (ρ : Env) : Env := match i with
  | none => ρ
  | some i => ρ.set i none
def endsE (i : Option Nat) (N : AEnds) : AEnds := ⟨fun ρ => N.nx (goneE i ρ), N.rt, fun ρ => N.bk (goneE i ρ), fun ρ => N.ct (goneE i ρ), fun _ _ => False⟩
def handleA (K : PySem.W.Frag) (z : Bool) (N : AEnds) (x : Exn) (ρ : Env) : List AHnd → Prop
  | [] => if z = true then N.ex x ρ else False
  | h :: r => ∃ b, PySem.W.exmOne K (.ref x.C) (.ref h.C) = some b ∧ (b = true → ∀ a o, h.suite a x.C o (endsE h.i N) (setE h.i (.fz (.exn a x.C o x.ns x.ds)) ρ)) ∧ (b = false → handleA K z N x ρ r)
def allSome : List (Option AV) → Bool
  | [] => true
  | some _ :: r => allSome r
  | none :: _ => false
def flat1 : Option AV → Bool
  | none => true
  | some (.fz _) => true
  | some _ => false
/-- what is one's own is marked -/
def flatM : List Bool → Env → Bool
  | _, [] => true
  | [], a :: ρ => flat1 a && flatM [] ρ
  | true :: ks, _ :: ρ => flatM ks ρ
  | false :: ks, a :: ρ => flat1 a && flatM ks ρ
def aTry (K : PySem.W.Frag) (z : Bool) (mask : List Bool) (hs : List AHnd) (body : AS) : AS := fun N ρ => allSome (selM mask ρ) = true ∧ flatM mask ρ = true ∧
  body ⟨N.nx, N.rt, N.bk, N.ct, fun x ρ' => handleA K z N x (fillM mask (selM mask ρ') ρ.length) hs⟩ ρ
theorem sel_inv {α : Type} : ∀ (ks : List Bool) (r r' : List α), r'.length = r.length → selM ks r' = selM ks r → ∀ k, ks.getD k false = true → r'[k]? = r[k]?
  | [], _, _, _, _, k, h => by cases h
  | _ :: _, [], [], _, _, _, _ => rfl
  | _ :: _, [], _ :: _, l, _, _, _ => by cases l
  | _ :: _, _ :: _, [], l, _, _, _ => by cases l
  | true :: ks, a :: r, b :: r', l, e, k, h => by
    obtain ⟨e1, e2⟩ := List.cons.inj (show b :: selM ks r' = a :: selM ks r from e)
    cases k with
    | zero => exact congrArg some e1
    | succ k => exact sel_inv ks r r' (Nat.succ.inj l) e2 k h
  | false :: ks, a :: r, b :: r', l, e, k, h => by
    cases k with
    | zero => cases h
    | succ k => exact sel_inv ks r r' (Nat.succ.inj l) e k h
theorem sel_mapA {α β : Type} (f : α → β) : ∀ (ks : List Bool) (r : List α), selM ks (r.map f) = (selM ks r).map f
  | [], r => by cases r <;> rfl
  | k :: ks, [] => by cases k <;> rfl
  | true :: ks, a :: r => congrArg (f a :: ·) (sel_mapA f ks r)
  | false :: ks, a :: r => sel_mapA f ks r
theorem allSome_map : ∀ {l : List (Option AV)}, allSome l = true → ∃ xs : List AV, l = xs.map some
  | [], _ => ⟨[], rfl⟩
  | some a :: l, h => by
    obtain ⟨xs, e⟩ := allSome_map (l := l) h
    exact ⟨a :: xs, by rw [e]; rfl⟩
  | none :: l, h => by cases h
theorem map_somes {α β : Type} {g : α → β} : ∀ {l : List (Option α)} {ns : List β}, l.map (Option.map g) = ns.map some → ∃ xs : List α, l = xs.map some ∧ xs.map g = ns
  | [], [], _ => ⟨[], rfl, rfl⟩
  | [], n :: ns, h => by cases h
  | a :: l, [], h => by cases h
  | none :: l, n :: ns, h => by cases h
  | some a :: l, n :: ns, h => by
    obtain ⟨h1, h2⟩ := List.cons.inj (show some (g a) :: l.map (Option.map g) = some n :: ns.map some from h)
    obtain ⟨xs, e1, e2⟩ := map_somes h2
    exact ⟨a :: xs, by rw [e1]; rfl, by rw [List.map_cons, e2, Option.some.inj h1]⟩
def ownB : List Bool → Env → L2.St → List (List Addr)
  | [], _ :: ρ, _ :: σ => [] :: ownB [] ρ σ
  | true :: ks, a :: ρ, v :: σ => ownS a v :: ownB ks ρ σ
  | false :: ks, _ :: ρ, _ :: σ => [] :: ownB ks ρ σ
  | _, _, _ => []
theorem ownB_len : ∀ (ks : List Bool) {ρ : Env} {σ : L2.St}, ρ.length = σ.length → (ownB ks ρ σ).length = σ.length
  | ks, [], [], _ => by cases ks with
    | nil => rfl
    | cons k ks => cases k <;> rfl
  | ks, [], _ :: _, l => by cases l
  | ks, _ :: _, [], l => by cases l
  | [], _ :: ρ, _ :: σ, l => congrArg Nat.succ (ownB_len [] (Nat.succ.inj l))
  | true :: ks, _ :: ρ, _ :: σ, l => congrArg Nat.succ (ownB_len ks (Nat.succ.inj l))
  | false :: ks, _ :: ρ, _ :: σ, l => congrArg Nat.succ (ownB_len ks (Nat.succ.inj l))
theorem ownB_get : ∀ (ks : List Bool) (ρ : Env) (σ : L2.St) (i : Nat), ρ.length = σ.length → (ownB ks ρ σ).getD i [] = if ks.getD i false = true then ownK ρ σ i else []
  | ks, [], [], i, _ => by
    have e : ownB ks [] [] = [] := by cases ks with
      | nil => rfl
      | cons k ks => cases k <;> rfl
    rw [e]
    have e2 : ownK [] [] i = [] := rfl
    rw [e2]
    split <;> rfl
  | ks, [], _ :: _, i, l => by cases l
  | ks, _ :: _, [], i, l => by cases l
  | [], _ :: ρ, _ :: σ, 0, l => rfl
  | [], _ :: ρ, _ :: σ, i + 1, l => by
    have := ownB_get [] ρ σ i (Nat.succ.inj l)
    show (ownB [] ρ σ).getD i [] = _
    rw [this]
    rfl
  | true :: ks, a :: ρ, v :: σ, 0, l => by
    show ownS a v = ownK (a :: ρ) (v :: σ) 0
    unfold ownK
    cases a <;> cases v <;> rfl
  | true :: ks, _ :: ρ, _ :: σ, i + 1, l => ownB_get ks ρ σ i (Nat.succ.inj l)
  | false :: ks, _ :: ρ, _ :: σ, 0, l => rfl
  | false :: ks, _ :: ρ, _ :: σ, i + 1, l => ownB_get ks ρ σ i (Nat.succ.inj l)
theorem ownK_is {ρ : Env} {σ : L2.St} {i : Nat} {p : Addr} (h : p ∈ ownK ρ σ i) : ∃ av v, ρ[i]? = some (some av) ∧ σ[i]? = some (some v) ∧ p ∈ own av v := by
  unfold ownK at h
  cases e1 : ρ[i]? with
  | none => rw [e1] at h; simp at h
  | some a =>
    cases e2 : σ[i]? with
    | none => rw [e1, e2] at h; simp at h
    | some v =>
      rw [e1, e2] at h
      cases a with
      | none => cases v <;> cases h
      | some a =>
        cases v with
        | none => cases h
        | some v => exact ⟨a, v, rfl, rfl, h⟩
theorem flat_at : ∀ {ks : List Bool} {ρ : Env} {i : Nat} {av : AV}, flatM ks ρ = true → ks.getD i false = false → ρ[i]? = some (some av) → ∃ d, av = .fz d
  | _, [], i, av, _, _, e => by simp at e
  | [], a :: ρ, i, av, h, hk, e => by
    have h := (Bool.and_eq_true _ _).mp (show (flat1 a && flatM [] ρ) = true from h)
    cases i with
    | zero =>
      cases e
      cases av <;> first | exact ⟨_, rfl⟩ | cases h.1
    | succ i => exact flat_at (ks := []) (ρ := ρ) (i := i) h.2 rfl e
  | true :: ks, a :: ρ, i, av, h, hk, e => by
    cases i with
    | zero => cases hk
    | succ i => exact flat_at (ks := ks) (ρ := ρ) (i := i) h hk e
  | false :: ks, a :: ρ, i, av, h, hk, e => by
    have h := (Bool.and_eq_true _ _).mp (show (flat1 a && flatM ks ρ) = true from h)
    cases i with
    | zero =>
      cases e
      cases av <;> first | exact ⟨_, rfl⟩ | cases h.1
    | succ i => exact flat_at (ks := ks) (ρ := ρ) (i := i) h.2 hk e
def subM : List Bool → List Bool → Bool
  | [], _ => true
  | true :: ks, true :: ms => subM ks ms
  | true :: _, _ => false
  | false :: ks, _ :: ms => subM ks ms
  | false :: ks, [] => subM ks []
theorem subM_at : ∀ {ks ms : List Bool}, subM ks ms = true → ∀ k, ks.getD k false = true → ms.getD k false = true
  | [], _, _, k, h => by cases h
  | true :: ks, true :: ms, e, k, h => by
    cases k with
    | zero => rfl
    | succ k => exact subM_at (ks := ks) (ms := ms) e k h
  | true :: ks, false :: ms, e, k, h => by cases e
  | true :: ks, [], e, k, h => by cases e
  | false :: ks, m :: ms, e, k, h => by
    cases k with
    | zero => cases h
    | succ k => exact subM_at (ks := ks) (ms := ms) e k h
  | false :: ks, [], e, k, h => by
    cases k with
    | zero => cases h
    | succ k =>
      have := subM_at (ks := ks) (ms := []) e k h
      simp at this
section
variable {K : PySem.W.Frag} {c : DC} {U H U1 H1 : Hp} {σ σ1 : L2.St} {ρ ρ1 : Env}
theorem sel_reps : ∀ {ks : List Bool} {ρ : Env} {σ : L2.St} {avs : List AV}, Paired (RepS K U H) ρ σ → selM ks ρ = avs.map some → ∃ vs : List V, selM ks σ = vs.map some
  | [], _, σ, _, _, _ => ⟨[], by cases σ <;> rfl⟩
  | k :: ks, _, _, avs, .nil, e => ⟨[], by cases k <;> rfl⟩
  | true :: ks, a :: ρ, v :: σ, [], .cons h t, e => by cases e
  | true :: ks, a :: ρ, v :: σ, av :: avs, .cons h t, e => by
    obtain ⟨e1, e2⟩ := List.cons.inj (show a :: selM ks ρ = some av :: avs.map some from e)
    obtain ⟨vs, ev⟩ := sel_reps t e2
    subst e1
    cases v with
    | none => exact h.elim
    | some v => exact ⟨v :: vs, by show some v :: selM ks σ = _; rw [ev]; rfl⟩
  | false :: ks, a :: ρ, v :: σ, avs, .cons h t, e => sel_reps (ks := ks) t e
theorem fill_rep : ∀ (ks : List Bool) (σ : L2.St) (avs : List AV) (vs : List V), selM ks σ = vs.map some → RepAs K U H avs vs →
    Paired (RepS K U H) (fillM ks (avs.map some) σ.length) σ ∧ owns (fillM ks (avs.map some) σ.length) σ = ownAs avs vs ∧ selM ks (fillM ks (avs.map some) σ.length) = avs.map some
  | ks, [], avs, vs, e, r => by
    have e0 : selM ks ([] : L2.St) = [] := by cases ks with
      | nil => rfl
      | cons k ks => cases k <;> rfl
    rw [e0] at e
    have ev : vs = [] := by cases vs with
      | nil => rfl
      | cons _ _ => cases e
    subst ev
    have ea : avs = [] := by cases avs with
      | nil => rfl
      | cons a as => obtain ⟨_, _, e, _⟩ := r; cases e
    subst ea
    have ef : fillM ks (([] : List AV).map some) ([] : L2.St).length = [] := by cases ks with
      | nil => rfl
      | cons k ks => cases k <;> rfl
    rw [ef]
    refine ⟨.nil, rfl, ?_⟩
    cases ks with
    | nil => rfl
    | cons k ks => cases k <;> rfl
  | [], v :: σ, avs, vs, e, r => by
    have ev : vs = [] := by cases vs with
      | nil => rfl
      | cons _ _ => cases e
    subst ev
    have ea : avs = [] := by cases avs with
      | nil => rfl
      | cons a as => obtain ⟨_, _, e, _⟩ := r; cases e
    subst ea
    obtain ⟨i1, i2, i3⟩ := fill_rep [] σ [] [] (by cases σ <;> rfl) r
    refine ⟨.cons True.intro i1, i2, rfl⟩
  | true :: ks, v :: σ, avs, [], e, r => by cases e
  | true :: ks, v :: σ, [], w :: vs, e, r => by cases r
  | true :: ks, v :: σ, a :: avs, w :: vs, e, r => by
    obtain ⟨e1, e2⟩ := List.cons.inj (show v :: selM ks σ = some w :: vs.map some from e)
    obtain ⟨w', vs', ew, r1, r2⟩ := r
    obtain ⟨rfl, rfl⟩ := List.cons.inj ew
    obtain ⟨i1, i2, i3⟩ := fill_rep ks σ avs vs e2 r2
    subst e1
    exact ⟨.cons r1 i1, congrArg (own a w ++ ·) i2, congrArg (some a :: ·) i3⟩
  | false :: ks, v :: σ, avs, vs, e, r => by
    obtain ⟨i1, i2, i3⟩ := fill_rep ks σ avs vs e r
    exact ⟨.cons True.intro i1, i2, i3⟩
theorem per_mem {H0 : Hp} : ∀ {as : List AV} {vs : List V} {os : List (List Addr)}, PerO H0 as vs os → ∀ p ∈ ownAs as vs, (∃ o ∈ os, p ∈ o) ∨ H0 p = none
  | [], [], _, _, p, hp => by cases hp
  | a :: as, v :: vs, [], h, p, hp => h.elim
  | a :: as, v :: vs, o :: os, ⟨h1, h2⟩, p, hp => by
    rcases List.mem_append.mp hp with z | z
    · exact (h1 p z).imp (fun k => ⟨o, List.mem_cons_self, k⟩) id
    · exact (per_mem h2 p z).imp (fun ⟨o', k1, k2⟩ => ⟨o', List.mem_cons_of_mem _ k1, k2⟩) id
  | [], _ :: _, _, _, p, hp => by cases hp
  | _ :: _, [], _, _, p, hp => by cases hp
theorem per_at {H0 : Hp} : ∀ (ks : List Bool) (σ : L2.St) (avs : List AV) (vs : List V) (O : List (List Addr)), selM ks σ = vs.map some → avs.length = vs.length → O.length = σ.length → PerO H0 avs vs (selM ks O) → ∀ (i : Nat) (av : AV) (v : V), (fillM ks (avs.map some) σ.length)[i]? = some (some av) → σ[i]? = some (some v) → ∀ p ∈ own av v, p ∈ O.getD i [] ∨ H0 p = none
  | ks, [], avs, vs, O, e, l, lo, h, i, av, v, e1, e2, p, hp => by simp at e2
  | ks, _ :: _, avs, vs, [], e, l, lo, h, i, av, v, e1, e2, p, hp => by cases lo
  | [], w :: σ, avs, vs, o :: O, e, l, lo, h, i, av, v, e1, e2, p, hp => by
    have none_at : ∀ (n i : Nat) (av : AV), (fillM [] [] n)[i]? ≠ some (some av) := by
      intro n
      induction n with
      | zero => intro i av z; simp [fillM] at z
      | succ n ih =>
        intro i av z
        cases i with
        | zero => cases z
        | succ i => exact ih i av z
    cases i with
    | zero => cases e1
    | succ i => exact absurd e1 (none_at _ _ _)
  | true :: ks, w :: σ, avs, [], o :: O, e, l, lo, h, i, av, v, e1, e2, p, hp => by cases e
  | true :: ks, w :: σ, [], u :: vs, o :: O, e, l, lo, h, i, av, v, e1, e2, p, hp => by cases l
  | true :: ks, w :: σ, a :: avs, u :: vs, o :: O, e, l, lo, ⟨h1, h2⟩, i, av, v, e1, e2, p, hp => by
    obtain ⟨k1, k2⟩ := List.cons.inj (show w :: selM ks σ = some u :: vs.map some from e)
    cases i with
    | zero =>
      cases e1
      cases e2
      cases k1
      exact h1 p hp
    | succ i => exact per_at ks σ avs vs O k2 (Nat.succ.inj l) (Nat.succ.inj lo) h2 i av v e1 e2 p hp
  | false :: ks, w :: σ, avs, vs, o :: O, e, l, lo, h, i, av, v, e1, e2, p, hp => by
    cases i with
    | zero => cases e1
    | succ i => exact per_at ks σ avs vs O e l (Nat.succ.inj lo) h i av v e1 e2 p hp
theorem sel_mem {α : Type} : ∀ {ks : List Bool} {r : List α} {a : α}, a ∈ selM ks r → a ∈ r
  | [], r, a, h => by cases r <;> cases h
  | k :: ks, [], a, h => by cases k <;> cases h
  | true :: ks, b :: r, a, h => by
    rcases List.mem_cons.mp (show a ∈ b :: selM ks r from h) with rfl | h
    · exact List.mem_cons_self
    · exact List.mem_cons_of_mem _ (sel_mem h)
  | false :: ks, b :: r, a, h => List.mem_cons_of_mem _ (sel_mem (ks := ks) h)
theorem DI.gone (h : DI c U H σ ρ) {i : Nat} (hi : noPar c i = true) : DI c U H (σ.set i none) (ρ.set i none) := by
  have hn := noPar_of hi
  refine ⟨h.gr, Paired.setAt (F := RepS c.K U H) (show RepS c.K U H none none from True.intro) i h.rep, (owns_set_sub ρ σ i none none rfl).nodup h.nd, fun p hp => h.out p ((owns_set_sub ρ σ i none none rfl).mem hp), par_set (sel_set _ _ _ _ hn) (sel_set _ _ _ _ hn) h.par, h.ko, fun k av w e1 e2 p hp => ?_, by rw [List.length_set]; exact h.on⟩
  by_cases z : i = k
  · subst z
    rw [List.getElem?_set] at e1
    simp at e1
  · rw [List.getElem?_set_ne z] at e1 e2
    exact h.ow k av w e1 e2 p hp
theorem DI.ofNo (ko : c.Ok) (J : DI c.no U H σ ρ) : DI c U H σ ρ := ⟨J.gr, J.rep, J.nd, J.out, J.par, ko, J.ow, J.on⟩
variable {mask : List Bool} {pk : List Nat} {pv : List V} {X : Exn → List (Option AV) → Prop} {E : L2.St → XK} {avs0 : List AV}
/-- out of the block -/
theorem DI.leave (I : DI c U H σ ρ) (sub : subM c.ks mask = true) (ea : selM mask ρ = avs0.map some) (ev : selM mask σ = pv.map some) (J : DI ⟨c.K, mask, avs0.map AV.kind, pv, ownB mask ρ σ, owns ρ σ, U, H, X, E, c.tb⟩ U1 H1 σ1 ρ1) : DI c U1 H1 σ1 ρ1 := by
  have l0 : ρ.length = σ.length := I.rep.length
  have l1 : σ1.length = σ.length := by rw [← ownB_len mask l0]; exact J.on.1.symm
  have l2 : ρ1.length = ρ.length := by rw [J.rep.length, l1, l0]
  have back : ∀ p, p ∈ owns ρ σ ∨ H p = none → p ∈ c.M ∨ c.H0 p = none := fun p h => h.elim (fun h => (I.out p h).2) fun h => .inr (I.gr.fresh h)
  refine ⟨⟨I.gr.vv.trans J.gr.vv, J.gr.vh, fun x o m nn h => ?_, fun x h => J.gr.dom x (I.gr.dom x h), fun x h k => J.gr.fr x (I.gr.fr x h k) (I.gr.dom x k), fun P h => J.gr.tb P (I.gr.tb P h), fun h => J.gr.nt (I.gr.nt h)⟩, J.rep, J.nd, fun p hp => ⟨(J.out p hp).1, back p (J.out p hp).2⟩, ⟨?_, ?_⟩, I.ko, fun i av v e1 e2 p hp => ?_, I.on.1.trans l1.symm, I.on.2⟩
  · refine J.gr.hh x o (fun z => ?_) nn (I.gr.hh x o m nn h)
    rcases (I.out x z).2 with k | k
    · exact m k
    · rw [k] at h
      cases h
  · have e1 : selM mask σ1 = selM mask σ := J.par.1.trans ev.symm
    rw [sel_at c.ks σ σ1 fun k hk => sel_inv mask σ σ1 l1 e1 k (subM_at sub k hk)]
    exact I.par.1
  · obtain ⟨_, as1, f1, f2⟩ := J.par
    obtain ⟨_, bs, g1, g2⟩ := I.par
    have f1' : selM mask ρ1 = as1.map some := f1
    have f2' : as1.map AV.kind = avs0.map AV.kind := f2
    have e2 : selM mask (ρ1.map (Option.map AV.kind)) = selM mask (ρ.map (Option.map AV.kind)) := by
      rw [sel_mapA, sel_mapA, f1', ea, List.map_map, List.map_map]
      have : ∀ l : List AV, l.map (Option.map AV.kind ∘ some) = (l.map AV.kind).map some := fun l => by rw [List.map_map]; rfl
      rw [this, this, f2']
    have e3 := sel_at c.ks (ρ.map (Option.map AV.kind)) (ρ1.map (Option.map AV.kind)) fun k hk => sel_inv mask _ _ (by rw [List.length_map, List.length_map, l2]) e2 k (subM_at sub k hk)
    rw [sel_mapA, sel_mapA, g1, List.map_map] at e3
    have e4 : (selM c.ks ρ1).map (Option.map AV.kind) = c.pk.map some := by
      rw [e3, ← g2, List.map_map]
      rfl
    exact map_somes e4
  · rcases J.ow i av v e1 e2 p hp with h | h
    · have h' : p ∈ (ownB mask ρ σ).getD i [] := h
      rw [ownB_get mask ρ σ i l0] at h'
      split at h'
      · obtain ⟨av0, v0, k1, k2, k3⟩ := ownK_is h'
        exact I.ow i av0 v0 k1 k2 p k3
      · cases h'
    · exact .inr (I.gr.fresh h)
/-- into the block -/
theorem DI.enter (I : DI c U H σ ρ) (ea : selM mask ρ = avs0.map some) (ev : selM mask σ = pv.map some) (fl : flatM mask ρ = true) (ko : DC.Ok ⟨c.K, mask, avs0.map AV.kind, pv, ownB mask ρ σ, owns ρ σ, U, H, X, E, c.tb⟩) : DI ⟨c.K, mask, avs0.map AV.kind, pv, ownB mask ρ σ, owns ρ σ, U, H, X, E, c.tb⟩ U H σ ρ := by
  have l0 : ρ.length = σ.length := I.rep.length
  refine ⟨(Gr.refl I.vh).any, I.rep, I.nd, fun p hp => ⟨(I.out p hp).1, .inl hp⟩, ⟨ev, avs0, ea, rfl⟩, ko, fun i av v e1 e2 p hp => ?_, ownB_len mask l0, fun i hi => ?_⟩
  · refine .inl ?_
    show p ∈ (ownB mask ρ σ).getD i []
    rw [ownB_get mask ρ σ i l0]
    cases hk : mask.getD i false with
    | true =>
      rw [if_pos rfl]
      unfold ownK
      rw [e1, e2]
      exact hp
    | false =>
      obtain ⟨d, rfl⟩ := flat_at fl hk e1
      cases v <;> cases hp
  · show (ownB mask ρ σ).getD i [] = []
    rw [ownB_get mask ρ σ i l0, if_neg]
    rw [show mask.getD i false = false from noPar_of hi]
    exact Bool.false_ne_true
/-- where an exception came -/
theorem DI.land (I : DI c U H σ ρ) (sub : subM c.ks mask = true) (ea : selM mask ρ = avs0.map some) (ev : selM mask σ = pv.map some) {as : List (Option AV)} (e1 : selM mask σ1 = pv.map some) (l1 : σ1.length = (ownB mask ρ σ).length)
    (g : Gr (owns ρ σ) U H U1 H1) (pr : ParRep ⟨c.K, mask, avs0.map AV.kind, pv, ownB mask ρ σ, owns ρ σ, U, H, X, E, c.tb⟩ U1 H1 as) : DI c U1 H1 σ1 (fillM mask as ρ.length) := by
  have l0 : ρ.length = σ.length := I.rep.length
  rw [ownB_len mask l0] at l1
  obtain ⟨avs1, rfl, r1, k1, nd1, un1, per1⟩ := pr.ex
  obtain ⟨f1, f2, f3⟩ := fill_rep mask σ1 avs1 pv e1 r1
  rw [show ρ.length = σ1.length from l0.trans l1.symm]
  refine I.leave (X := fun _ _ => False) (E := E) sub ea ev ⟨g, f1, by rw [f2]; exact nd1, fun p hp => ?_, ⟨e1, avs1, f3, k1⟩, ⟨fun _ _ _ _ _ _ _ _ _ _ _ _ z => z.elim, I.tbs⟩, ?_, (ownB_len mask l0).trans l1.symm, fun i hi => ?_⟩
  · rw [f2] at hp
    refine ⟨un1 p hp, ?_⟩
    rcases per_mem per1 p hp with ⟨o, ho, hpo⟩ | h
    · left
      have ho' := sel_mem ho
      obtain ⟨i, hi⟩ := List.mem_iff_getElem?.mp ho'
      have : (ownB mask ρ σ).getD i [] = o := by rw [List.getD_eq_getElem?_getD]; rw [show (ownB mask ρ σ)[i]? = some o from hi]; rfl
      rw [← this, ownB_get mask ρ σ i l0] at hpo
      split at hpo
      · obtain ⟨av0, v0, k1, k2, k3⟩ := ownK_is hpo
        exact mem_owns k1 k2 p k3
      · cases hpo
    · exact .inr h
  · exact fun i av v e3 e4 => per_at mask σ1 avs1 pv (ownB mask ρ σ) e1 r1.len ((ownB_len mask l0).trans l1.symm) per1 i av v e3 e4
  · show (ownB mask ρ σ).getD i [] = []
    rw [ownB_get mask ρ σ i l0, if_neg]
    rw [show mask.getD i false = false from noPar_of hi]
    exact Bool.false_ne_true
inductive HndsR (c : DC) : List Hnd → List AHnd → Prop
  | nil : HndsR c [] []
  | only {C : Addr} {ts : Addr → Value → Option Addr → TS} {su : Addr → Addr → Option Addr → AS} {l : List Hnd} {ls : List AHnd} (h : ∀ a D o, SimS c.no (ts a (.ref D) o) (su a D o)) (r : HndsR c l ls) : HndsR c ((.ref C, none, ts) :: l) (⟨C, none, su⟩ :: ls)
  | named {C : Addr} {i j : Nat} {ts : Addr → Value → Option Addr → TS} {su : Addr → Addr → Option Addr → AS} {l : List Hnd} {ls : List AHnd} (hi : noPar c i = true) (hj : j = i) (h : ∀ a D o, SimS c.no (ts a (.ref D) o) (su a D o)) (r : HndsR c l ls) : HndsR c ((.ref C, some j, ts) :: l) (⟨C, some i, su⟩ :: ls)
theorem handle_ok {hl : List Hnd} {hs : List AHnd} {zf : Bool} {Wo : WX} {N : AEnds} {n : L2.Ends} {x : Exn} {cls : Value} {o : Option Addr} (I : DI c U H σ ρ) (xr : XRep c.K U H x cls o) (hx : N.ex = fun x ρ => c.x ρ x) (P : Post c U N n) (hW : zf = true → ∀ cls o σ H, c.E σ cls o H → Wo cls o σ H) (hh : HndsR c hl hs) (z : handleA c.K zf N x ρ hs) : wHs c.K Wo n hl cls o σ H := by
  obtain ⟨rfl, xf⟩ := id xr
  have no : DI c.no U H σ ρ := I.no
  induction hh with
  | nil =>
    cases zf with
    | false => exact z.elim
    | true =>
      have z' : N.ex x ρ := z
      rw [hx] at z'
      exact hW rfl _ _ _ _ (I.raise xr z')
  | @only C ts su l ls h r ih =>
    obtain ⟨b, e, yes, nob⟩ := z
    refine ⟨b, e, fun hb a na => ?_, fun hb => ih (nob hb)⟩
    exact h a x.C o U H σ ρ _ _ rfl no (yes hb a o) ⟨fun U2 H2 s2 r2 sm J => P.nx U2 H2 s2 r2 sm (.ofNo I.ko J), fun U2 H2 s2 r2 av v J => P.rt U2 H2 s2 r2 av v (.ofNo I.ko J), fun U2 H2 s2 r2 sm J => P.bk U2 H2 s2 r2 sm (.ofNo I.ko J), fun U2 H2 s2 r2 sm J => P.ct U2 H2 s2 r2 sm (.ofNo I.ko J)⟩
  | @named C i j ts su l ls hi hj h r ih =>
    subst hj
    obtain ⟨b, e, yes, nob⟩ := z
    refine ⟨b, e, fun hb a na => ?_, fun hb => ih (nob hb)⟩
    refine h a x.C o U H _ _ _ _ rfl (I.setF (d := .exn a x.C o x.ns x.ds) (v := .ref a) ⟨rfl, xf⟩ hi).no (yes hb a o) ⟨fun U2 H2 s2 r2 sm J => P.nx U2 H2 _ _ sm ((DI.ofNo I.ko J).gone hi), fun U2 H2 s2 r2 av v J => P.rt U2 H2 s2 r2 av v (.ofNo I.ko J), fun U2 H2 s2 r2 sm J => P.bk U2 H2 _ _ sm ((DI.ofNo I.ko J).gone hi), fun U2 H2 s2 r2 sm J => P.ct U2 H2 _ _ sm ((DI.ofNo I.ko J).gone hi)⟩
theorem sim_try {hl : List Hnd} {hs : List AHnd} {zf : Bool} {tb : WX → TS} {body : AS} {Wo : WX} (sub : subM c.ks mask = true) (hW : zf = true → ∀ cls o σ H, c.E σ cls o H → Wo cls o σ H) (hh : HndsR c hl hs)
    (hb : ∀ (W : WX) pk pv O M U0 H0 X, SimS ⟨c.K, mask, pk, pv, O, M, U0, H0, X, fun σ cls d H => W cls d σ H, c.tb⟩ (tb W) body) : SimS c (tTryHs c.K tb Wo hl) (aTry c.K zf mask hs body) := fun U H σ ρ N n hx I z P => by
  obtain ⟨z1, z2, z3⟩ := z
  obtain ⟨avs0, ea⟩ := allSome_map z1
  obtain ⟨pv, ev⟩ := sel_reps I.rep ea
  have ko : DC.Ok ⟨c.K, mask, avs0.map AV.kind, pv, ownB mask ρ σ, owns ρ σ, U, H, fun x as => handleA c.K zf N x (fillM mask as ρ.length) hs, fun σ cls d H => wHs c.K Wo n hl cls d σ H, c.tb⟩ := ⟨fun U1 H1 s1 as x cls o e1 l1 g pr xr zz => handle_ok (I.land sub ea ev e1 l1 g pr) xr hx (P.mono g.vv) hW hh zz, I.tbs⟩
  refine hb (wHs c.K Wo n hl) _ pv (ownB mask ρ σ) (owns ρ σ) U H _ U H σ ρ _ n rfl (I.enter ea ev z2 ko) z3 ⟨fun U1 H1 s1 r1 sm J => P.nx U1 H1 s1 r1 sm (I.leave sub ea ev J), fun U1 H1 s1 r1 av v J r nd fr => P.rt U1 H1 s1 r1 av v (I.leave sub ea ev J) r nd fun p hp => ⟨(fr p hp).1, I.gr.fresh (fr p hp).2.1, (fr p hp).2.2⟩, fun U1 H1 s1 r1 sm J => P.bk U1 H1 s1 r1 sm (I.leave sub ea ev J), fun U1 H1 s1 r1 sm J => P.ct U1 H1 s1 r1 sm (I.leave sub ea ev J)⟩
def aXF (a D : Addr) (o : Option Addr) (C : Addr) (f : Str) (e : AE) : AE := fun ρ Q X => e ρ (fun d => match d with
  | .exn a' _ o' ns ds => a' = a ∧ o' = o ∧ D = C ∧ (match lookD f ns ds with | some y => Q y | none => False)
  | _ => False) X
theorem sim_xf {a D : Addr} {o : Option Addr} {C : Addr} {f : Str} {t : TE} {e : AE} (he : SimE c t e) : SimE c (tXf a (.ref D) o C f t) (aXF a D o C f e) := fun U H σ ρ Q q I z k => he U H σ ρ _ _ I z fun U1 H1 d v g1 I1 r1 z1 => by
  cases d with
  | exn a' C' o' ns ds =>
    obtain ⟨rfl, rfl, rfl, z2⟩ := z1
    obtain ⟨rfl, r2⟩ := r1
    cases ed : lookD f ns ds with
    | none => rw [ed] at z2; exact z2.elim
    | some y =>
      rw [ed] at z2
      rcases r2 with ⟨e1, _⟩ | ⟨dd, xs, e1, e2, e3, e4⟩
      · rw [e1] at ed
        cases ed
      · obtain ⟨w, w1, w2⟩ := look_of e4 e3 ed
        exact ⟨rfl, rfl, dd, _, w, e1, I1.vh _ _ e2, w1, k U1 H1 y w g1 I1 w2 z2⟩
  | _ => exact z1.elim
end
end SW
namespace SW
open PySem PySem.Spec PyProof.Rows L2 SWS
open PySem.W (AlikeAll iter_listW cmpIn_lt moved_old argBest_fold)
variable [QN]
theorem d_setT {X : Cx} {pp : List (Addr × Obj)} {sl : L2.St} {G : Hp} {s : Shared} {E : Value → Shared → Prop} {D b : Addr} {kvs : List (List Key × V)} {k : List Key} {v : V} {r : Value} {Q : Unit → Shared → Prop} (hu : X.A.units < cLine) (I : Inv X pp sl G s) (hD : G D = some (.dT kvs)) (hb : G b = some (.tup (k.map kV))) (hz : kvs.length < sizeLine)
    (rv : RelV v r) (h : ∀ s', Inv X pp sl (upd G D (.dT (putK kvs k v))) s' → Q () s') : wpAny (model X.prog X.w) X.A (dictSet D (.ref b) r) Q E s := by
  obtain ⟨z, hd, xs, rel, dd⟩ := dt_of I.hok hD
  have hl : (putK kvs k v).length ≤ sizeLine := by have := length_putK kvs k v; omega
  have hzx : xs.length ≤ sizeLine := by rw [← Paired.length rel]; exact z
  refine wpAny_dictSet_heap (hsz := hzx) hu (key_of I.hok hb) dd fun h' dd' same => h _ ?_
  obtain ⟨q, es, ep, e1, e2, e3, e4, _, e5⟩ := dd'
  refine d_write I (by rw [hD]; exact True.intro) same ⟨q, e1⟩ ⟨hl, hd, _, (rel.put k hb rv).keeps fun c ys ec => ?_, q, es, ep, e1, e2, e3, e4, e5⟩
  rw [upd_ne (ne_of ec hD fun z => nomatch z)]
  exact ec
def tDcT (wi : TI) (g : TG) (tt : TT) (tk tv : TE) (vs : List Nat) : TE := fun sl G Q => wi sl G fun J G1 => ∀ D, G1 D = none → ∃ W : Nat → Nat → Hp → Prop, (∃ m, W 0 m (upd G1 D (.dT []))) ∧ ∀ i m G, W i m G →
  (J.stop i G ∧ Q (.ref D) G) ∨ (J.go i G ∧ ∃ Nx : Hp → Prop, (∀ G', Nx G' → ∃ m', m' < m ∧ W (i + 1) m' G') ∧ ∀ x G', J.yld i G x G' → g x (wipe sl vs) G' fun sl2 G2 => wipe sl2 vs = wipe sl vs ∧ tt sl2 G2 fun yes G3 =>
    if yes = true then tk sl2 G3 fun y G4 => tv sl2 G4 fun z G5 => ∃ kvs k b, y = .ref b ∧ G5 b = some (.tup (k.map kV)) ∧ G5 D = some (.dT kvs) ∧ kvs.length < sizeLine ∧ Nx (upd G5 D (.dT (putK kvs k z))) else Nx G3)
theorem pe_dcT {X : Cx} {kx vx tg iter : Expr} {ifs : List Expr} {scope : Scope} {own : List (Str × Nat)} {pos : Pos} {wi : TI} {g : TG} {tt : TT} {tk tv : TE} (hu : X.A.units < cLine) (hc : X.calm = true) (nd : X.N.Nodup) (hi : PI X tg iter wi) (ok : BlkOk X.N X.env.scope scope own)
    (hg : ∀ (s : Shared) (G : Hp) (C : Addr) (cl : List (Str × Addr)) (fp : List Addr), PG (X.blk s G scope (compEnvC scope cl C X.env) fp) tg g) (ht : ∀ (s : Shared) (G : Hp) (C : Addr) (cl : List (Str × Addr)) (fp : List Addr), PTs (X.blk s G scope (compEnvC scope cl C X.env) fp) ifs tt)
    (hk : ∀ (s : Shared) (G : Hp) (C : Addr) (cl : List (Str × Addr)) (fp : List Addr), PE (X.blk s G scope (compEnvC scope cl C X.env) fp) kx tk)
    (he : ∀ (s : Shared) (G : Hp) (C : Addr) (cl : List (Str × Addr)) (fp : List Addr), PE (X.blk s G scope (compEnvC scope cl C X.env) fp) vx tv) (hs : ∀ x, foldedSetIterable iter X.env x = pure x := by intro _; rfl) :
    PE X (.DictComp kx vx [⟨tg, iter, ifs, 0⟩] scope pos) (tDcT wi g tt tk tv (own.map (·.2))) := by
  constructor
  intro pp s sl G Q I given
  rw [arm_eval_DictComp]
  have free : ∀ y ∈ scope.names, y.2 = .free → ∃ c, X.env.cells.lookup y.1 = some c := fun y hy e => (ok.free y hy e).elim (fun k => I.ok.has _ (.inl k)) fun k => I.ok.has _ (.inr k)
  refine wpAny_comprehension_free (use := none) rfl hs (closure_ok free) ok.kind (fun y hy e => by rw [ok.uniq y hy, e])
    (thn (hi.run pp s sl G _ I given) fun u0 s1 h1 => thn h1 fun u1 s2 h2 => ?_)
  obtain ⟨it, fp, tn, J, G2, rfl, I2, T, st2, f2, rest⟩ := h2
  refine wpAny_newObj_type (newEnv_comp ?_)
  generalize eD : s2.heap.objs.size = D
  have nD : G2 D = none := I2.hok.fresh (Nat.le_of_eq eD)
  obtain ⟨W, ⟨m0, w0⟩, turn⟩ := rest D nD
  generalize e3 : ({ s2 with heap := s2.heap.push { cls := .type "dict", data := .dict #[] } } : Shared) = s3
  have hp3 : s3.heap = s2.heap.push { cls := .type "dict", data := .dict #[] } := by rw [← e3]
  have I3 : Inv X pp sl (upd G2 D (.dT [])) s3 := by
    rw [← e3]
    refine I2.laid (t' := s2.toks) (fun _ _ e => Heap.get?_push_of_some _ e) (Nat.le_of_eq eD) ?_
    rw [← eD]
    exact dt_empty s2.heap I2.big
  have below : ∀ b ∈ fp, b < s2.heap.objs.size := fun b hb => let ⟨_, e, _⟩ := T.obj _ _ st2 b hb; Heap.lt_size e
  have f3 : ∀ b ∈ fp, FpOk X pp (upd G2 D (.dT [])) b ∧ b < s3.heap.objs.size := fun b hb => by
    have lt := below b hb
    refine ⟨⟨?_, (f2 b hb).2⟩, by rw [hp3, Heap.size_push]; exact Nat.lt_succ_of_lt lt⟩
    rw [upd_ne (by rw [← eD]; exact Nat.ne_of_lt lt)]
    exact (f2 b hb).1
  have st3 : tn 0 s3.heap := T.keep _ _ _ st2 fun b _ o e => by rw [hp3]; exact Heap.get?_push_of_some _ e
  have I4 := block_start I3 ok nd f3
  have none3 : ∀ b ∈ fp, (upd G2 D (.dT [])) b = none := fun b hb => (f3 b hb).1.1
  have pg := hg s3 (upd G2 D (.dT [])) s3.heap.objs.size (cellsFrom (s3.heap.objs.size + 1) scope.names (cloFrom X.env.cells scope.names [])) fp
  have pt := ht s3 (upd G2 D (.dT [])) s3.heap.objs.size (cellsFrom (s3.heap.objs.size + 1) scope.names (cloFrom X.env.cells scope.names [])) fp
  have pk := hk s3 (upd G2 D (.dT [])) s3.heap.objs.size (cellsFrom (s3.heap.objs.size + 1) scope.names (cloFrom X.env.cells scope.names [])) fp
  have pv := he s3 (upd G2 D (.dT [])) s3.heap.objs.size (cellsFrom (s3.heap.objs.size + 1) scope.names (cloFrom X.env.cells scope.names [])) fp
  show codeAny _ _ (.compStart (.DictComp kx vx [⟨tg, iter, ifs, 0⟩] scope pos) 0 (.ref it) (.ref D) (compEnvC scope (cellsFrom (s3.heap.objs.size + 1) scope.names (cloFrom X.env.cells scope.names [])) s3.heap.objs.size X.env)) (compPost (model X.prog X.w) X.A X.xe none (EP X pp sl Q) (.ref D) s3.heap.objs.size) { s3 with heap := pushCells (s3.heap.push { cls := .type "dict", data := .dict #[] }) scope.names }
  generalize ec : compEnvC scope (cellsFrom (s3.heap.objs.size + 1) scope.names (cloFrom X.env.cells scope.names [])) s3.heap.objs.size X.env = inner at I4 pg pt pk pv ⊢
  have loc : inner.locals = s3.heap.objs.size := by rw [← ec]; rfl
  generalize e5 : upd G2 D (.dT []) = G3 at I3 I4 pg pt pk pv w0 none3 f3
  generalize e4 : ({ s3 with heap := pushCells (s3.heap.push { cls := .type "dict", data := .dict #[] }) scope.names } : Shared) = s4 at I4 ⊢
  have st4 : tn 0 s4.heap := T.keep _ _ _ st3 fun b _ o e => by rw [← e4]; exact pushCells_keeps _ _ _ _ (Heap.get?_push_of_some _ e)
  have fixd : ∀ {sl' : L2.St} {G' : Hp} {s' : Shared}, Inv (X.blk s3 G3 scope inner fp) [] sl' G' s' → (∀ b ∈ fp, G' b = none) → ∀ b ∈ fp, FpOk (X.blk s3 G3 scope inner fp) [] G' b := fun J' n b hb =>
    ⟨n b hb, (J'.ok.exf b hb).1, J'.ok.exfs b hb, .inl hb, fun x c e => (J'.ok.exf b hb).2 x c e, fun p hp => absurd (show p ∈ ([] : List (Addr × Obj)) ++ [] from hp) (by simp)⟩
  have looped : codeAny (model X.prog X.w) X.A (.compLoop (.DictComp kx vx [⟨tg, iter, ifs, 0⟩] scope pos) 0 (.ref it) (.ref D) inner) (compPost (model X.prog X.w) X.A X.xe none (EP X pp sl Q) (.ref D) s3.heap.objs.size) s4 := by
    refine compLoop_anyD (fun n t => ∃ i G', Inv (X.blk s3 G3 scope inner fp) [] (wipe sl (own.map (·.2))) G' t ∧ tn i t.heap ∧ (∀ b ∈ fp, G' b = none) ∧ W i n G') ?_ m0 ⟨0, G3, I4, st4, none3, w0⟩
    rintro n s5 ⟨i, G5, I5, st5, n5, w5⟩
    rcases turn i n G5 w5 with ⟨stop, fin⟩ | ⟨go, Nx, less, step⟩
    · refine thnF (T.done (X.blk s3 G3 scope inner fp) rfl rfl rfl hc i [] s5 _ G5 (fun _ _ => False) I5 (fixd I5 n5) st5 stop) fun r s6 ⟨hr, I6⟩ => ?_
      subst hr
      have I7 : Inv X pp sl G5 s6 := I3.call' (ch := fp) I6.os I6.base I6.hok I6.bare fun b hb => ⟨(f3 b hb).1.2.2.2.1, (f3 b hb).1.2.1, (f3 b hb).1.2.2.2.2.1, (f3 b hb).1.2.2.2.2.2⟩
      have nC : G5 s3.heap.objs.size = none := by
        have z : G5 inner.locals = none := I6.free
        rwa [loc] at z
      obtain ⟨m, ns, _⟩ := I6.loc
      have ns' : s6.heap.Ns inner.locals m := ns
      rw [loc] at ns'
      obtain ⟨f0, f1, fa, fb, fc, fd⟩ := I3.fpOk (Nat.le_refl _) nC
      refine ⟨m, ns', fun h'' sb => ?_⟩
      exact ⟨.ref D, G5, I7.turned (t' := s6.toks) (fun b o hb e => (sb.2 b hb).trans e) f0 f1 fb fc fd, rfl, fin⟩
    · refine thnF (T.item (X.blk s3 G3 scope inner fp) rfl rfl rfl hc i [] s5 _ G5 (fun _ _ => False) I5 (fixd I5 n5) st5 go) fun r s6 ⟨u, hr, h6⟩ => ?_
      subst hr
      refine thnF h6 fun _ s7 ⟨x, G7, I7, r7, y7, st7, n7⟩ => ?_
      refine thnF (pg.run _ s7 _ G7 x u _ (I7.pinned (fixd I7 n7) (T.obj _ _ st7)) r7 (step x G7 y7)) fun _ s8 ⟨sl8, G8, I8, hw8, q8⟩ => ?_
      refine thnF (pt.run _ s8 sl8 G8 _ I8 q8) fun yes s9 ⟨G9, I9, q9⟩ => ?_
      have next : ∀ {t : Shared} {G' : Hp}, Inv (X.blk s3 G3 scope inner fp) ([] ++ pinsAt fp s7.heap) sl8 G' t → Nx G' → ∃ m, m < n ∧ ∃ i G', Inv (X.blk s3 G3 scope inner fp) [] (wipe sl (own.map (·.2))) G' t ∧ tn i t.heap ∧ (∀ b ∈ fp, G' b = none) ∧ W i m G' := fun {t G'} J' nx => by
        obtain ⟨m', lt, w'⟩ := less G' nx
        have pinned : ∀ b ∈ fp, ∀ o, s7.heap.get? b = some o → t.heap.get? b = some o ∧ G' b = none := fun b hb o e =>
          let z := J'.pin (b, o) (List.mem_append_right _ (List.mem_append_right _ (mem_pinsAt hb e)))
          ⟨z.1, z.2.1⟩
        refine ⟨m', lt, i + 1, G', (J'.unpinned (pins := [])).weak (by rw [← hw8, wipe_length]) (fun j v e => ?_), T.keep _ _ _ st7 fun b hb o e => (pinned b hb o e).1, fun b hb => ?_, w'⟩
        · rw [← hw8] at e
          exact (wipe_some e).1
        · obtain ⟨o, e, _⟩ := T.obj _ _ st7 b hb
          exact (pinned b hb o e).2
      cases yes with
      | false =>
        simp only [Bool.false_eq_true, if_false] at q9 ⊢
        exact next I9 q9
      | true =>
        simp only [if_true] at q9 ⊢
        refine thnF (pk.run _ s9 sl8 G9 _ I9 q9) fun uk s10 ⟨yk, G10, I10, r10, q10⟩ => ?_
        refine thnF (pv.run _ s10 sl8 G10 _ I10 q10) fun uv s11 ⟨yv, G11, I11, r11, kvs, k, b, ek, hb, hD, hz, nx⟩ => ?_
        subst ek
        obtain rfl : uk = Value.ref b := r10
        exact d_setT (X := X.blk s3 G3 scope inner fp) hu I11 hD hb hz r11 fun s12 I12 => next I12 nx
  exact codeAny_compStart_dict looped (T.self X.A 0 _ _ _ st4 looped)
def gDecMem {κ : Type} [DecidableEq κ] (y : κ) : (ks : List κ) → Decidable (y ∈ ks)
  | [] => Decidable.isFalse (by simp)
  | k :: ks => if h : y = k then Decidable.isTrue (h ▸ List.mem_cons_self) else match gDecMem y ks with
    | Decidable.isTrue t => Decidable.isTrue (List.mem_cons_of_mem _ t)
    | Decidable.isFalse t => Decidable.isFalse fun z => (List.mem_cons.mp z).elim h t
section
local instance gDec {κ : Type} [DecidableEq κ] (y : κ) (ks : List κ) : Decidable (y ∈ ks) := gDecMem y ks
def gval {κ : Type} [DecidableEq κ] : List κ → List D → κ → Option D
  | k :: ks, d :: ds, y => if k = y then some d else gval ks ds y
  | _, _, _ => none
/-- in its place, or at the end -/
def gputK {κ : Type} [DecidableEq κ] (ks : List κ) (y : κ) : List κ := if y ∈ ks then ks else ks ++ [y]
def gputD {κ : Type} [DecidableEq κ] : List κ → List D → κ → D → List D
  | k :: ks, d :: ds, y, e => if k = y then e :: ds else d :: gputD ks ds y e
  | _, _, _, e => [e]
section
variable {κ : Type} [DecidableEq κ] {K : PySem.W.Frag} {U H : Hp}
theorem gval_r : ∀ {ks : List κ} {ds : List D} {xs : List V} {y : κ}, Rs K U ds xs → ks.length = xs.length → (gval ks ds y = none → valV (ks.zip xs) y = none) ∧ ∀ d, gval ks ds y = some d → ∃ v, valV (ks.zip xs) y = some v ∧ R K U d v
  | [], ds, xs, y, r, l => by
    cases xs with
    | nil => exact ⟨fun _ => rfl, fun d h => (by cases ds <;> cases h)⟩
    | cons _ _ => cases l
  | k :: ks, [], xs, y, r, l => by
    rw [show xs = [] from r] at l
    cases l
  | k :: ks, d :: ds, xs, y, ⟨v, xs', e, h1, h2⟩, l => by
    subst e
    obtain ⟨i1, i2⟩ := gval_r (ks := ks) (y := y) h2 (Nat.succ.inj l)
    rw [List.zip_cons_cons]
    by_cases hk : k = y
    · rw [valV_pos (p := (k, v)) hk]
      refine ⟨fun h => ?_, fun d' h => ?_⟩
      · unfold gval at h
        rw [if_pos hk] at h
        cases h
      · unfold gval at h
        rw [if_pos hk] at h
        cases h
        exact ⟨v, rfl, h1⟩
    · rw [valV_neg (p := (k, v)) hk]
      unfold gval
      rw [if_neg hk]
      exact ⟨i1, i2⟩
theorem gval_has : ∀ {ks : List κ} {ds : List D} {y : κ}, ks.length = ds.length → (gval ks ds y).isSome = decide (y ∈ ks)
  | [], ds, y, _ => by cases ds <;> rfl
  | k :: ks, [], y, l => by cases l
  | k :: ks, d :: ds, y, l => by
    have ih := gval_has (ks := ks) (ds := ds) (y := y) (Nat.succ.inj l)
    unfold gval
    by_cases hk : k = y
    · rw [if_pos hk, decide_eq_true (show y ∈ k :: ks by rw [hk]; exact List.mem_cons_self)]
      rfl
    · rw [if_neg hk, ih]
      refine decide_eq_decide.mpr ⟨fun h => List.mem_cons_of_mem _ h, fun h => ?_⟩
      rcases List.mem_cons.mp h with h | h
      · exact absurd h.symm hk
      · exact h
theorem gput_r : ∀ {ks : List κ} {ds : List D} {xs : List V} {y : κ} {e : D} {w : V}, Rs K U ds xs → ks.length = xs.length → ks.Nodup → R K U e w → ∃ xs', putK (ks.zip xs) y w = (gputK ks y).zip xs' ∧ (gputK ks y).length = xs'.length ∧ Rs K U (gputD ks ds y e) xs'
  | ks, ds, xs, y, e, w, r, l, nd, h => by
    have any : ∀ {ks : List κ} {xs : List V}, ks.length = xs.length → ((ks.zip xs).any fun kv => decide (kv.1 = y)) = decide (y ∈ ks) := by
      intro ks
      induction ks with
      | nil => intro xs _; cases xs <;> rfl
      | cons k ks ih =>
        intro xs l
        cases xs with
        | nil => cases l
        | cons x xs =>
          rw [List.zip_cons_cons, List.any_cons, ih (Nat.succ.inj l)]
          show (decide (k = y) || decide (y ∈ ks)) = decide (y ∈ k :: ks)
          by_cases hk : k = y
          · rw [decide_eq_true hk, decide_eq_true (show y ∈ k :: ks by rw [hk]; exact List.mem_cons_self)]
            rfl
          · rw [decide_eq_false hk, Bool.false_or]
            refine decide_eq_decide.mpr ⟨fun h => List.mem_cons_of_mem _ h, fun h => ?_⟩
            rcases List.mem_cons.mp h with h | h
            · exact absurd h.symm hk
            · exact h
    have app : ∀ {ks : List κ} {ds : List D} {xs : List V}, Rs K U ds xs → ks.length = xs.length → y ∉ ks → Rs K U (gputD ks ds y e) (xs ++ [w]) := by
      intro ks
      induction ks with
      | nil =>
        intro ds xs r l _
        have : xs = [] := by cases xs with | nil => rfl | cons _ _ => cases l
        subst this
        have : ds = [] := by cases ds with | nil => rfl | cons d ds => obtain ⟨_, _, e, _⟩ := r; cases e
        subst this
        exact ⟨w, [], rfl, h, rfl⟩
      | cons k ks ih =>
        intro ds xs r l hc
        cases ds with
        | nil => rw [show xs = [] from r] at l; cases l
        | cons d ds =>
          obtain ⟨v, xs', e1, h1, h2⟩ := r
          subst e1
          have hk : ¬ k = y := fun z => hc (by rw [z]; exact List.mem_cons_self)
          unfold gputD
          rw [if_neg hk]
          exact ⟨v, xs' ++ [w], rfl, h1, ih h2 (Nat.succ.inj l) fun z => hc (List.mem_cons_of_mem _ z)⟩
    have mp : ∀ {ks : List κ} {ds : List D} {xs : List V}, Rs K U ds xs → ks.length = xs.length → ks.Nodup → y ∈ ks → ∃ xs', (ks.zip xs).map (fun kv => if kv.1 = y then (kv.1, w) else kv) = ks.zip xs' ∧ ks.length = xs'.length ∧ Rs K U (gputD ks ds y e) xs' := by
      intro ks
      induction ks with
      | nil => intro ds xs r l _ hc; cases hc
      | cons k ks ih =>
        intro ds xs r l nd hc
        obtain ⟨n1, n2⟩ := List.nodup_cons.mp nd
        cases ds with
        | nil => rw [show xs = [] from r] at l; cases l
        | cons d ds =>
          obtain ⟨v, xs', e1, h1, h2⟩ := r
          subst e1
          by_cases hk : k = y
          · subst hk
            refine ⟨w :: xs', ?_, l, ?_⟩
            · rw [List.zip_cons_cons, List.map_cons, if_pos rfl, List.zip_cons_cons]
              congr 1
              refine (List.map_congr_left fun kv hkv => ?_).trans (List.map_id _)
              have : kv.1 ≠ k := fun z => n1 (z ▸ (List.of_mem_zip (show (kv.1, kv.2) ∈ ks.zip xs' from hkv)).1)
              rw [if_neg this]
              rfl
            · unfold gputD
              rw [if_pos rfl]
              exact ⟨w, xs', rfl, h, h2⟩
          · have hc' : y ∈ ks := by
              rcases List.mem_cons.mp hc with z | z
              · exact absurd z.symm hk
              · exact z
            obtain ⟨zs, i1, i2, i3⟩ := ih h2 (Nat.succ.inj l) n2 hc'
            refine ⟨v :: zs, ?_, by rw [List.length_cons, List.length_cons, i2], ?_⟩
            · rw [List.zip_cons_cons, List.map_cons, if_neg hk, i1]
              rfl
            · unfold gputD
              rw [if_neg hk]
              exact ⟨v, zs, rfl, h1, i3⟩
    unfold putK gputK
    rw [any l]
    by_cases hc : y ∈ ks
    · rw [decide_eq_true hc, if_pos rfl, if_pos hc]
      obtain ⟨zs, i1, i2, i3⟩ := mp r l nd hc
      exact ⟨zs, i1, i2, i3⟩
    · rw [decide_eq_false hc, if_neg Bool.false_ne_true, if_neg hc]
      refine ⟨xs ++ [w], ?_, by rw [List.length_append, List.length_append, l]; rfl, app r l hc⟩
      rw [List.zip_append l]
      rfl
end
end
instance gDecT (y : List Key) (ks : List (List Key)) : Decidable (y ∈ ks) := gDecMem y ks
def keyT : List D → Option (List Key)
  | [] => some []
  | d :: ds => match keyD d, keyT ds with
    | some k, some r => some (k :: r)
    | _, _ => none
theorem keyT_vs {K : PySem.W.Frag} {U : Hp} : ∀ {ds : List D} {ks : List Key} {vs : List V}, keyT ds = some ks → Rs K U ds vs → vs = ks.map kV
  | [], ks, vs, h, r => by
    cases h
    exact r
  | d :: ds, ks, vs, h, ⟨v, r, e, h1, h2⟩ => by
    subst e
    unfold keyT at h
    cases ek : keyD d with
    | none => rw [ek] at h; cases h
    | some k =>
      rw [ek] at h
      cases er : keyT ds with
      | none => rw [er] at h; cases h
      | some ks' =>
        rw [er] at h
        cases h
        rw [keyD_r ek (.of h1 (H := U)), keyT_vs er h2]
        rfl
def dTQ (Q : List (List Key) → List D → Prop) : D → Prop
  | .dT ks ds => Q ks ds
  | _ => False
theorem dTQ_of {Q : List (List Key) → List D → Prop} {d : D} (h : dTQ Q d) : ∃ ks ds, d = .dT ks ds ∧ Q ks ds := by
  cases d <;> first | exact ⟨_, _, rfl, h⟩ | exact h.elim
section
variable {c : DC} {U H U' H' : Hp} {σ : L2.St} {ρ ρ' : Env} {ta tb : TE} {a b : AE} {tr : TA} {r : AL}
/-- the key is made -/
theorem key_new {ds : List D} {vs : List V} {k : List Key} {p : Addr} (ek : keyT ds = some k) (I : DI c U H σ ρ) (r : Rs c.K U ds vs) (np : H p = none) :
    ∃ U', Gr [] U H U' (upd H p (.tup vs)) ∧ DI c U' (upd H p (.tup vs)) σ ρ ∧ U' p = some (.tup (k.map kV)) := by
  have g : Gr [] U H (upd U p (.tup vs)) (upd H p (.tup vs)) := (Gr.refl I.vh).new np
  exact ⟨_, g, I.grow g, by rw [upd_same, keyT_vs ek r]⟩
def aDInT (neg : Bool) (r : AL) (b : AE) : AE := fun ρ Q X => r ρ (fun ds => ds.length ≤ 1000000 ∧ someQ (fun k => b ρ (dTQ fun ks _ => Q (.bl (if neg then !decide (k ∈ ks) else decide (k ∈ ks)))) X) (keyT ds)) X
def aDGetT (b : AE) (r : AL) : AE := fun ρ Q X => b ρ (dTQ fun ks es => r ρ (fun ds => ds.length ≤ 1000000 ∧ someQ (fun k => someQ Q (gval ks es k)) (keyT ds)) X) X
/-- d.get((..), x) -/
def aDGet2T (b : AE) (r : AL) (e : AE) : AE := fun ρ Q X => b ρ (dTQ fun ks es => r ρ (fun ds => ds.length ≤ 1000000 ∧ someQ (fun k => e ρ (fun x => Q ((gval ks es k).getD x)) X) (keyT ds)) X) X
theorem rs_lenT {K : PySem.W.Frag} {ks : List (List Key)} {ds : List D} {xs : List V} (r : Rs K U ds xs) (l : ks.length = xs.length) : ks.length = ds.length := by rw [r.len]; exact l
theorem sim_dNotInT (hr : SimL c tr r) (hb : SimW c tb b) : SimE c (tDNotIn (tTup tr) tb) (aDInT true r b) := fun U H σ ρ Q q I z k =>
  hr U H σ ρ _ _ I z fun U1 H1 ds vs g1 I1 r1 z1 => by
    obtain ⟨z1, z2⟩ := z1
    obtain ⟨y, ey, z3⟩ := someQ_of z2
    refine ⟨le_size (by rw [← r1.len]; exact z1), fun p np => ?_⟩
    obtain ⟨U2, g2, I2, hp⟩ := key_new ey I1 r1 np
    refine hb U2 _ σ ρ _ _ I2 z3 fun U3 H3 e w g3 I3 w3 z4 => ?_
    obtain ⟨ks, es, rfl, z5⟩ := dTQ_of z4
    obtain ⟨d, xs, rfl, h1, h2, h3⟩ := (w3.cr I3).dT I3.vh
    refine ⟨d, _, rfl, .t h1 (I3.vh _ _ (g3.vv _ _ hp)), k U3 H3 (.bl _) _ ((g1.trans g2.any).trans g3) I3 ?_ z5⟩
    show V.bl _ = V.bl _
    obtain ⟨i1, i2⟩ := gval_r (y := y) h3 h2
    rw [if_pos rfl, ← gval_has (rs_lenT h3 h2)]
    cases e : gval ks es y with
    | none => rw [i1 e]; rfl
    | some d => obtain ⟨w, e1, _⟩ := i2 d e; rw [e1]; rfl
theorem sim_dGetT (hb : SimW c tb b) (hr : SimL c tr r) : SimE c (tDGet tb (tTup tr)) (aDGetT b r) := fun U H σ ρ Q q I z k =>
  hb U H σ ρ _ _ I z fun U1 H1 d v g1 I1 w1 z1 => by
    obtain ⟨ks, es, rfl, z2⟩ := dTQ_of z1
    refine hr U1 H1 σ ρ _ _ I1 z2 fun U2 H2 ds vs g2 I2 r2 z3 => ?_
    obtain ⟨z3, z4⟩ := z3
    obtain ⟨y, ey, z5⟩ := someQ_of z4
    obtain ⟨d, ed, z6⟩ := someQ_of z5
    refine ⟨le_size (by rw [← r2.len]; exact z3), fun p np => ?_⟩
    obtain ⟨U3, g3, I3, hp⟩ := key_new ey I2 r2 np
    obtain ⟨a, xs, rfl, h1, h2, h3⟩ := (w1.mono (g2.vv.trans g3.vv) |>.cr I3).dT I3.vh
    obtain ⟨x, e1, r1⟩ := (gval_r (y := y) h3 h2).2 d ed
    exact ⟨a, x, rfl, by rw [← e1]; exact .t h1 (I3.vh _ _ hp), k U3 _ d x ((g1.trans g2).trans g3.any) I3 r1 z6⟩
/-- a dict of one's own is written: plain keys, tuples as keys -/
def okS (ρ : Env) (i : Nat) (Q : List Key → List D → Prop) : Prop := match ρ[i]? with
  | some (some (.ok ks ds)) => Q ks ds
  | _ => False
def otS (ρ : Env) (i : Nat) (Q : List (List Key) → List D → Prop) : Prop := match ρ[i]? with
  | some (some (.ot ks ds)) => Q ks ds
  | _ => False
def aDPutS (i : Nat) (ky e : AE) : AS := fun N ρ => e ρ (fun d => okS ρ i fun ks ds => ky ρ (fun y => someQ (fun kk => ks.length < 1000000 ∧ ks.Nodup ∧ N.nx (ρ.set i (some (.ok (dputK ks kk) (dputD ks ds kk d))))) (keyD y)) (fun x => N.ex x ρ)) (fun x => N.ex x ρ)
def aDPutT (i : Nat) (r : AL) (e : AE) : AS := fun N ρ => e ρ (fun d => otS ρ i fun ks es => r ρ (fun ds => ds.length ≤ 1000000 ∧ someQ (fun k => ks.length < 1000000 ∧ ks.Nodup ∧ N.nx (ρ.set i (some (.ot (gputK ks k) (gputD ks es k d))))) (keyT ds)) (fun x => N.ex x ρ)) (fun x => N.ex x ρ)
def aDNewT : AO := fun _ Q _ => Q (.ot [] [])
/-- len(d) -/
def oLenT : List D → (D → Prop) → Prop := fun ds Q => oneQ (dTQ fun ks _ => Q (.int ks.length)) ds
theorem bu_lenT {K : PySem.W.Frag} : BuD K rLenT oLenT := fun U H vs ds Q q s r z k => by
  obtain ⟨d, rfl, z0⟩ := oneQ_of z
  obtain ⟨ks, es, rfl, z1⟩ := dTQ_of z0
  obtain ⟨v, rfl, cd⟩ := paired1 r
  obtain ⟨p, us, rfl, h1, h2, h3⟩ := cd.dT s
  refine ⟨p, _, rfl, h1, ?_⟩
  rw [List.length_zip, ← h2, Nat.min_self]
  exact k U H (.int _) _ (Gr.refl s) rfl z1
def aCompT (g : AG) (rk : AL) (ev : AE) (ρ : Env) (X : Exn → Prop) : List D → List (List Key) → List D → (List (List Key) → List D → Prop) → Prop
  | [], ks, es, Q => Q ks es
  | d :: r, ks, es, Q => g d ρ (fun ρ2 => rk ρ2 (fun ds => ds.length ≤ 1000000 ∧ someQ (fun k => ev ρ2 (fun x => ks.length < 1000000 ∧ ks.Nodup ∧ aCompT g rk ev ρ X r (gputK ks k) (gputD ks es k x) Q) X) (keyT ds)) X)
def aDcT (it : AL) (g : AG) (rk : AL) (ev : AE) (vs : List Nat) : AO := fun ρ Q X => it ρ (fun ds => aCompT g rk ev (wipeA ρ vs) X ds [] [] (fun ks es => Q (.ot ks es))) X
theorem sim_dcT {js vs : List Nat} {wi : TI} {it : AL} {g : TG} {ag : AG} {tk : TA} {rk : AL} {tv : TE} {ev : AE} (hi : SimIW c wi it) (hg : SimG c js g ag) (hk : SimL c tk rk) (he : SimE c tv ev) (hj : (js.all fun j => vs.contains j) = true) (hv : (vs.all fun i => noPar c i) = true) :
    SimO c (tDcT wi g tYes (tTup tk) tv vs) (aDcT it ag rk ev vs) := fun U H σ ρ Q q I z k =>
  hi U H σ ρ _ _ I z fun U1 H1 J ds g1 I1 W z1 => by
  obtain ⟨Y, w, hY⟩ := W
  intro Da nD
  have nD0 : H Da = none := g1.fresh nD
  have nDo : Da ∉ owns ρ σ := fun h => I1.ex Da h nD
  have nDd : Da ∉ drs ρ σ := fun h => nDo (drs_sub Da h)
  have nDH : c.H0 Da = none := I1.gr.fresh nD
  have hjs : ∀ j ∈ js, j ∈ vs := fun j hj' => List.contains_iff_mem.mp (List.all_eq_true.mp hj j hj')
  refine ⟨fun n m H' => m = ds.length - n ∧ n ≤ ds.length ∧ ∃ U' ks xs es, Gr (drs ρ σ) U1 H1 U' H' ∧ DI c U' H' σ ρ ∧ H' Da = some (.dT (ks.zip xs)) ∧ ks.length = xs.length ∧ U' Da = none ∧ Rs c.K U' es xs ∧ aCompT ag rk ev (wipeA ρ vs) (c.x ρ) (ds.drop n) ks es (fun ks es => Q (.ot ks es)), ⟨ds.length, by simp, Nat.zero_le _, ?_⟩, ?_⟩
  · have g2 : Gr [] U1 H1 U1 (upd H1 Da (.dT [])) := (Gr.refl I1.vh).newM nD
    exact ⟨U1, [], [], [], g2.any, I1.grow g2, upd_same, rfl, I1.vh.free nD, rfl, z1⟩
  · rintro n m H' ⟨rfl, hn, U', ks, xs, es, gg, I', hD, hl, uD, hr, z2⟩
    by_cases lt : n < ds.length
    · have ed : ds[n]? = some ds[n] := List.getElem?_eq_getElem lt
      rw [drop_at ed] at z2
      refine .inr ⟨w.goes n H' lt ⟨U', gg⟩, fun H'' => n + 1 ≤ ds.length ∧ ∃ U' ks xs es, Gr (drs ρ σ) U1 H1 U' H'' ∧ DI c U' H'' σ ρ ∧ H'' Da = some (.dT (ks.zip xs)) ∧ ks.length = xs.length ∧ U' Da = none ∧ Rs c.K U' es xs ∧ aCompT ag rk ev (wipeA ρ vs) (c.x ρ) (ds.drop (n + 1)) ks es (fun ks es => Q (.ot ks es)), fun H'' p => ⟨ds.length - (n + 1), by omega, rfl, p⟩, fun x H'' y => ?_⟩
      obtain ⟨U3, g3, r3⟩ := hY n H' x H'' _ U' gg.vv I'.vh (w.yields n H' x H'' lt ⟨U', gg⟩ y) ed
      have I3 := I'.grow g3
      obtain ⟨Iw, hdr, hxw⟩ := I3.wipe hv
      refine hg U3 H'' _ _ _ x _ _ Iw r3 z2 fun σ2 ρ2 I2 p2 z3 => ⟨wipe_put p2 hjs, ?_⟩
      have dr2 : ∀ p ∈ drs ρ2 σ2, p ∈ drs ρ σ := fun p hp => hdr p (p2.dr p hp)
      have hx2 : c.x ρ2 = c.x ρ := (p2.ex hv hjs).trans hxw
      rw [← hx2] at z3
      have uD3 : U3 Da = none := g3.fr Da uD (by rw [hD]; intro z; cases z)
      have hD3 := g3.hh _ _ (by simp) (ntb rfl) hD
      have n5 : Da ∉ drs ρ2 σ2 := fun h => nDd (dr2 Da h)
      unfold tYes
      simp only [if_true]
      refine hk U3 H'' σ2 ρ2 _ _ I2 z3 fun U4 H4 kd kv g4 I4 r4 z4 => ?_
      obtain ⟨z4, z5⟩ := z4
      obtain ⟨y, ey, z6⟩ := someQ_of z5
      have I4o := I3.step g4 fun p hp => ⟨dr2 p hp, drs_dr I4.rep p hp⟩
      have hD4 := g4.hh _ _ n5 (ntb rfl) hD3
      have uD4 : U4 Da = none := g4.fr Da uD3 (by rw [hD3]; intro z; cases z)
      refine ⟨le_size (by rw [← r4.len]; exact z4), fun t nt => ?_⟩
      obtain ⟨U5, g5, I5, ht⟩ := key_new ey I4 r4 nt
      have I5o := I4o.grow g5
      have hD5 := g5.hh _ _ (by simp) (ntb rfl) hD4
      have uD5 : U5 Da = none := g5.fr Da uD4 (by rw [hD4]; intro z; cases z)
      refine he U5 _ σ2 ρ2 _ _ I5 z6 fun U6 H6 d v g6 I6 r6 z7 => ?_
      obtain ⟨z7, z8, z9⟩ := z7
      have I6o := I5o.step g6 fun p hp => ⟨dr2 p hp, drs_dr I6.rep p hp⟩
      have hD6 := g6.hh _ _ n5 (ntb rfl) hD5
      have uD6 : U6 Da = none := g6.fr Da uD5 (by rw [hD5]; intro z; cases z)
      have hr6 := Rs.mono (((g3.vv.trans g4.vv).trans g5.vv).trans g6.vv) _ _ hr
      have gg6 : Gr (drs ρ σ) U1 H1 U6 H6 := (((gg.trans g3.any).trans (g4.weak dr2)).trans g5.any).trans (g6.weak dr2)
      obtain ⟨zs, j1, j2, j3⟩ := gput_r (y := y) hr6 hl z8 r6
      have ht6 : H6 t = some (.tup (y.map kV)) := I6.vh _ _ (g6.vv _ _ ht)
      refine ⟨_, y, t, rfl, ht6, hD6, lt_size (by rw [List.length_zip, ← hl, Nat.min_self]; exact z7), lt, U6, gputK ks y, zs, gputD ks es y d, gg6.mut uD6 (.inr nD) (.of hD6 rfl), I6o.mutFree uD6 nDH nDo (.of hD6 rfl), by rw [upd_same, j1], j2, uD6, j3, by rw [← hx2]; exact z9⟩
    · have e : n = ds.length := by omega
      subst e
      rw [List.drop_length] at z2
      exact .inl ⟨w.stops H' ⟨U', gg⟩, k U' H' (.ot ks es) (.ref Da) (g1.trans gg) I' ⟨Da, xs, rfl, hD, hl, hr⟩ (.one rfl uD nD0) z2⟩
end
theorem coldAt0 {X : Cx} {E : L2.St → XK} (σ : L2.St) : PassesAt CX0 X σ (E σ) := fun _ _ _ _ _ _ c => c.elim
section
variable {c : DC} {tr : TA} {r : AL}
def aMkA (C : Addr) (A : AFM) (r : AL) : AO := fun ρ Q X => r ρ (fun ds => mkQ C A Q X (ds.map .fz)) X
def aMkA0 (C : Addr) (A : AFM) (r : AL) : AO := fun ρ Q X => r ρ (fun ds => mkQ C A Q (fun _ => False) (ds.map .fz)) X
theorem sim_mkA0 {C : Addr} {A : AFM} {E : L2.St → XK} (hr : SimL c tr r) : SimO c (tMkS C (spM c.K c.tb A) [] E tr) (aMkA0 C A r) := fun U H σ ρ Q q I z k =>
  hr U H σ ρ _ _ I z fun U1 H1 ds vs g1 I1 r1 z1 => fun x dx nx nd ne => by
    rw [List.append_nil]
    refine run_mk I1 (rs_paired r1) (fun a ha => ?_) z1 (fun U3 H3 av v g3 I3 r3 n3 z4 => k U3 H3 av v (g1.trans g3) I3 r3 (n3.back fun _ h => g1.fresh h) z4) (fun _ _ _ _ _ _ _ z => z.elim) nx nd ne
    obtain ⟨d, _, rfl⟩ := List.mem_map.mp ha
    exact ⟨d, rfl⟩
end
section
variable {ρ : Env} {nx : Env → Prop} {rt : AV → Env → Prop} {bk ct : Env → Prop} {ex : Exn → Env → Prop} {i : Nat} {a b e : AE} {r rk : AL} {Q : D → Prop} {O : AV → Prop} {XE : Exn → Prop} {ks : List (List Key)} {es : List D} {it : AL} {g : AG} {vs : List Nat} {C : Addr} {A : AFM}
theorem w_dInTF (q : r ρ (fun ds => ds.length ≤ 1000000 ∧ someQ (fun k => b ρ (dTQ fun ks _ => Q (.bl (decide (k ∈ ks)))) XE) (keyT ds)) XE) : aDInT false r b ρ Q XE := q
theorem w_dInTT (q : r ρ (fun ds => ds.length ≤ 1000000 ∧ someQ (fun k => b ρ (dTQ fun ks _ => Q (.bl (!decide (k ∈ ks)))) XE) (keyT ds)) XE) : aDInT true r b ρ Q XE := q
theorem w_dGetT (q : b ρ (dTQ fun ks es => r ρ (fun ds => ds.length ≤ 1000000 ∧ someQ (fun k => someQ Q (gval ks es k)) (keyT ds)) XE) XE) : aDGetT b r ρ Q XE := q
theorem w_dGet2T (q : b ρ (dTQ fun ks es => r ρ (fun ds => ds.length ≤ 1000000 ∧ someQ (fun k => e ρ (fun x => Q ((gval ks es k).getD x)) XE) (keyT ds)) XE) XE) : aDGet2T b r e ρ Q XE := q
theorem w_dTQ {P : List (List Key) → List D → Prop} (q : P ks es) : dTQ P (.dT ks es) := q
theorem w_dPutS (q : e ρ (fun d => okS ρ i fun ks ds => a ρ (fun y => someQ (fun kk => ks.length < 1000000 ∧ ks.Nodup ∧ nx (ρ.set i (some (.ok (dputK ks kk) (dputD ks ds kk d))))) (keyD y)) (fun x => ex x ρ)) (fun x => ex x ρ)) : aDPutS i a e ⟨nx, rt, bk, ct, ex⟩ ρ := q
theorem w_okS {P : List Key → List D → Prop} {ks : List Key} {ds : List D} (h : ρ[i]? = some (some (.ok ks ds))) (q : P ks ds) : okS ρ i P := by unfold okS; rw [h]; exact q
theorem w_dPutT (q : e ρ (fun d => otS ρ i fun ks es => r ρ (fun ds => ds.length ≤ 1000000 ∧ someQ (fun k => ks.length < 1000000 ∧ ks.Nodup ∧ nx (ρ.set i (some (.ot (gputK ks k) (gputD ks es k d))))) (keyT ds)) (fun x => ex x ρ)) (fun x => ex x ρ)) : aDPutT i r e ⟨nx, rt, bk, ct, ex⟩ ρ := q
theorem w_otS {P : List (List Key) → List D → Prop} (h : ρ[i]? = some (some (.ot ks es))) (q : P ks es) : otS ρ i P := by unfold otS; rw [h]; exact q
theorem w_dNew (q : O (.ok [] [])) : aDNew ρ O XE := q
theorem w_dNewT (q : O (.ot [] [])) : aDNewT ρ O XE := q
theorem w_lenTD (q : Q (.int ks.length)) : oLenT [.dT ks es] Q := q
theorem w_dcT (q : it ρ (fun ds => aCompT g rk e (wipeA ρ vs) XE ds [] [] (fun ks es => O (.ot ks es))) XE) : aDcT it g rk e vs ρ O XE := q
theorem w_mkA0 (q : r ρ (fun ds => mkQ C A O (fun _ => False) (ds.map .fz)) XE) : aMkA0 C A r ρ O XE := q
theorem w_mkA (q : r ρ (fun ds => mkQ C A O XE (ds.map .fz)) XE) : aMkA C A r ρ O XE := q
theorem w_try {K : PySem.W.Frag} {z : Bool} {mask : List Bool} {hs : List AHnd} {body : AS} {N : AEnds} (h1 : allSome (selM mask ρ) = true) (h2 : flatM mask ρ = true) (q : body ⟨N.nx, N.rt, N.bk, N.ct, fun x ρ' => handleA K z N x (fillM mask (selM mask ρ') ρ.length) hs⟩ ρ) : aTry K z mask hs body N ρ := ⟨h1, h2, q⟩
end
end SW
namespace SW
open PySem PySem.Spec PyProof.Rows L2 SWS
variable [QN]
def spX1 (K : PySem.W.Frag) (f : Str) : Sp := fun vs H Q _ => ∃ (a C : Addr) (y : V), vs = [.ref a, y] ∧ OexC K C ∧ PySem.W.findIn K (.ref C) f = some none ∧ H a = some (exo a C none) ∧ ∀ dx, H dx = none → dx ≠ a → Q .non (upd (upd H dx (exd dx [(f, y)])) a (exo a C (some dx)))
theorem run_x1 {K : PySem.W.Frag} {f : Str} {vs : List V} {H : Hp} {Q : VK} {E : XK} (h : spX1 K f vs H Q E) : tOst K f (tVar 0) (tVar 1) { nx := fun _ H' => Q .non H', rt := Q } (vs.map some) H := by
  obtain ⟨a, C, y, rfl, T, hn, ha, q⟩ := h
  exact ⟨y, rfl, .ref a, rfl, a, C, rfl, T, hn, .inl ⟨ha, fun dx n ne => q dx n ne⟩⟩
def tRaiseX (W : WX) (C : Addr) (sp : Sp) (ta : TA) : TS := fun _ σ H => tMkO C sp [] ta σ H fun cls d H' => W cls d σ H'
theorem ps_raiseX {X : Cx} {W : WX} {C : Addr} {sp : Sp} {ta : TA} {e : Expr} {pos : Pos} (hc : X.calm = true) (tk : Takes X W) (he : PMk X e (tMkO C sp [] ta)) : PS X (.Raise (some e) none pos) (tRaiseX W C sp ta) := ps_raise hc tk he
def aRaiseX1 (C : Addr) (f : Str) (r : AL) : AS := fun N ρ => r ρ (oneQ fun d => N.ex ⟨C, [f], [d]⟩ ρ) (fun x => N.ex x ρ)
def aRaiseX2 (C : Addr) (f g : Str) (r : AL) : AS := fun N ρ => r ρ (twoQ fun d e => N.ex ⟨C, [g, f], [e, d]⟩ ρ) (fun x => N.ex x ρ)
section
variable {c : DC} {U H : Hp} {σ : L2.St} {ρ : Env} {ta : TA} {r : AL} {C : Addr} {f g : Str} {W : WX}
theorem sim_raiseX1 (T : OexC c.K C) (hf : PySem.W.findIn c.K (.ref C) f = some none) (hW : ∀ cls d σ H, c.E σ cls d H → W cls d σ H) (hr : SimL c ta r) : SimS c (tRaiseX W C (spX1 c.K f) ta) (aRaiseX1 C f r) := fun U H σ ρ N n hx I z P => by
  unfold aRaiseX1 at z
  rw [hx] at z
  refine hr U H σ ρ _ _ I z fun U1 H1 ds vs g1 I1 r1 z1 => ?_
  obtain ⟨d, rfl, z2⟩ := oneQ_of z1
  obtain ⟨v, vs', rfl, rd, e0⟩ := r1
  obtain rfl : vs' = [] := e0
  refine ⟨Nat.le_of_ble_eq_true rfl, fun a na => ⟨a, C, v, rfl, T, hf, upd_same, fun dx n ne => ⟨rfl, dx, [(f, v)], upd_same, by rw [upd_ne ne, upd_same], ?_, ?_⟩⟩⟩
  · rw [upd_ne ne] at n
    exact n
  · rw [upd_ne ne] at n
    have e : upd (del (upd (upd (upd H1 a (exo a C none)) dx (exd dx [(f, v)])) a (exo a C (some dx))) a) dx (.xd [(f, v)]) = upd H1 dx (.xd [(f, v)]) := by
      funext b
      by_cases h1 : b = dx
      · rw [h1, upd_same, upd_same]
      · rw [upd_ne h1, upd_ne h1]
        by_cases h2 : b = a
        · rw [h2, del_same, na]
        · rw [del_ne h2, upd_ne h2, upd_ne h1, upd_ne h2]
    rw [e]
    have gg : Gr [] U1 H1 (upd U1 dx (.xd [(f, v)])) (upd H1 dx (.xd [(f, v)])) := (Gr.refl I1.vh).new n
    exact hW _ _ _ _ ((I1.grow gg).raise (x := ⟨C, [f], [d]⟩) ⟨rfl, .inr ⟨dx, [v], rfl, upd_same, rfl, v, [], rfl, R.mono gg.vv d v rd, rfl⟩⟩ z2)
end
section
variable {ρ : Env} {N : AEnds} {C : Addr} {f g : Str} {r : AL}
theorem w_raiseX1 (q : r ρ (oneQ fun d => N.ex ⟨C, [f], [d]⟩ ρ) (fun x => N.ex x ρ)) : aRaiseX1 C f r N ρ := q
theorem w_raiseX2 (q : r ρ (twoQ fun d e => N.ex ⟨C, [g, f], [e, d]⟩ ρ) (fun x => N.ex x ρ)) : aRaiseX2 C f g r N ρ := q
end
section
variable {c : DC} {ρ : Env} {i : Nat}
def aClr (i : Nat) : AS := fun N ρ => olQ ρ i fun _ => N.nx (ρ.set i (some (.ol [])))
theorem w_clr {ds : List D} {nx bk ct : Env → Prop} {rt : AV → Env → Prop} {ex : Exn → Env → Prop} (h : ρ[i]? = some (some (.ol ds))) (q : nx (ρ.set i (some (.ol [])))) : aClr i ⟨nx, rt, bk, ct, ex⟩ ρ := by
  unfold aClr olQ
  rw [h]
  exact q
end
section
variable {c : DC} {ρ : Env}
def aMe (C : Addr) (m : Str) (A : AF) (a : AE) (r : AA) : AO := fun ρ Q X => a ρ (objQ C m fun d => r ρ (fun as => callQ A ρ Q X (.val d :: as)) X) X
theorem sim_me {C : Addr} {m : Str} {A : AF} {ta : TE} {a : AE} {tr : TA} {r : AA} {E : L2.St → XK} (hE : ∀ σ, E σ = c.E σ) (ha : SimE c ta a) (hr : SimA c tr r) : SimO c (tMeS C m (spD c.K c.tb A) [] E ta tr) (aMe C m A a r) := fun U H σ ρ Q q I z k =>
  ha U H σ ρ _ _ I z fun U1 H1 d v g1 I1 r1 z1 => by
    obtain ⟨ns, ds, rfl, nm, z2⟩ := objQ_of z1
    obtain ⟨p, dx, xs, rfl, hp, hl, hrs⟩ := r1
    refine ⟨p, dx, _, rfl, I1.vh _ _ hp, lookup_none nm, hr U1 H1 σ ρ _ _ I1 z2 fun U2 H2 as vs g2 I2 r2 z3 => ?_⟩
    rw [List.append_nil]
    have r1' : R c.K U2 (.obj C ns ds) (.ref p) := R.mono g2.vv _ _ ⟨p, dx, xs, rfl, hp, hl, hrs⟩
    exact run_spD I2 (as := .val (.obj C ns ds) :: as) (vs := .ref p :: vs) (.cons r1' r2) z3 (fun U3 H3 av v g3 I3 r3 n3 z4 => k U3 H3 av v ((g1.trans g2).trans g3) I3 r3 (n3.back fun _ h => (g1.trans g2).fresh h) z4) (fun U3 H3 x cls o I3 xr z => by rw [hE]; exact I3.raise xr z)
theorem w_me {C : Addr} {m : Str} {A : AF} {a : AE} {r : AA} {O : AV → Prop} {X : Exn → Prop} (q : a ρ (objQ C m fun d => r ρ (fun as => callQ A ρ O X (.val d :: as)) X) X) : aMe C m A a r ρ O X := q
end
theorem sim_meS0 {c : DC} {C : Addr} {m : Str} {A : AF} {ta : TE} {a : AE} {tr : TA} {r : AA} {E : L2.St → XK} (ha : SimE c ta a) (hr : SimA c tr r) : SimO c (tMeS C m (spD c.K c.tb A) [] E ta tr) (aMe0 C m A a r) := fun U H σ ρ Q q I z k =>
  ha U H σ ρ _ _ I z fun U1 H1 d v g1 I1 r1 z1 => by
    obtain ⟨ns, ds, rfl, nm, z2⟩ := objQ_of z1
    obtain ⟨p, dx, xs, rfl, hp, hl, hrs⟩ := r1
    refine ⟨p, dx, _, rfl, I1.vh _ _ hp, lookup_none nm, hr U1 H1 σ ρ _ _ I1 z2 fun U2 H2 as vs g2 I2 r2 z3 => ?_⟩
    rw [List.append_nil]
    have r1' : R c.K U2 (.obj C ns ds) (.ref p) := R.mono g2.vv _ _ ⟨p, dx, xs, rfl, hp, hl, hrs⟩
    exact run_spD (X := fun _ => False) I2 (as := .val (.obj C ns ds) :: as) (vs := .ref p :: vs) (.cons r1' r2) z3 (fun U3 H3 av v g3 I3 r3 n3 z4 => k U3 H3 av v ((g1.trans g2).trans g3) I3 r3 (n3.back fun _ h => (g1.trans g2).fresh h) z4) (fun _ _ _ _ _ _ _ z => z.elim)
theorem w_xf {a C1 C2 C : Addr} {o : Option Addr} {f : Str} {i : Nat} {ρ : Env} {Q : D → Prop} {X : Exn → Prop} {ns : List Str} {ds : List D} {y : D} (h1 : ρ[i]? = some (some (.fz (.exn a C2 o ns ds)))) (hD : C1 = C) (h2 : lookD f ns ds = some y) (q : Q y) : aXF a C1 o C f (aVar i) ρ Q X := by
  unfold aXF aVar
  rw [h1]
  refine ⟨rfl, rfl, hD, ?_⟩
  rw [h2]
  exact q
theorem w_endsN {i : Option Nat} {N : AEnds} {ρ : Env} (q : N.nx (goneE i ρ)) : (endsE i N).nx ρ := q
end SW
namespace SW
open PySem PySem.Spec PyProof.Rows L2 SWS
end SW
namespace SW
open PySem PySem.Spec PyProof.Rows L2 SWS
end SW
namespace SW
open PySem PySem.Spec PyProof.Rows L2 SWS
end SW
namespace SW
open PySem PySem.Spec PyProof.Rows L2 SWS
variable [QN]
theorem units66 {k : Nat} {A : Around} (r : Room k A) : A.units + 66 < cLine := by have := r.un; omega
end SW
namespace SW
open PySem PySem.Spec PyProof.Rows L2 SWS
variable [QN]
section
variable {c : DC} {U H : Hp} {σ : L2.St} {ρ : Env}
def lenAV (Q : D → Prop) : AV → Prop
  | .fz (.int n) => (0 ≤ n ∧ n < 2 ^ 63) ∧ Q (.int n)
  | _ => False
end
end SW
namespace SW
open PySem PySem.Spec PyProof.Rows L2 SWS
end SW
namespace SW
open PySem PySem.Spec PyProof.Rows L2 SWS
end SW
namespace SW
open PySem PySem.Spec PyProof.Rows L2 SWS
variable [QN]
def kTD (k : List Key) : D := .tup (k.map kD)
def leT (a b : List Key) : Bool := leD (kTD a) (kTD b)
def rSortT : List V → Hp → VK → Prop := fun vs H Q => ∃ (a : Addr) (kvs : List (List Key × V)), vs = [V.ref a] ∧ H a = some (.dT kvs) ∧ okDs 8 (kvs.map fun p => kTD p.1) = true ∧ alikeD (kvs.map fun p => kTD p.1) = true ∧ sortableD (kvs.map fun p => kTD p.1) = true ∧
  ∀ (p : Addr) (L : List (Addr × List Key)), H p = none → (∀ x ∈ L, H x.1 = some (.tup (x.2.map kV))) → L.map (·.2) = (kvs.map (·.1)).mergeSort leT → Q (.ref p) (upd H p (.lst (L.map fun x => V.ref x.1)))
theorem readsAll_flat {h : Heap} : ∀ {ks : List Key} {us : List Value} {as : List Addr}, ReadsAll h us (toPys (ks.map kD)) as → as = []
  | [], us, as, r => by
    cases r
    rfl
  | .inl n :: ks, us, as, r => by
    cases r with
    | cons h1 h2 =>
      have e := readsAll_flat (ks := ks) h2
      subst e
      have h1' : Reads h _ (PyData.int n) _ := h1
      cases h1'
      rfl
  | .inr x :: ks, us, as, r => by
    cases r with
    | cons h1 h2 =>
      have e := readsAll_flat (ks := ks) h2
      subst e
      have h1' : Reads h _ (PyData.str x) _ := h1
      cases h1'
      rfl
theorem reads_key {h : Heap} {k : List Key} {v : Value} {as : List Addr} (r : Reads h v (toPy (kTD k)) as) : as = [] := by
  have r' : Reads h v (PyData.tuple (toPys (k.map kD))) as := r
  cases r' with
  | tuple h1 h2 h3 h4 => exact readsAll_flat h4
theorem rs_key {K : PySem.W.Frag} {U : Hp} : ∀ k : List Key, Rs K U (k.map kD) (k.map kV)
  | [] => rfl
  | .inl n :: k => ⟨_, _, rfl, rfl, rs_key k⟩
  | .inr x :: k => ⟨_, _, rfl, rfl, rs_key k⟩
theorem each_push : ∀ {us : List Value} {ps : List (Addr × List Key)}, PySem.W.EachIs (fun (v : Value) (b : Addr × List Key) => v = .ref b.1) us ps → PySem.W.EachIs (fun (v : Value) (b : Addr × D) => v = .ref b.1) us (ps.map fun x => (x.1, kTD x.2))
  | _, _, .nil => .nil
  | _, _, .cons h t => .cons h (each_push t)
theorem each_refs {β : Type} : ∀ {us : List Value} {l : List (Addr × β)}, PySem.W.EachIs (fun (v : Value) (b : Addr × β) => v = .ref b.1) us l → Vals (l.map fun x => V.ref x.1) us
  | _, _, .nil => .nil
  | _, _, .cons h t => .cons h (each_refs t)
theorem okDs_mem {n : Nat} : ∀ {ds : List D} {d : D}, okDs n ds = true → d ∈ ds → okD n d = true
  | e :: ds, d, h, hd => by
    unfold okDs at h
    rw [Bool.and_eq_true] at h
    rcases List.mem_cons.mp hd with rfl | hd
    · exact h.1
    · exact okDs_mem h.2 hd
theorem cr_sortT {X : Cx} (hc : X.calm = true) (hu : X.A.units + 65 < cLine) : CallR X (.builtin "sorted") rSortT := by
  intro pins s σ H vs us Q I r h
  obtain ⟨a, kvs, rfl, ha, ok, al, so, q⟩ := h
  rw [Vals.ref1 r]
  obtain ⟨z, hs, ks, pr, o, es, ep, ho, hx, hdt, he, hn⟩ := (show ObjOk X.prog X.w H s.heap a (.dT kvs) from I.hok a _ ha)
  have l1 : es.size = ks.length := size_of_entries he
  have l2 : kvs.length = ks.length := Paired.length pr
  have kt : IsKeys H kvs (ks.map fun x => x.2.1) := isKeys_of pr
  have kf : kvs.map (·.1) = ks.map (·.1) := by
    clear q ok al so ha z hs hn he l1 l2 kt
    induction pr with
    | nil => rfl
    | cons h t ih => rw [List.map_cons, List.map_cons, ih, h.1]
  refine Calls.call_function_entry kind_sorted plain_sorted entry_sorted (args_sorted1 _) ?_
  unfold Builtin.«sorted»
  refine wpAny_bind (m := checkCount "sorted" 1 1 _) (wpAny_pure ?_)
  refine wpAny_bind (PySem.W.kdu_collect (A := X.A.in1) (kdl_raw hs hx hdt) (I.ok.hd hc) ho (by omega) fun h' tk acc hk hacc => ?_)
  have hl : acc.toList.length = ks.length := by rw [Array.length_toList, hacc.1]; exact l1
  have ea : acc.toList = ks.map fun x => Value.ref x.2.1 := by
    apply List.ext_getElem?
    intro j
    rw [List.getElem?_map]
    cases hj : acc.toList[j]? with
    | none =>
      have h1 := List.getElem?_eq_none_iff.mp hj
      rw [List.getElem?_eq_none (by omega)]
      all_goals rfl
    | some v =>
      obtain ⟨en, hen, hv⟩ := hacc.2 j v (by rw [← Array.getElem?_toList]; exact hj)
      have qe := entry_at he j
      rw [hen] at qe
      cases hb : ks[j]? with
      | none =>
        rw [hb] at qe
        exact nomatch (show some en = none from qe)
      | some b =>
        rw [hb] at qe
        have e2 : en = entryOfKey (tupleKind (mixKind X.prog X.w)) b := Option.some.inj qe
        rw [hv, e2]
        all_goals rfl
  refine wpAny_bind (wpAny_newList ?_ (by rw [hl]; omega))
  have hoL : (h'.push (seqObj "list" acc.toList.toArray 0)).get? h'.objs.size = some (seqObj "list" acc.toList.toArray 0) := Heap.get?_push_size _ rfl
  generalize hps : ks.map (fun x => (x.2.1, x.1)) = ps
  have pl : ps.length = ks.length := by rw [← hps, List.length_map]
  have pm : ∀ x ∈ ps, H x.1 = some (.tup (x.2.map kV)) := fun x hx => by
    rw [← hps] at hx
    obtain ⟨y, hy, rfl⟩ := List.mem_map.mp hx
    obtain ⟨j, hj⟩ := List.mem_iff_getElem?.mp hy
    obtain ⟨p, hp1, hp2⟩ := Paired.at pr j y hj
    show H y.2.1 = some (.tup (y.1.map kV))
    rw [← hp2.1]
    exact hp2.2.1
  have ps2 : ps.map (·.2) = kvs.map (·.1) := by rw [kf, ← hps, List.map_map]; rfl
  have er0 : PySem.W.EachIs (fun (v : Value) (b : Addr × List Key) => v = .ref b.1) acc.toList ps := by
    rw [ea, ← hps]
    clear ea hl hacc hoL pm ps2 hps pl kf kt l1 l2 he hn hdt hx pr q
    induction ks with
    | nil => exact .nil
    | cons x ks ih => exact .cons rfl ih
  have inK : ∀ x ∈ ps, kTD x.2 ∈ kvs.map fun p => kTD p.1 := fun x hx => by
    have : x.2 ∈ kvs.map (·.1) := by rw [← ps2]; exact List.mem_map.mpr ⟨x, hx, rfl⟩
    obtain ⟨p, hp, e⟩ := List.mem_map.mp this
    exact List.mem_map.mpr ⟨p, hp, by rw [e]⟩
  generalize hbs : ps.map (fun x => (x.1, kTD x.2)) = bs
  have inB : ∀ x ∈ bs, x.2 ∈ kvs.map fun p => kTD p.1 := fun x hx => by
    rw [← hbs] at hx
    obtain ⟨y, hy, rfl⟩ := List.mem_map.mp hx
    exact inK y hy
  have bl : bs.length = ks.length := by rw [← hbs, List.length_map, pl]
  have eR : PySem.W.EachIs (fun (v : Value) (b : Addr × D) => v = .ref b.1) acc.toList bs := by
    rw [← hbs]
    exact each_push er0
  have er : PySem.W.EachIs (fun (v : Value) (b : Addr × D) => ∃ as, Reads (h'.push (seqObj "list" acc.toList.toArray 0)) v (toPy b.2) as ∧ h'.objs.size ∉ as) acc.toList bs := by
    refine (PySem.W.each_mem eR).mono fun v b ⟨hv, hb⟩ => ?_
    subst hv
    rw [← hbs] at hb
    obtain ⟨y, hy, rfl⟩ := List.mem_map.mp hb
    have hR : R X.K H (kTD y.2) (.ref y.1) := ⟨y.1, y.2.map kV, rfl, SqT.of (pm y hy), rs_key y.2⟩
    have dp := cr_dp (Same.refl H) (.of hR) (okDs_mem ok (inK y hy))
    obtain ⟨as, rd⟩ := Dp.reads I _ _ _ dp (show RelV (.ref y.1) (Value.ref y.1) from rfl)
    have e : as = [] := reads_key rd
    subst e
    exact ⟨[], PyProof.Rows.Reads.keeps (fun b o e => Heap.get?_push_of_some _ (hk b o e)) rd, by simp⟩
  refine wpAny_bind (wpAny_holding (PySem.W.list_sort_data (enc := fun x : Addr × D => toPy x.2) (R := fun (v : Value) (b : Addr × D) => v = .ref b.1) hoL eR er (alikeD_all al inB) (sortable_all so inB) (by rw [bl]; omega) (fun b hb => ?_) fun out lo eo => ?_))
  · have := okDs_depth ok b.2 (inB b hb)
    have u1 : X.A.in1.units = X.A.units + 1 := rfl
    dsimp only
    omega
  have es1 : bs.mergeSort (PySem.W.dataLe false fun x : Addr × D => toPy x.2) = (ps.mergeSort fun a b => leT a.2 b.2).map fun x => (x.1, kTD x.2) := by
    rw [← hbs]
    exact (PySem.W.sort_maps (r := fun a b : Addr × List Key => leT a.2 b.2) (s := PySem.W.dataLe false fun x : Addr × D => toPy x.2) (fun x : Addr × List Key => (x.1, kTD x.2)) fun a _ b _ => rfl).symm
  have es2 : (ps.mergeSort fun a b => leT a.2 b.2).map (·.2) = (kvs.map (·.1)).mergeSort leT := by
    rw [← ps2]
    exact PySem.W.sort_maps (r := fun a b : Addr × List Key => leT a.2 b.2) (s := leT) (fun x : Addr × List Key => x.2) fun a _ b _ => rfl
  rw [es1] at eo
  generalize hL : (ps.mergeSort fun a b => leT a.2 b.2) = L at eo es2
  have Lm : ∀ x ∈ L, H x.1 = some (.tup (x.2.map kV)) := fun x hx => pm x (by rw [← hL] at hx; exact List.mem_mergeSort.mp hx)
  have Ll : L.length = ks.length := by rw [← hL, List.length_mergeSort]; exact pl
  have hfr : s.heap.get? h'.objs.size = none := by
    cases e : s.heap.get? h'.objs.size with
    | none => rfl
    | some o => exact absurd (Heap.lt_size (hk _ _ e)) (Nat.lt_irrefl _)
  have hHn : H h'.objs.size = none := (I.hok.kept hk).fresh (Nat.le_refl _)
  obtain ⟨ep2, he'⟩ := sortedHeap_at (vs := acc.toList) (out := out.toArray) hoL
  have hlen : (L.map fun x => V.ref x.1).length ≤ sizeLine := by
    rw [List.length_map, Ll, ← l2]
    exact z
  have ev : Vals (L.map fun x => V.ref x.1) out := by
    have := each_refs eo
    rw [List.map_map] at this
    exact this
  refine wpAny_pure ⟨_, rfl, ?_⟩
  refine ⟨.ref _, upd H h'.objs.size (.lst (L.map fun x => V.ref x.1)), I.laidN (t' := tk) (fun b u e => ?_) hfr hHn ⟨hlen, out, ep2, ev, he'⟩, rfl, q _ L hHn Lm es2⟩
  have e' := hk b u e
  have hb : b < h'.objs.size := Heap.lt_size e'
  rw [sortedHeap_old (Nat.ne_of_lt hb) (by rw [Heap.size_push]; exact Nat.lt_succ_of_lt hb)]
  exact Heap.get?_push_of_some _ e'
end SW
namespace SW
open PySem PySem.Spec PyProof.Rows L2 SWS
variable [QN]
section
variable {c : DC} {U H : Hp} {σ : L2.St} {ρ : Env}
def SimGH (c : DC) (js : List Nat) (g : TG) (a : AG) : Prop := ∀ (U H : Hp) (σ : L2.St) (ρ : Env) (ds : List D) (xs : List V) (b : Addr) (Q : Env → Prop) (q : L2.St → Hp → Prop), DI c U H σ ρ → SqT c.K H b xs → Rs c.K U ds xs → a (.tup ds) ρ Q →
  (∀ σ' ρ', DI c U H σ' ρ' → Put js σ σ' ρ ρ' → Q ρ' → q σ' H) → g (.ref b) σ H q
theorem sim_gTH {js : List Nat} {n : Nat} {gs : TGs} {ags : AGs} (hs : SimGs c js gs ags) : SimGH c js (gTup c.K n gs) (gT n ags) := fun U H σ ρ ds xs b Q q I h1 h2 z k => by
  obtain ⟨z1, z2⟩ : ds.length = n ∧ ags ds ρ Q := z
  exact ⟨b, xs, rfl, h1, by rw [← h2.len]; exact z1, hs U H σ ρ ds xs Q q I h2 z2 k⟩
theorem lcwG {js vs : List Nat} {g : TG} {ag : AG} {tt : TT} {at' : AT} {te : TE} {e : AE} {U H U1 H1 : Hp} {σ : L2.St} {ρ : Env} {Q : AV → Prop} {q : VK} {J : It} {kds : List (List D)} {G : Hp → Prop} {Y : Nat → Hp → V → Hp → Prop} (hg : SimGH c js g ag) (ht : SimT c tt at') (he : ∀ (U' H' : Hp) (σ2 : L2.St) (ρ2 : Env) (Q2 : D → Prop) (q2 : VK), DI c U' H' σ2 ρ2 → Gr (drs ρ σ) U1 H1 U' H' → (∀ k, k ∉ vs → σ2[k]? = σ[k]?) → e ρ2 Q2 (c.x ρ2) → (∀ U3 H3 d v, Gr (drs ρ2 σ2) U' H' U3 H3 → DI c U3 H3 σ2 ρ2 → R c.K U3 d v → Q2 d → q2 v H3) → te σ2 H' q2) (hj : (js.all fun j => vs.contains j) = true) (hv : (vs.all fun i => noPar c i) = true)
    (g1 : Gr (drs ρ σ) U H U1 H1) (I1 : DI c U1 H1 σ ρ) (w : Walk J kds.length G Y) (hGr : ∀ U'' H'', Gr (drs ρ σ) U1 H1 U'' H'' → G H'') (hY : ∀ (i : Nat) (H : Hp) (x : V) (H' : Hp) (d : List D), G H → Y i H x H' → kds[i]? = some d → H' = H ∧ ∃ (b : Addr) (xs : List V), x = .ref b ∧ SqT c.K H b xs ∧ ∀ U, Rs c.K U d xs)
    (z1 : aComp ag at' e (wipeA ρ vs) (c.x ρ) (kds.map D.tup) [] (fun acc => Q (.ol acc)))
    (k : ∀ U' H' av v, Gr (drs ρ σ) U H U' H' → DI c U' H' σ ρ → RepA c.K U' H' av v → Fresh U' H av v → Q av → q v H') :
    tLc (fun _ H0 R => R J H0) g tt te vs σ H1 q := by
  intro Da nD
  have nD0 : H Da = none := g1.fresh nD
  have nDo : Da ∉ owns ρ σ := fun h => I1.ex Da h nD
  have nDd : Da ∉ drs ρ σ := fun h => nDo (drs_sub Da h)
  have nDH : c.H0 Da = none := I1.gr.fresh nD
  have hjs : ∀ j ∈ js, j ∈ vs := fun j hj' => by
    have := List.all_eq_true.mp hj j hj'
    exact List.contains_iff_mem.mp this
  refine lc_it (Qd := fun H' => q (.ref Da) H') w (fun n H' => ∃ U' acc accD, Gr (drs ρ σ) U1 H1 U' H' ∧ DI c U' H' σ ρ ∧ H' Da = some (.lst acc) ∧ U' Da = none ∧ Rs c.K U' accD acc ∧ aComp ag at' e (wipeA ρ vs) (c.x ρ) ((kds.map D.tup).drop n) accD (fun acc => Q (.ol acc))) ?_ ?_ ?_ ?_
  · have g2 : Gr [] U1 H1 U1 (upd H1 Da (.lst [])) := (Gr.refl I1.vh).newM nD
    exact ⟨U1, [], [], g2.any, I1.grow g2, upd_same, I1.vh.free nD, rfl, z1⟩
  · rintro n H' hn ⟨U', acc, accD, gg, _⟩
    exact hGr U' H' gg
  · rintro n x H' H'' hn ⟨U', acc, accD, gg, I', hD, uD, hr, z2⟩ hy
    have ed : kds[n]? = some kds[n] := List.getElem?_eq_getElem hn
    obtain ⟨rfl, bb, xs, rfl, sb, rb⟩ := hY n H' x H'' _ (hGr U' H' gg) hy ed
    rw [drop_at (show (kds.map D.tup)[n]? = some (D.tup kds[n]) by rw [List.getElem?_map, ed]; rfl)] at z2
    obtain ⟨U3, g3⟩ : ∃ U3, Gr [] U' H'' U3 H'' := ⟨U', Gr.refl I'.vh⟩
    have I3 := I'.grow g3
    obtain ⟨Iw, hdr, hxw⟩ := I3.wipe hv
    refine hg U3 H'' _ _ _ xs bb _ _ Iw sb (rb U3) z2 fun σ2 ρ2 I2 p2 z3 => ⟨wipe_put p2 hjs, ?_⟩
    have dr2 : ∀ p ∈ drs ρ2 σ2, p ∈ drs ρ σ := fun p hp => hdr p (p2.dr p hp)
    have hx2 : c.x ρ2 = c.x ρ := (p2.ex hv hjs).trans hxw
    rw [← hx2] at z3
    have uD3 : U3 Da = none := g3.fr Da uD (by rw [hD]; intro z; cases z)
    have hD3 := g3.hh _ _ (by simp) (ntb rfl) hD
    have drOf : ∀ {U5 H5 : Hp}, DI c U5 H5 σ2 ρ2 → ∀ p ∈ drs ρ2 σ2, p ∈ drs ρ σ ∧ Dr U5 H5 p := fun {U5 H5} I5 p hp => ⟨dr2 p hp, by
      have : ∀ {ρ : Env} {σ : L2.St}, Paired (RepS c.K U5 H5) ρ σ → ∀ p ∈ drs ρ σ, Dr U5 H5 p := by
        intro ρ σ h
        induction h with
        | nil => intro p hp; simp [drs] at hp
        | @cons a b ρ σ h t ih =>
          intro p hp
          have hp' : p ∈ drS a b ++ drs ρ σ := hp
          rcases List.mem_append.mp hp' with z | z
          · unfold drS at z
            split at z
            · obtain ⟨s, e1, e2⟩ := h
              have e' := V.ref.inj e1
              subst e'
              rw [List.mem_singleton.mp z]
              exact e2
            · cases z
          · exact ih p z
      exact this I5.rep p hp⟩
    refine ht U3 H'' σ2 ρ2 _ _ I2 z3 fun U5 H5 bo g5 I5 z5 => ?_
    have I5o := I3.step g5 (drOf I5)
    have n5 : Da ∉ drs ρ2 σ2 := fun h => nDd (dr2 Da h)
    have hD5 := g5.hh _ _ n5 (ntb rfl) hD3
    have uD5 : U5 Da = none := g5.fr Da uD3 (by rw [hD3]; intro z; cases z)
    have gg5 : Gr (drs ρ σ) U1 H1 U5 H5 := (gg.trans g3.any).trans (g5.weak dr2)
    cases bo with
    | false => exact i_itF ⟨U5, acc, accD, gg5, I5o, hD5, uD5, Rs.mono (g3.vv.trans g5.vv) _ _ hr, (by rw [← hx2]; exact z5)⟩
    | true =>
      refine i_itT (he U5 H5 σ2 ρ2 _ _ I5 gg5 (fun k hk => (p2.at' k fun h => hk (hjs k h)).trans (by rw [wipe_at, if_neg hk])) z5 fun U6 H6 y vy g6 I6 r6 z6 => ?_)
      have I6o := I5o.step g6 (drOf I6)
      have hD6 := g6.hh _ _ n5 (ntb rfl) hD5
      have uD6 : U6 Da = none := g6.fr Da uD5 (by rw [hD5]; intro z; cases z)
      have hr6 := Rs.mono ((g3.vv.trans g5.vv).trans g6.vv) _ _ hr
      refine ⟨acc, hD6, lt_size (by rw [← hr.len]; exact z6.1), U6, acc ++ [vy], accD ++ [y], (gg5.trans (g6.weak dr2)).mut uD6 (.inr nD) (.of hD6 rfl), I6o.mutFree uD6 nDH nDo (.of hD6 rfl), upd_same, uD6, hr6.snoc r6, (by rw [← hx2]; exact z6.2)⟩
  · rintro H' ⟨U', acc, accD, gg, I', hD, uD, hr, z2⟩
    rw [List.drop_of_length_le (by rw [List.length_map]; exact Nat.le_refl _)] at z2
    exact k U' H' (.ol accD) (.ref Da) (g1.trans gg) I' ⟨Da, acc, rfl, hD, hr⟩ (.one rfl uD nD0) z2
theorem lcwH {js vs : List Nat} {g : TG} {ag : AG} {tt : TT} {at' : AT} {te : TE} {e : AE} {U H U1 H1 : Hp} {σ : L2.St} {ρ : Env} {Q : AV → Prop} {q : VK} {J : It} {kds : List (List D)} {G : Hp → Prop} {Y : Nat → Hp → V → Hp → Prop} (hg : SimGH c js g ag) (ht : SimT c tt at') (he : SimE c te e) (hj : (js.all fun j => vs.contains j) = true) (hv : (vs.all fun i => noPar c i) = true)
    (g1 : Gr (drs ρ σ) U H U1 H1) (I1 : DI c U1 H1 σ ρ) (w : Walk J kds.length G Y) (hGr : ∀ U'' H'', Gr (drs ρ σ) U1 H1 U'' H'' → G H'') (hY : ∀ (i : Nat) (H : Hp) (x : V) (H' : Hp) (d : List D), G H → Y i H x H' → kds[i]? = some d → H' = H ∧ ∃ (b : Addr) (xs : List V), x = .ref b ∧ SqT c.K H b xs ∧ ∀ U, Rs c.K U d xs)
    (z1 : aComp ag at' e (wipeA ρ vs) (c.x ρ) (kds.map D.tup) [] (fun acc => Q (.ol acc)))
    (k : ∀ U' H' av v, Gr (drs ρ σ) U H U' H' → DI c U' H' σ ρ → RepA c.K U' H' av v → Fresh U' H av v → Q av → q v H') :
    tLc (fun _ H0 R => R J H0) g tt te vs σ H1 q :=
  lcwG hg ht (fun U' H' σ2 ρ2 Q2 q2 I _ _ z k => he U' H' σ2 ρ2 Q2 q2 I z k) hj hv g1 I1 w hGr hY z1 k
def aLcST (b : AE) (ag : AG) (at' : AT) (e : AE) (vs : List Nat) : AO := fun ρ Q X => b ρ (dTQ fun ks _ => okDs 8 (ks.map kTD) = true ∧ alikeD (ks.map kTD) = true ∧ sortableD (ks.map kTD) = true ∧ aComp ag at' e (wipeA ρ vs) X ((ks.mergeSort leT).map kTD) [] (fun acc => Q (.ol acc))) X
theorem zipL_fst {α β : Type} : ∀ {xs : List α} {ys : List β}, xs.length = ys.length → (xs.zip ys).map (·.1) = xs
  | [], [], _ => rfl
  | x :: xs, y :: ys, h => by rw [List.zip_cons_cons, List.map_cons, zipL_fst (Nat.succ.inj h)]
theorem sim_lcST {js vs : List Nat} {g : TG} {ag : AG} {tt : TT} {at' : AT} {td te : TE} {b e : AE} (hb : SimW c td b) (hg : SimGH c js g ag) (ht : SimT c tt at') (he : SimE c te e) (hj : (js.all fun j => vs.contains j) = true) (hv : (vs.all fun i => noPar c i) = true) :
    SimO c (tLc (iList c.K (tCB rSortT (tCons td tNil))) g tt te vs) (aLcST b ag at' e vs) := fun U H σ ρ Q q I z k =>
  hb U H σ ρ _ _ I z fun U1 H1 d v g1 I1 w1 z1 => by
    obtain ⟨ks, es, rfl, ok, al, so, z2⟩ := dTQ_of z1
    obtain ⟨a, xs, rfl, h1, h2, h3⟩ := (w1.cr I1).dT I1.vh
    have ek : (ks.zip xs).map (fun p => kTD p.1) = ks.map kTD := by
      rw [show (ks.zip xs).map (fun p => kTD p.1) = ((ks.zip xs).map (·.1)).map kTD by rw [List.map_map]; rfl, zipL_fst h2]
    refine ⟨a, ks.zip xs, rfl, h1, by rw [ek]; exact ok, by rw [ek]; exact al, by rw [ek]; exact so, fun p L np hL eL => ?_⟩
    rw [zipL_fst h2] at eL
    refine ⟨p, rfl, ⟨_, SqL.of upd_same⟩, ?_⟩
    have g2 : Gr [] U1 H1 U1 (upd H1 p (.lst (L.map fun x => V.ref x.1))) := (Gr.refl I1.vh).newM np
    have I2 := I1.grow g2
    have pd : p ∉ drs ρ σ := fun h => I1.ex p (drs_sub p h) np
    have bd : ∀ x ∈ L, x.1 ∉ drs ρ σ := fun x hx h => by
      obtain ⟨⟨_, _, _, _, _, hd, _⟩, _⟩ := drs_dr I1.rep x.1 h
      rw [hL x hx] at hd
      cases hd
    rw [← eL, List.map_map] at z2
    refine lcwH (G := fun H'' => H'' p = some (.lst (L.map fun x => V.ref x.1)) ∧ ∀ x ∈ L, H'' x.1 = some (.tup (x.2.map kV))) (Y := YAt (L.map fun x => V.ref x.1)) (kds := L.map fun x => x.2.map kD) hg ht he hj hv (g1.trans g2.any) I2 ?_ ?_ ?_ ?_ k
    · have w0 := walk_list (K := c.K) (a := p) (xs := L.map fun x => V.ref x.1)
      rw [List.length_map] at w0 ⊢
      exact w0.mono (fun H h => SqL.of h.1) (fun _ _ _ _ _ _ y => y)
    · intro U'' H'' g
      exact ⟨g.hh p _ pd (fun ps z => nomatch z) upd_same, fun x hx => g.hh x.1 _ (bd x hx) (fun ps z => nomatch z) (by rw [upd_ne fun z => by have := hL x hx; rw [z, np] at this; cases this]; exact hL x hx)⟩
    · rintro i H0 x H' d ⟨hG1, hG2⟩ ⟨rfl, hx⟩ hd
      rw [List.getElem?_map] at hx hd
      cases e : L[i]? with
      | none => rw [e] at hx; cases hx
      | some y =>
        rw [e] at hx hd
        cases hx
        cases hd
        exact ⟨rfl, y.1, y.2.map kV, rfl, SqT.of (hG2 y (List.mem_of_getElem? e)), fun U => rs_key y.2⟩
    · rw [List.map_map]
      exact z2
end
end SW
namespace SW
open PySem PySem.Spec PyProof.Rows L2 SWS
end SW
namespace SW
open PySem PySem.Spec PyProof.Rows L2 SWS
variable [QN]
section
variable {c : DC} {U H : Hp} {σ : L2.St} {ρ : Env}
def aZipS (r : AL) : AL := fun ρ Q X => r ρ (twoQ fun d e => lstQ (fun xs => lstQ (fun ys => xs.length = ys.length ∧ Q (zipD xs ys)) e) d) X
end
section
variable {ρ : Env} {L : List D → Prop} {XE : Exn → Prop} {r : AL}
theorem w_zipS (q : r ρ (twoQ fun d e => lstQ (fun xs => lstQ (fun ys => xs.length = ys.length ∧ L (zipD xs ys)) e) d) XE) : aZipS r ρ L XE := q
end
end SW
namespace SW
open PySem PySem.Spec PyProof.Rows L2 SWS
variable [QN]
section
variable {c : DC} {U H : Hp} {σ : L2.St} {ρ : Env}
theorem aVar_of {i : Nat} {ρ : Env} {Q : D → Prop} {X : Exn → Prop} (h : aVar i ρ Q X) : ∃ d, ρ[i]? = some (some (.fz d)) ∧ Q d := by
  unfold aVar at h
  split at h
  · exact ⟨_, by assumption, h⟩
  · exact h.elim
end
section
variable {c : DC} {U H : Hp} {σ : L2.St} {ρ : Env}
def isObj (C : Addr) : D → Prop
  | .obj C' _ _ => C' = C
  | _ => False
def aLenO (C : Addr) (A : AF) (a : AE) : AE := fun ρ Q X => a ρ (fun d => isObj C d ∧ A [.fz d] (lenAV Q) fun _ => False) X
theorem sim_lenO {C : Addr} {A : AF} {ta : TE} {a : AE} {E : XK} (ha : SimE c ta a) : SimE c (tCB (rLenOwn C (spD c.K c.tb A) E) (tCons ta tNil)) (aLenO C A a) := fun U H σ ρ Q q I z k =>
  ha U H σ ρ _ _ I z fun U1 H1 d v g1 I1 r1 z1 => by
    obtain ⟨ok, z3⟩ := z1
    cases d with
    | obj C' ns ds =>
      obtain rfl : C' = C := ok
      have r1' := r1
      obtain ⟨p, dx, xs, rfl, hp, _⟩ := r1'
      refine ⟨p, dx, _, rfl, I1.vh _ _ hp, ?_⟩
      refine run_spD (Q := lenAV Q) (X := fun _ => False) I1 (as := [.val (.obj C' ns ds)]) (vs := [.ref p]) (.cons r1 .nil) ⟨Nat.zero_le _, z3⟩ (fun U3 H3 av v g3 I3 r3 n3 z4 => ?_) (fun _ _ _ _ _ _ _ z => z.elim)
      cases av with
      | fz y =>
        cases y with
        | int n => exact ⟨n, r3, z4.1, by rw [show v = .int n from r3] at *; exact k U3 H3 (.int n) _ (g1.trans g3) I3 rfl z4.2⟩
        | _ => exact z4.elim
      | _ => exact z4.elim
    | _ => exact ok.elim
theorem w_lenO {C : Addr} {A : AF} {a : AE} {Q : D → Prop} {X : Exn → Prop} (q : a ρ (fun d => isObj C d ∧ A [.fz d] (lenAV Q) fun _ => False) X) : aLenO C A a ρ Q X := q
end
section
variable {ρ : Env} {O : AV → Prop} {X : Exn → Prop} {b e : AE} {ag : AG} {at' : AT} {vs : List Nat}
theorem w_lcST (q : b ρ (dTQ fun ks _ => okDs 8 (ks.map kTD) = true ∧ alikeD (ks.map kTD) = true ∧ sortableD (ks.map kTD) = true ∧ aComp ag at' e (wipeA ρ vs) X ((ks.mergeSort leT).map kTD) [] (fun acc => O (.ol acc))) X) : aLcST b ag at' e vs ρ O X := q
end
end SW
namespace SW
open PySem PySem.Spec PyProof.Rows L2 SWS
variable [QN]
section
variable {prog : Program} {w : World} {κ : Type} [DecidableEq κ] {knd : HeapKind prog w κ} {A : Around} {E : Value → Shared → Prop} {s : Shared}
inductive HitsH (A : Around) (s : Shared) (kb : List (κ × Addr × Value)) : List (κ × Addr × Value) → Bool → Prop
  | nil : HitsH A s kb [] true
  | miss {k : κ} {p : Addr} {v : Value} {r : List (κ × Addr × Value)} : atKey kb k = none → HitsH A s kb ((k, p, v) :: r) false
  | hit {k : κ} {p q : Addr} {v y : Value} {r : List (κ × Addr × Value)} {e b : Bool} : atKey kb k = some (q, y) → SeqAt.EqAt A s v y e → HitsH A s kb r b → HitsH A s kb ((k, p, v) :: r) (e && b)
theorem HitsH.cases' {kb : List (κ × Addr × Value)} {k : κ} {p : Addr} {v : Value} {r : List (κ × Addr × Value)} {b : Bool} (h : HitsH A s kb ((k, p, v) :: r) b) :
    (atKey kb k = none ∧ b = false) ∨ ∃ q y e b', atKey kb k = some (q, y) ∧ SeqAt.EqAt A s v y e ∧ HitsH A s kb r b' ∧ b = (e && b') := by
  cases h with
  | miss n => exact .inl ⟨n, rfl⟩
  | hit y e r => exact .inr ⟨_, _, _, _, y, e, r, rfl⟩
theorem samePairsH {nm : String} {a b : Addr} {ka kb : List (κ × Addr × Value)} {r : Bool} {Q : Bool → Shared → Prop} (hr : knd.room A) (na : (a == sysModules) = false) (nb : (b == sysModules) = false)
    (da : s.heap.DictOfH knd a ka) (db : s.heap.DictOfH knd b kb) (hits : ka.length = kb.length → HitsH A s kb ka r) (h : Q (ka.length == kb.length && r) s) : wpAny (model prog w) A (Builtin.Dict.samePairs nm a b) Q E s := by
  obtain ⟨oa, es, ep, hoa, _, hda, hea, hia, hna⟩ := da
  obtain ⟨ob, es', ep', hob, _, hdb, heb, hib, hnb⟩ := db
  have la : es.size = ka.length := size_of_entries hea
  have lb : es'.size = kb.length := size_of_entries heb
  unfold Builtin.Dict.samePairs Builtin.Dict.showsAll
  rw [if_neg (by rw [na]; exact Bool.false_ne_true : ¬ (a == sysModules) = true), if_neg (by rw [nb]; exact Bool.false_ne_true : ¬ (b == sysModules) = true)]
  refine wpAny_bind (wpAny_pure (wpAny_bind (wpAny_pure (wpAny_bind (wpAny_dictEntries hoa hda ?_)))))
  dsimp only
  refine wpAny_bind (wpAny_dictEntries hob hdb ?_)
  by_cases sz : es.size = es'.size
  case neg =>
    have z : (ka.length == kb.length) = false := beq_eq_false_iff_ne.mpr (by rw [← la, ← lb]; exact sz)
    rw [z, Bool.false_and] at h
    rw [if_pos (bne_iff_ne.mpr sz)]
    exact wpAny_bind (wpAny_rule (wpAny_pure h))
  case pos =>
    have sz' : ka.length = kb.length := by rw [← la, ← lb]; exact sz
    have h' : Q r s := by rwa [beq_iff_eq.mpr sz', Bool.true_and] at h
    have hits' := hits sz'
    rw [if_neg (by rw [sz]; simp)]
    refine wpAny_bind (wpAny_dictEpoch hoa hda (wpAny_bind ?_))
    rw [Std.Legacy.Range.forIn_eq_forIn_range']
    simp only [Std.Legacy.Range.size, Nat.sub_zero, Nat.add_sub_cancel, Nat.div_one]
    refine wpAny_forIn_list _ (fun rest q z => z = s ∧ q = (none, ()) ∧ ∃ i, rest = List.range' i (es.size - i) ∧ i ≤ es.size ∧ HitsH A s kb (ka.drop i) r) _ ?_ ?_ _ _ ⟨rfl, rfl, 0, by simp, Nat.zero_le _, hits'⟩
    · rintro x rest q z ⟨rfl, rfl, i, er, hi, pre⟩
      have lt : i < es.size := by
        rcases Nat.lt_or_ge i es.size with c | c
        · exact c
        · rw [Nat.sub_eq_zero_of_le c] at er
          cases er
      rw [show es.size - i = (es.size - (i + 1)) + 1 by omega, List.range'_succ] at er
      obtain ⟨rfl, er⟩ := List.cons.inj er
      have lt' : x < ka.length := by rw [← la]; exact lt
      obtain ⟨k, p, v, kv⟩ : ∃ k p v, ka[x] = (k, p, v) := ⟨_, _, _, rfl⟩
      have kat : ka[x]? = some (k, p, v) := by rw [List.getElem?_eq_getElem lt', kv]
      have ent : es[x]? = some (entryOfKey knd (k, p, v)) := by rw [entry_at hea, kat]; rfl
      have dr : ka.drop x = (k, p, v) :: ka.drop (x + 1) := by rw [← kv]; exact List.drop_eq_getElem_cons lt'
      have key : knd.is z.heap k p := hia _ (List.mem_of_getElem? kat)
      rw [dr] at pre
      refine wpAny_bind (wpAny_dictEntries hoa hda ?_)
      rw [ent]
      have go : wpAny (model prog w) A (do
          let some j ← dictFind b (.ref p) (knd.hash k) | pure false
          let some f := (← dictEntries b)[j]? | unsupported "internal:dict-equal"
          holding [f.val] (eqBool v f.val)) (fun same z' => z' = z ∧ ((same = false ∧ r = false) ∨ (same = true ∧ HitsH A z kb (ka.drop (x + 1)) r))) E z := by
        refine wpAny_bind (wpAny_dictFind_heap hr key hob hdb heb hib hnb (fun no => ?_) fun j pj hj => ?_)
        · have hn : atKey kb k = none := atKey_none_of_get no
          rcases pre.cases' with ⟨_, er⟩ | ⟨q, y, e, b', hy, _⟩
          · exact wpAny_pure ⟨rfl, .inl ⟨rfl, er⟩⟩
          · rw [hn] at hy; cases hy
        · have hs : atKey kb k = some pj := atKey_of_get hnb hj
          refine wpAny_bind (wpAny_dictEntries hob hdb ?_)
          rw [entry_at heb, hj]
          rcases pre.cases' with ⟨hn, _⟩ | ⟨q, y, e, b', hy, he, hrest, ee⟩
          · rw [hn] at hs; cases hs
          · rw [hs] at hy
            obtain rfl := Option.some.inj hy
            refine wpAny_holding (he prog w _ _ ?_)
            cases e with
            | false => exact ⟨rfl, .inl ⟨rfl, by rw [ee]; rfl⟩⟩
            | true => exact ⟨rfl, .inr ⟨rfl, by rw [ee]; exact hrest⟩⟩
      refine (show wpAny _ _ (holding [.ref p, v] _ >>= _) _ _ _ from wpAny_bind (wpAny_holding (wpAny_mono go (fun same z' g => ?_) fun _ _ e => e)))
      obtain ⟨rfl, g⟩ := g
      rcases g with ⟨rfl, rfl⟩ | ⟨rfl, g⟩
      · rw [if_pos (by decide)]
        exact wpAny_pure (wpAny_pure h')
      · rw [if_neg (by decide)]
        refine wpAny_bind (wpAny_dictEpoch hoa hda ?_)
        rw [if_neg (by simp)]
        exact wpAny_pure ⟨rfl, rfl, x + 1, er, lt, g⟩
    · rintro q z ⟨rfl, rfl, i, er, hi, pre⟩
      have e : i = es.size := by
        rcases Nat.lt_or_ge i es.size with c | c
        · rw [show es.size - i = (es.size - (i + 1)) + 1 by omega, List.range'_succ] at er
          cases er
        · exact Nat.le_antisymm hi c
      rw [e, la, List.drop_length] at pre
      cases pre
      exact wpAny_pure h'
theorem eqH {a b : Addr} {ka kb : List (κ × Addr × Value)} {r : Bool} {Q : Value → Shared → Prop} (hr : knd.room A.in1) (na : (a == sysModules) = false) (nb : (b == sysModules) = false)
    (da : s.heap.DictOfH knd a ka) (db : s.heap.DictOfH knd b kb) (hu : A.units < cLine) (hits : ka.length = kb.length → HitsH A.in1 s kb ka r) (h : Q (.bool (ka.length == kb.length && r)) s) :
    wpAny (model prog w) A (compareOp .Eq (.ref a) (.ref b)) Q E s := by
  refine wpAny_richCompare_same_room (op := .Eq) da.typeIs db.typeIs PySem.F.slot_dict_eq (wpAny_call_entry PySem.F.slot_dict_eq da.typeIs PySem.F.entry_dict_eq ?_ (PySem.F.args_dict_eq_2 _ _)) hu
  refine (show wpAny _ _ (Builtin.Dict.dictSlotArgs "__eq__" ⟨[.ref a, .ref b], []⟩ >>= _) _ _ s from wpAny_bind ?_)
  unfold Builtin.Dict.dictSlotArgs
  refine wpAny_bind (wpAny_notOrdered_dict da.typeIs (show wpAny _ _ (pure (Value.ref a, Value.ref b)) _ _ s from wpAny_pure (wpAny_bind (wpAny_isInstance (T := "dict") db.typeIs PySem.F.sub_dict_dict ?_))))
  simp only [Bool.not_true, Bool.false_eq_true, if_false]
  exact wpAny_bind (wpAny_pure (wpAny_bind (wpAny_pure (wpAny_bind (samePairsH hr na nb da db hits (wpAny_pure ⟨_, rfl, (fun x => nomatch x), by simpa using h⟩))))))
end
inductive HitsT (K : PySem.W.Frag) (H : Hp) (ls : List (List Key × V)) : List (List Key × V) → Bool → Prop
  | nil : HitsT K H ls [] true
  | miss {k : List Key} {v : V} {r : List (List Key × V)} : valV ls k = none → HitsT K H ls ((k, v) :: r) false
  | hit {k : List Key} {v y : V} {d e : PyData} {r : List (List Key × V)} {b : Bool} : valV ls k = some y → Dp K H v d → Dp K H y e → SeqAt.shaped d = true → SeqAt.shaped e = true → HitsT K H ls r b → HitsT K H ls ((k, v) :: r) (PyData.eqv d e && b)
theorem hits_t {X : Cx} {pins : List (Addr × Obj)} {σ : L2.St} {H : Hp} {s : Shared} (I : Inv X pins σ H s) (hu : X.A.units + 66 < cLine) {ls : List (List Key × V)} {vb : List (List Key × Addr × Value)} (rb : KT H ls vb) {ks : List (List Key × V)} {r : Bool} (h : HitsT X.K H ls ks r) : ∀ {va : List (List Key × Addr × Value)}, KT H ks va → HitsH X.A.in1 s vb va r := by
  induction h with
  | nil =>
    intro va hv
    cases hv
    exact .nil
  | @miss k v rst hn =>
    intro va hv
    cases hv with
    | @cons a2 q l2 va h1 t =>
      obtain ⟨key, p, w⟩ := q
      obtain ⟨e1, h2, h3⟩ := h1
      have e1' : k = key := e1
      subst e1'
      have rr : RelO (valV ls k) ((atKey vb k).map (·.2)) := rb.val _
      rw [hn] at rr
      refine .miss ?_
      have := rr.none_of
      cases e : atKey vb k with
      | none => rfl
      | some z => rw [e] at this; cases this
  | @hit k v y d e rst b hv hd he sd se hr ih =>
    intro va hva
    cases hva with
    | @cons a2 q l2 va h1 t =>
      obtain ⟨key, p, w⟩ := q
      obtain ⟨e1, h2, h3⟩ := h1
      have e1' : k = key := e1
      subst e1'
      have rr : RelO (valV ls k) ((atKey vb k).map (·.2)) := rb.val _
      rw [hv] at rr
      obtain ⟨z, hz, rz⟩ := rr.some_of
      obtain ⟨⟨q, z'⟩, hq, ez⟩ := Option.map_eq_some_iff.mp hz
      have ez' : z' = z := ez
      subst ez'
      obtain ⟨as, r1⟩ := Dp.reads I _ _ _ hd h3
      obtain ⟨bs, r2⟩ := Dp.reads I _ _ _ he rz
      refine .hit hq ?_ (ih t)
      exact SeqAt.eqAt_reads _ _ X.A.in1 s _ _ _ _ r1 r2 (SeqAt.canLay_of_shaped sd) (SeqAt.canLay_of_shaped se) (SeqAt.room_of_shaped sd (by show X.A.units + 1 + 64 < cLine; omega))
def rEqT (K : PySem.W.Frag) : R2 := fun x y H Q => ∃ (a b : Addr) (ks ls : List (List Key × V)) (r : Bool), x = .ref a ∧ y = .ref b ∧ H a = some (.dT ks) ∧ H b = some (.dT ls) ∧ HitsT K H ls ks r ∧ Q (.bl (decide (ks.length = ls.length) && r)) H
theorem op_eqT {X : Cx} {K : PySem.W.Frag} (hK : X.K = K) (hu : X.A.units + 66 < cLine) : OpR X (compareOp .Eq) (rEqT K) := by
  subst hK
  intro pins s σ H x y v u Q I rx ry h
  obtain ⟨a, b, ks, ls, r, rfl, rfl, ea, eb, hh, q⟩ := h
  obtain rfl : v = Value.ref a := rx
  obtain rfl : u = Value.ref b := ry
  obtain ⟨_, ya, va, ra, da⟩ := dt_of I.hok ea
  obtain ⟨_, yb, vb, rb, db⟩ := dt_of I.hok eb
  refine eqH (knd := tupleKind (mixKind X.prog X.w)) (tupleKind_room_in1 (by omega)) ya yb da db (by omega) (fun _ => hits_t I hu rb hh ra) (fin_bl I q ?_)
  have e1 : va.length = ks.length := (Paired.length ra).symm
  have e2 : vb.length = ls.length := (Paired.length rb).symm
  rw [e1, e2]
  by_cases z : ks.length = ls.length
  · rw [decide_eq_true z, beq_iff_eq.mpr z]
  · rw [decide_eq_false z, beq_eq_false_iff_ne.mpr z]
def dtHits (ls : List (List Key)) (es : List D) : List (List Key) → List D → Bool
  | k :: ks, d :: ds => match gval ls es k with
    | none => false
    | some e => deq d e && dtHits ls es ks ds
  | _, _ => true
def oEqT : D → D → (D → Prop) → Prop := fun d e Q => dTQ (fun ks ds => dTQ (fun ls es => okDs 8 ds = true ∧ okDs 8 es = true ∧ Q (.bl (decide (ks.length = ls.length) && dtHits ls es ks ds))) e) d
theorem gval_ok {ls : List (List Key)} : ∀ {es : List D} {k : List Key} {e : D}, okDs 8 es = true → gval ls es k = some e → okD 8 e = true := by
  induction ls with
  | nil => intro es k e _ h; cases es <;> cases h
  | cons l ls ih =>
    intro es k e ok h
    cases es with
    | nil => cases h
    | cons d es =>
      have ok' : (okD 8 d && okDs 8 es) = true := ok
      rw [Bool.and_eq_true] at ok'
      unfold gval at h
      by_cases z : l = k
      · rw [if_pos z] at h
        cases h
        exact ok'.1
      · rw [if_neg z] at h
        exact ih ok'.2 h
theorem hitsT_r {K : PySem.W.Frag} {U H : Hp} (s : Same U H) {ls : List (List Key)} {es : List D} {ys : List V} (ry : Rs K U es ys) (ly : ls.length = ys.length) (oy : okDs 8 es = true) : ∀ {ks : List (List Key)} {ds : List D} {xs : List V}, Rs K U ds xs → ks.length = xs.length → okDs 8 ds = true → HitsT K H (ls.zip ys) (ks.zip xs) (dtHits ls es ks ds)
  | [], ds, xs, r, l, _ => by
    have : xs = [] := by cases xs with | nil => rfl | cons _ _ => cases l
    subst this
    have e : dtHits ls es [] ds = true := by cases ds <;> rfl
    rw [e]
    exact .nil
  | k :: ks, [], xs, r, l, _ => by
    rw [show xs = [] from r] at l
    cases l
  | k :: ks, d :: ds, xs, ⟨v, xs', e, h1, h2⟩, l, ok => by
    subst e
    have ok' : (okD 8 d && okDs 8 ds) = true := ok
    rw [Bool.and_eq_true] at ok'
    have ih := hitsT_r s ry ly oy (ks := ks) h2 (Nat.succ.inj l) ok'.2
    obtain ⟨i1, i2⟩ := gval_r (y := k) ry ly
    rw [List.zip_cons_cons]
    unfold dtHits
    cases ev : gval ls es k with
    | none => exact .miss (i1 ev)
    | some y =>
      obtain ⟨w, e1, r1⟩ := i2 y ev
      have oy' := gval_ok oy ev
      dsimp only
      rw [← eqv_deq 8 8 d y ok'.1 oy']
      exact .hit e1 (cr_dp s (.of h1 (H := H)) ok'.1) (cr_dp s (.of r1 (H := H)) oy') ((okD_lay 8 d ok'.1).shaped (by decide)) ((okD_lay 8 y oy').shaped (by decide)) ih
theorem op_eqTD {K : PySem.W.Frag} : OpD K (rEqT K) oEqT := fun U H v w d e Q q s cd ce z k => by
  obtain ⟨ks, ds, rfl, z1⟩ := dTQ_of z
  obtain ⟨ls, es, rfl, o1, o2, z2⟩ := dTQ_of z1
  obtain ⟨a, xs, rfl, h1, h2, h3⟩ := cd.dT s
  obtain ⟨b, ys, rfl, g1, g2, g3⟩ := ce.dT s
  refine ⟨a, b, _, _, _, rfl, rfl, h1, g1, hitsT_r s g3 g2 o2 h3 h2 o1, ?_⟩
  rw [List.length_zip, List.length_zip, ← h2, ← g2, Nat.min_self, Nat.min_self]
  exact k U H (.bl _) _ (Gr.refl s) rfl z2
end SW
namespace SW
open PySem PySem.Spec PyProof.Rows L2 SWS
variable [QN]
theorem pi_or {X : Cx} {tg e : Expr} {w1 w2 : TI} (h1 : PI X tg e w1) (h2 : PI X tg e w2) : PI X tg e (fun σ H R => w1 σ H R ∨ w2 σ H R) := ⟨fun pins s σ H R I h => h.elim (h1.run pins s σ H R I) (h2.run pins s σ H R I)⟩
def iLT (K : PySem.W.Frag) (te : TE) : TI := fun σ H R => iList K te σ H R ∨ iTup K te σ H R
theorem pi_ltK {X : Cx} {K : PySem.W.Frag} {tg e : Expr} {te : TE} (h : X.K = K) (he : PE X e te) : PI X tg e (iLT K te) := pi_or (pi_listK h he) (pi_tupK h he)
def ltQ (Q : List D → Prop) : D → Prop
  | .lst ds => Q ds
  | .tup ds => Q ds
  | _ => False
section
variable {c : DC} {U H : Hp} {σ : L2.St} {ρ : Env}
def aItLT (i : Nat) : AL := fun ρ Q X => aVar i ρ (ltQ Q) X
theorem sim_itLT {i : Nat} : SimI c (iLT c.K (tVar i)) (aItLT i) := fun U H σ ρ Q q I z k => by
  obtain ⟨d, e, z'⟩ := aVar_of z
  cases d with
  | lst ds => exact .inl (sim_itL sim_var U H σ ρ Q q I (by unfold aItL aVar; rw [e]; exact z') k)
  | tup ds => exact .inr (sim_itT sim_var U H σ ρ Q q I (by unfold aItT aVar; rw [e]; exact z') k)
  | _ => exact z'.elim
mutual
def noL : D → Bool
  | .int _ => true
  | .bl _ => true
  | .str _ => true
  | .non => true
  | .ty _ => true
  | .tup ds => noLs ds
  | _ => false
def noLs : List D → Bool
  | [] => true
  | d :: ds => noL d && noLs ds
end
def unU (U : Hp) (p : Addr) : Hp := fun a => if a = p then none else U a
theorem unU_p {p : Addr} : unU U p p = none := if_pos rfl
theorem unU_ne {p a : Addr} (h : a ≠ p) : unU U p a = U a := if_neg h
theorem unU_le {p a : Addr} {o : HO} (h : unU U p a = some o) : a ≠ p ∧ U a = some o := by
  by_cases e : a = p
  · rw [e, unU_p] at h; cases h
  · exact ⟨e, by rwa [unU_ne e] at h⟩
mutual
theorem noL_r {K : PySem.W.Frag} {p : Addr} {xs : List V} (hp : U p = some (.lst xs)) : ∀ {d : D} {v : V}, noL d = true → R K U d v → R K (unU U p) d v
  | .int _, _, _, h => h
  | .bl _, _, _, h => h
  | .str _, _, _, h => h
  | .non, _, _, h => h
  | .ty _, _, _, h => h
  | .tup ds, _, f, ⟨a, ys, h1, h2, h3⟩ => by
    refine ⟨a, ys, h1, ?_, noLs_r hp f h3⟩
    rcases h2 with (h2 | ⟨o, h2⟩) | h2
    · exact .inl (.inl (by rw [unU_ne fun e => by rw [e, hp] at h2; cases h2]; exact h2))
    · exact .inl (.inr ⟨o, by rw [unU_ne fun e => by rw [e, hp] at h2; cases h2]; exact h2⟩)
    · exact .inr h2
theorem noLs_r {K : PySem.W.Frag} {p : Addr} {xs : List V} (hp : U p = some (.lst xs)) : ∀ {ds : List D} {vs : List V}, noLs ds = true → Rs K U ds vs → Rs K (unU U p) ds vs
  | [], _, _, h => h
  | d :: ds, _, f, ⟨v, r, e, h1, h2⟩ => by
    have f' : (noL d && noLs ds) = true := f
    rw [Bool.and_eq_true] at f'
    exact ⟨v, r, e, noL_r hp f'.1 h1, noLs_r hp f'.2 h2⟩
end
def unF : AV → Bool
  | .fz d => noL d
  | .ot _ ds => noLs ds
  | .ok _ ds => noLs ds
  | _ => false
def unOk : AV → Bool
  | .ob _ _ _ _ as => as.all unF
  | _ => false
def unQ (Q : AV → Prop) (av : AV) : Prop := unOk av = true ∧ Q av
theorem unFs_r {K : PySem.W.Frag} {p : Addr} {xs : List V} (hp : U p = some (.lst xs)) : ∀ {as : List AV} {vs : List V}, as.all unF = true → RepAs K U H as vs → RepAs K (unU U p) H as vs
  | [], _, _, h => h
  | a :: as, _, f, ⟨v, r, e, h1, h2⟩ => by
    rw [List.all_cons, Bool.and_eq_true] at f
    refine ⟨v, r, e, ?_, unFs_r hp f.2 h2⟩
    cases a with
    | fz d => exact noL_r hp f.1 h1
    | ot ks ds =>
      obtain ⟨q, ys, k1, k2, k3, k4⟩ := h1
      exact ⟨q, ys, k1, k2, k3, noLs_r hp f.1 k4⟩
    | ok ks ds =>
      obtain ⟨q, ys, k1, k2, k3, k4⟩ := h1
      exact ⟨q, ys, k1, k2, k3, noLs_r hp f.1 k4⟩
    | _ => exact absurd f.1 Bool.false_ne_true
theorem unOk_r {K : PySem.W.Frag} {p : Addr} {xs : List V} (hp : U p = some (.lst xs)) {a : AV} {v : V} (f : unOk a = true) (h : RepA K U H a v) : RepA K (unU U p) H a v := by
  cases a with
  | ob C dx ns ws as =>
    obtain ⟨q, k1, k2, k3, k4⟩ := h
    exact ⟨q, k1, k2, k3, unFs_r hp f k4⟩
  | _ => exact absurd f Bool.false_ne_true
def aMkF0 (C : Addr) (A : AFM) (i : Nat) : AO := fun ρ Q _ => olQ ρ i fun ds => mkQ C A (unQ Q) (fun _ => False) [.fz (.lst ds)]
theorem sim_mkF0 {C : Addr} {A : AFM} {i : Nat} {E : L2.St → XK} : SimO c (tMkS C (spM c.K c.tb A) [] E (tCons (tVar i) tNil)) (aMkF0 C A i) := fun U H σ ρ Q q I z k => by
  obtain ⟨ds, e1, h⟩ := olQ_of z
  obtain ⟨v0, f1, ⟨p, xs, rfl, hp, hr⟩, f6⟩ := rep_at I.rep i _ e1
  have po : p ∈ owns ρ σ := f6 p (List.mem_singleton.mpr rfl)
  have up : U p = none := (I.out p po).1
  refine ⟨.ref p, f1, fun x dx nx nd ne => ?_⟩
  have sW : Same (sealU U H [p]) H := seal_vh I.vh
  have sU : Same U (sealU U H [p]) := seal_same fun q hq => by rw [List.mem_singleton.mp hq]; exact up
  have tW : TbOk c.tb (sealU U H [p]) H := ⟨I.tbs.1, seal_nt I.tbs.2 fun q hq => by rw [List.mem_singleton.mp hq]; exact I.pl p po⟩
  have Wp : sealU U H [p] p = some (.lst xs) := by rw [seal_in (List.mem_singleton.mpr rfl)]; exact hp
  have Wo : ∀ a, a ≠ p → sealU U H [p] a = U a := fun a ha => seal_out fun z => ha (List.mem_singleton.mp z)
  generalize sealU U H [p] = W at sW sU tW Wp Wo
  have nx2 : upd H dx (.own x) x = none := by rw [upd_ne (fun z => ne z.symm)]; exact nx
  have g1 : Gr [] W H W (upd H dx (.own x)) := (Gr.refl sW).newM nd
  have g2 : Gr [] W H W (upd (upd H dx (.own x)) x (.ins C dx [])) := g1.trans ((Gr.refl g1.vh).newM nx2)
  have ux : W x = none := sW.free nx
  have eo : ownAs (.ob C dx [] [] [] :: [.fz (.lst ds)]) (.ref x :: ([.ref p] ++ [])) = [x] := rfl
  refine ⟨W, .ob C dx [] [] [] :: [.fz (.lst ds)], _, _, g2.vh, tW.gr g2, .cons ⟨x, rfl, upd_same, rfl, rfl⟩ (.cons ⟨p, xs, rfl, Wp, Rs.mono sU _ _ hr⟩ .nil), by rw [eo]; simp, fun q hq => by rw [eo] at hq; rw [List.mem_singleton.mp hq]; exact ux, h dx, fun U' H' av v avs' g r nd' hf r2 n2 u2 kd per z => ?_, fun U' H' ex cls o avs' g xr r2 n2 u2 kd per z => z.elim⟩
  rw [eo] at g
  obtain ⟨rfl, z⟩ := z
  refine ⟨r, ?_⟩
  cases avs' with
  | nil => exact z.elim
  | cons a' avs' =>
    cases r2 with
    | cons ra rt =>
      have g3 : Gr [] W H U' H' := g2.comp g fun q hq => by rw [List.mem_singleton.mp hq]; exact .inr nx
      have U'p : U' p = some (.lst xs) := g3.vv _ _ Wp
      obtain ⟨zu, zq⟩ : unOk a' = true ∧ Q a' := z
      have g4 : Gr [] U H (unU U' p) H' := ⟨fun a o e => by
          have np : a ≠ p := fun z => by rw [z, up] at e; cases e
          rw [unU_ne np]
          exact g3.vv _ _ (sU _ _ e), fun a o e => g3.vh _ _ (unU_le e).2, g3.hh, g3.dom, fun a e n => ?_, g3.tb, fun _ => fun a ps e => g3.nt tW.2 a ps (unU_le e).2⟩
      · have hin : ∀ q ∈ own a' (.ref x), q ∈ ownAs (a' :: avs') (.ref x :: ([.ref p] ++ [])) := fun q hq => List.mem_append_left _ hq
        refine k (unU U' p) H' a' (.ref x) g4.any (I.grow g4) (unOk_r U'p zu ra) ⟨(List.nodup_append.mp (show (own a' (.ref x) ++ ownAs avs' ([.ref p] ++ [])).Nodup from n2)).1, fun q hq => ⟨?_, ?_⟩⟩ zq
        · by_cases e : q = p
          · rw [e]; exact unU_p
          · rw [unU_ne e]; exact u2 q (hin q hq)
        · rcases per.1 q hq with y | y
          · have : q = x := by
              have y' : q ∈ [x] := y
              exact List.mem_singleton.mp y'
            rw [this]
            exact nx
          · exact g2.fresh y
      · by_cases ea : a = p
        · rw [ea]; exact unU_p
        · rw [unU_ne ea]
          exact g3.fr a ((Wo a ea).trans e) n
def aMkD0 (C : Addr) (A : AFM) : AO := fun _ Q _ => mkQ C A Q (fun _ => False) [.fz (.tup [])]
theorem sim_mkD0 {C e : Addr} {A : AFM} {E : L2.St → XK} (he : ∀ H : Hp, SqT c.K H e []) : SimO c (tMkS C (spM c.K c.tb A) [.ref e] E tNil) (aMkD0 C A) := fun U H σ ρ Q q I z k x dx nx nd ne =>
  run_mk (as := [.fz (.tup [])]) (vs := [.ref e]) I (.cons ⟨e, [], rfl, he U, rfl⟩ .nil) (fun a ha => ⟨_, List.mem_singleton.mp ha⟩) z (fun U3 H3 av v g3 I3 r3 n3 z4 => k U3 H3 av v g3 I3 r3 n3 z4) (fun _ _ _ _ _ _ _ z => z.elim) nx nd ne
def aMeD0 (C : Addr) (m : Str) (A : AF) (ns : List Int) (a : AE) (r : AA) : AO := fun ρ Q X => a ρ (objQ C m fun d => r ρ (fun as => callQ A ρ Q (fun _ => False) (.val d :: (as ++ ns.map fun a => .val (.int a)))) X) X
theorem sim_meD0 {C : Addr} {m : Str} {A : AF} {ns : List Int} {dvs : List V} {ta : TE} {a : AE} {tr : TA} {r : AA} {E : L2.St → XK} (hd : dvs = ns.map V.int) (ha : SimE c ta a) (hr : SimA c tr r) : SimO c (tMeS C m (spD c.K c.tb A) dvs E ta tr) (aMeD0 C m A ns a r) := fun U H σ ρ Q q I z k =>
  ha U H σ ρ _ _ I z fun U1 H1 d v g1 I1 r1 z1 => by
    obtain ⟨ns', ds, rfl, nm, z2⟩ := objQ_of z1
    obtain ⟨p, dx, xs, rfl, hp, hl, hrs⟩ := r1
    refine ⟨p, dx, _, rfl, I1.vh _ _ hp, lookup_none nm, hr U1 H1 σ ρ _ _ I1 z2 fun U2 H2 as vs g2 I2 r2 z3 => ?_⟩
    rw [hd]
    have r1' : R c.K U2 (.obj C ns' ds) (.ref p) := R.mono g2.vv _ _ ⟨p, dx, xs, rfl, hp, hl, hrs⟩
    exact run_spD (X := fun _ => False) I2 (as := .val (.obj C ns' ds) :: (as ++ ns.map fun a => .val (.int a))) (vs := .ref p :: (vs ++ ns.map V.int)) (.cons r1' (Paired.app r2 (ints_args ns))) z3 (fun U3 H3 av v g3 I3 r3 n3 z4 => k U3 H3 av v ((g1.trans g2).trans g3) I3 r3 (n3.back fun _ h => (g1.trans g2).fresh h) z4) (fun _ _ _ _ _ _ _ z => z.elim)
theorem w_meD0 {C : Addr} {m : Str} {A : AF} {ns : List Int} {a : AE} {r : AA} {O : AV → Prop} {X : Exn → Prop} (q : a ρ (objQ C m fun d => r ρ (fun as => callQ A ρ O (fun _ => False) (.val d :: (as ++ ns.map fun a => .val (.int a)))) X) X) : aMeD0 C m A ns a r ρ O X := q
theorem w_mkD0 {C : Addr} {A : AFM} {O : AV → Prop} {X : Exn → Prop} (q : mkQ C A O (fun _ => False) [.fz (.tup [])]) : aMkD0 C A ρ O X := q
theorem w_mkF0 {C : Addr} {A : AFM} {i : Nat} {ds : List D} {O : AV → Prop} {X : Exn → Prop} (h : ρ[i]? = some (some (.ol ds))) (q : mkQ C A (unQ O) (fun _ => False) [.fz (.lst ds)]) : aMkF0 C A i ρ O X := by
  show olQ ρ i _
  unfold olQ
  rw [h]
  exact q
theorem w_eqT {ks ls : List (List Key)} {ds es : List D} {Q : D → Prop} (h : okDs 8 ds = true) (h' : okDs 8 es = true) (q : Q (.bl (decide (ks.length = ls.length) && dtHits ls es ks ds))) : oEqT (.dT ks ds) (.dT ls es) Q := ⟨h, h', q⟩
end
end SW
open PySem L2 SW
local macro_rules | `(tactic| walk_at "sw1") => `(tactic| first
  | with_reducible refine i_seq ?_
  | with_reducible refine i_set ?_
  | with_reducible refine i_asg ?_
  | with_reducible refine i_var rfl ?_
  | with_reducible refine i_c ?_
  | with_reducible refine i_op ?_
  | with_reducible refine i_rI0 ?_
  | with_reducible refine i_cons ?_
  | with_reducible refine i_nil ?_
  | with_reducible refine i_call ?_
  | with_reducible refine i_cb ?_
  | with_reducible refine i_if ?_
  | with_reducible refine i_test ?_
  | with_reducible refine i_B ?_
  | with_reducible refine i_bl ?_
  | with_reducible refine i_blV ?_
  | with_reducible refine i_itT ?_
  | with_reducible refine i_itF ?_
  | with_reducible refine i_iteNT ?_
  | with_reducible refine i_iteNF ?_
  | with_reducible refine i_iteNN ?_
  | with_reducible refine i_ret ?_
  | with_reducible refine i_drop ?_
  | with_reducible refine i_next ?_
  | with_reducible refine i_un ?_
  | with_reducible refine i_rU ?_
  | with_reducible refine i_eqI ?_
  | with_reducible refine i_neI ?_
  | with_reducible refine i_eqS ?_
  | with_reducible refine i_neS ?_
  | with_reducible refine i_not ?_
  | with_reducible refine i_and ?_
  | with_reducible refine i_or ?_
  | with_reducible refine i_andV ?_
  | with_reducible refine i_orV ?_
  | with_reducible refine i_notV ?_
  | with_reducible refine i_ifE ?_
  | with_reducible refine i_chain ?_
  | with_reducible refine i_sub ?_
  | with_reducible refine i_lst ?_
  | with_reducible refine i_tup ?_
  | with_reducible refine i_for1 ?_
  | with_reducible refine i_for2 ?_
  | with_reducible refine i_for3 ?_
  | with_reducible refine i_forL ?_
  | with_reducible refine i_forT ?_
  | with_reducible refine i_lc1 ?_
  | with_reducible refine i_lc2 ?_
  | with_reducible refine i_lcL ?_
  | with_reducible refine i_lcT ?_
  | with_reducible refine i_gname ?_
  | with_reducible refine i_yes ?_
  | with_reducible refine i_callN ?_
  | with_reducible refine i_callW ?_
  | with_reducible refine i_callS ?_
  | with_reducible refine i_par ?_
  | with_reducible refine i_sl ?_
  | with_reducible refine i_nopart ?_
  | with_reducible refine i_part ?_
  | with_reducible refine i_partE ?_
  | with_reducible refine i_parE ?_
  | with_reducible refine i_ipI ?_
  | with_reducible refine i_asg2 ?_
  | with_reducible refine i_gcons ?_
  | with_reducible refine i_gnil ?_
  | with_reducible refine i_retN ?_
  | with_reducible refine i_brk ?_
  | with_reducible refine i_cont ?_)
local macro_rules | `(tactic| walk_at "hp") => `(tactic| first | assumption | exact upd_same | (refine upd_get (by assumption) ?_; walk_at "hp") | ((rw [upd_ne (by assumption)]); walk_at "hp"))
local macro_rules | `(tactic| walk_at "cc") => `(tactic| first | omega | decide | exact ⟨by decide, by decide⟩ | exact ⟨by omega, by omega⟩ | exact ⟨by decide, by decide, by decide⟩ | exact Or.inr ⟨by decide, by decide⟩ | exact Or.inl ⟨by decide, by decide⟩ | exact Or.inr ⟨by omega, by omega⟩ | exact Or.inl ⟨by omega, by omega⟩ | assumption)
local macro_rules | `(tactic| walk_at "sw2") => `(tactic| first
  | walk_at "sw1"
  | ((with_reducible refine' i_rI ?c1 ?_); (case c1 => (dsimp only; walk_at "cc")))
  | ((with_reducible refine' i_rI ?c1 ?_); (case c1 => (walk_at "cc")))
  | ((with_reducible refine' i_ixL ?c1 ?c2 ?_); (case c1 => walk_at "hp"); (case c2 => exact rfl))
  | ((with_reducible refine' i_ixT ?c1 ?c2 ?_); (case c1 => walk_at "hp"); (case c2 => exact rfl))
  | with_reducible refine i_isI ?_
  | with_reducible refine i_isB ?_
  | with_reducible refine i_isBB ?_
  | ((with_reducible refine' i_isL ?c1 ?_); (case c1 => walk_at "hp"))
  | ((with_reducible refine' i_isT ?c1 ?_); (case c1 => walk_at "hp"))
  | ((with_reducible refine' i_setL ?c1 ?c2 ?_); (case c1 => walk_at "hp"); (case c2 => exact rfl))
  | ((with_reducible refine' i_rI ?c1 ?_); (case c1 => first | (apply_assumption; done) | exact wide_div (b := 200) (by omega) (by omega) (by decide) (by decide)))
  | ((with_reducible refine' Exists.intro _ (Exists.intro _ (And.intro rfl (And.intro (Or.inl (SqL.of ?c1)) ?_)))); (case c1 => walk_at "hp"))
  | ((with_reducible refine' Exists.intro _ (Exists.intro _ (And.intro rfl (And.intro (Or.inr (SqT.of ?c1)) ?_)))); (case c1 => walk_at "hp"))
  | ((with_reducible refine' Exists.intro _ (And.intro (rfl : [V.int _] = [V.int _]) ?_)))
  | ((with_reducible refine' Exists.intro _ (Exists.intro _ (And.intro (rfl : [V.int _, V.int _] = [V.int _, V.int _]) ?_))))
  | (with_reducible refine And.intro (Nat.le_of_ble_eq_true rfl : List.length _ ≤ sizeLine) ?_))
local macro_rules | `(tactic| walk_at "sw3") => `(tactic| first
  | walk_at "sw2"
  | with_reducible refine i_fld ?_
  | ((with_reducible refine' i_fldI ?c1 ?c2 ?c3 ?c4 ?_); (case c1 => walk_at "hp"); (case c2 => assumption); (case c3 => assumption); (case c4 => exact rfl))
  | with_reducible refine i_sfld ?_
  | ((with_reducible refine' i_sfldI ?c1 ?c2 ?c3 ?c4 ?c5 ?_); (case c1 => walk_at "hp"); (case c2 => assumption); (case c3 => assumption); (case c4 => exact rfl); (case c5 => exact (Nat.le_of_ble_eq_true rfl)))
  | with_reducible refine i_meS ?_
  | with_reducible refine i_meth ?_
  | ((with_reducible refine' i_recv ?c1 ?c2 ?_); (case c1 => walk_at "hp"); (case c2 => exact rfl))
  | with_reducible refine i_mkS ?_
  | with_reducible refine i_mkNS ?_
  | with_reducible refine i_callNS ?_
  | with_reducible refine i_callSD ?_
  | with_reducible refine i_forE ?_
  | with_reducible refine i_forZ ?_
  | with_reducible refine i_lcE ?_
  | with_reducible refine i_lcZ ?_
  | ((with_reducible refine' i_aug ?c1 ?_); (case c1 => exact rfl))
  | with_reducible refine And.intro (rfl : V.non = V.non) ?_
  | with_reducible refine i_bm ?_
  | with_reducible refine i_bm0 ?_
  | ((with_reducible refine' i_lenL ?c1 ?_); (case c1 => walk_at "hp"))
  | ((with_reducible refine' i_lenT ?c1 ?_); (case c1 => walk_at "hp"))
  | ((with_reducible refine' i_listL ?c1 ?_); (case c1 => walk_at "hp"))
  | ((with_reducible refine' i_listT ?c1 ?_); (case c1 => walk_at "hp"))
  | ((with_reducible refine' i_tupleL ?c1 ?_); (case c1 => walk_at "hp"))
  | ((with_reducible refine' i_tupleT ?c1 ?_); (case c1 => walk_at "hp"))
  | ((with_reducible refine' i_tyL ?c1 ?_); (case c1 => walk_at "hp"))
  | ((with_reducible refine' i_app ?c1 ?c2 ?_); (case c1 => walk_at "hp"); (case c2 => first | assumption | omega | (simp; done) | ((simp only [List.length_map, List.length_append, List.length_take]); omega)))
  | ((with_reducible refine' i_slL ?c1 ?_); (case c1 => walk_at "hp"))
  | ((with_reducible refine' i_gtup ?c1 ?c2 ?_); (case c1 => walk_at "hp"); (case c2 => exact rfl)))
local macro_rules | `(tactic| walk_at "sw") => `(tactic| ((try dsimp only); repeat walk_at "sw3"))
local macro_rules | `(tactic| walk_at "arr") => `(tactic| (intro vs zs h; first
  | (match zs, h with | [_], _ => rfl)
  | (match zs, h with | [_, _], _ => rfl)
  | (match zs, h with | [_, _, _], _ => rfl)
  | (match zs, h with | [_, _, _, _], _ => rfl)))
local macro_rules | `(tactic| walk_at "aw1") => `(tactic| first
  | with_reducible refine w_seq ?_
  | with_reducible refine w_next ?_
  | with_reducible refine w_set ?_
  | with_reducible refine w_setO ?_
  | with_reducible refine w_drop ?_
  | with_reducible refine w_ret ?_
  | with_reducible refine w_retO ?_
  | with_reducible refine w_retN ?_
  | with_reducible refine w_if ?_
  | with_reducible refine w_brk ?_
  | with_reducible refine w_cnt ?_
  | with_reducible refine w_raise ?_
  | with_reducible refine w_c ?_
  | with_reducible refine w_op ?_
  | with_reducible refine w_opO ?_
  | with_reducible refine w_un ?_
  | with_reducible refine w_oI ?_
  | with_reducible refine w_oU ?_
  | with_reducible refine w_isN0 ?_
  | with_reducible refine w_isNi ?_
  | with_reducible refine w_isNl ?_
  | with_reducible refine w_isNt ?_
  | with_reducible refine w_isNs ?_
  | with_reducible refine w_isNo ?_
  | with_reducible refine w_notN0 ?_
  | with_reducible refine w_notNi ?_
  | with_reducible refine w_notNl ?_
  | with_reducible refine w_notNt ?_
  | with_reducible refine w_notNs ?_
  | with_reducible refine w_notNo ?_
  | with_reducible refine w_fz ?_
  | with_reducible refine w_frzL ?_
  | with_reducible refine w_frzF ?_
  | with_reducible refine w_up ?_
  | with_reducible refine w_call0 ?_
  | with_reducible refine w_call ?_
  | with_reducible refine w_arg ?_
  | with_reducible refine w_args ?_
  | with_reducible refine w_nil ?_
  | with_reducible refine w_cons ?_
  | with_reducible refine w_tup ?_
  | with_reducible refine w_lst ?_
  | with_reducible refine w_test ?_
  | with_reducible refine w_blQ ?_
  | with_reducible refine w_not ?_
  | with_reducible refine w_and ?_
  | with_reducible refine w_or ?_
  | with_reducible refine w_andV ?_
  | with_reducible refine w_orV ?_
  | with_reducible refine w_notV ?_
  | with_reducible refine w_ifE ?_
  | with_reducible refine w_chain ?_
  | with_reducible refine w_cT ?_
  | with_reducible refine w_cF ?_
  | with_reducible refine w_cNT ?_
  | with_reducible refine w_cNF ?_
  | with_reducible refine w_cN ?_
  | with_reducible refine w_cb ?_
  | with_reducible refine w_cbO ?_
  | with_reducible refine w_lenL ?_
  | with_reducible refine w_lenT ?_
  | with_reducible refine w_listL ?_
  | with_reducible refine w_listT ?_
  | with_reducible refine w_tupleL ?_
  | with_reducible refine w_tupleT ?_
  | with_reducible refine w_fld ?_
  | with_reducible refine w_lstQ ?_
  | with_reducible refine w_tupQ ?_
  | with_reducible refine w_intQ ?_
  | with_reducible refine w_oneQ ?_
  | with_reducible refine w_twoQ ?_
  | with_reducible refine w_for ?_
  | with_reducible refine w_itL ?_
  | with_reducible refine w_itT ?_
  | with_reducible refine w_rng1 ?_
  | with_reducible refine w_rng2 ?_
  | with_reducible refine w_enum ?_
  | with_reducible refine w_zip ?_
  | with_reducible refine w_zipS ?_
  | with_reducible refine w_lenO ?_
  | with_reducible refine w_lcST ?_
  | with_reducible refine w_asg ?_
  | with_reducible refine w_gN ?_
  | with_reducible refine w_gsCons ?_
  | with_reducible refine w_gsNil ?_
  | with_reducible refine w_par ?_
  | with_reducible refine w_lc ?_
  | with_reducible refine w_yes ?_
  | with_reducible refine w_rev ?_
  | with_reducible refine w_sl ?_
  | with_reducible refine w_slO ?_
  | with_reducible refine w_noPart ?_
  | with_reducible refine w_part ?_
  | with_reducible refine w_slL ?_
  | with_reducible refine w_slT ?_
  | ((with_reducible refine' w_slot ?c1 ?_); (case c1 => exact rfl))
  | ((with_reducible refine' w_app ?c1 ?_); (case c1 => exact rfl))
  | ((with_reducible refine' w_put ?c1 ?_); (case c1 => exact rfl))
  | ((with_reducible refine' w_ext ?c1 ?_); (case c1 => exact rfl))
  | ((with_reducible refine' w_aug ?c1 ?_); (case c1 => exact rfl))
  | ((with_reducible refine' w_olQ ?c1 ?_); (case c1 => exact rfl))
  | ((with_reducible refine' w_sealL ?c1 ?_); (case c1 => exact rfl))
  | ((with_reducible refine' w_sealF ?c1 ?_); (case c1 => exact rfl))
  | ((with_reducible refine' w_retV ?c1 ?_); (case c1 => exact rfl))
  | ((with_reducible refine' w_var ?c1 ?_); (case c1 => exact rfl))
  | ((with_reducible refine' w_varW ?c1 ?c2 ?_); (case c1 => exact rfl); (case c2 => exact rfl))
  | ((with_reducible refine' w_callQ ?c1 ?c2 ?_); (case c1 => exact (Nat.le_of_ble_eq_true rfl)); (case c2 => exact rfl))
  | ((with_reducible refine' w_oIC ?c1 ?_); (case c1 => (dsimp only; walk_at "cc")))
  | ((with_reducible refine' w_oIC ?c1 ?_); (case c1 => walk_at "cc"))
  | ((with_reducible refine' w_oEq ?c1 ?_); (case c1 => exact rfl))
  | ((with_reducible refine' w_oNe ?c1 ?_); (case c1 => exact rfl))
  | ((with_reducible refine' w_fldQ ?c1 ?_); (case c1 => exact rfl))
  | ((with_reducible refine' w_gT ?c1 ?_); (case c1 => exact rfl))
  | ((with_reducible refine' w_isiT ?c1 ?c2 ?c3 ?_); (case c1 => exact rfl); (case c2 => decide); (case c3 => decide))
  | ((with_reducible refine' w_isiF ?c1 ?c2 ?c3 ?_); (case c1 => exact rfl); (case c2 => decide); (case c3 => decide))
  | (with_reducible refine And.intro (Nat.le_of_ble_eq_true rfl : List.length _ ≤ 1000000) ?_)
  | (with_reducible refine And.intro (Nat.le_of_ble_eq_true rfl : List.length _ < 1000000) ?_))
local macro_rules | `(tactic| walk_at "am1") => `(tactic| first
  | with_reducible refine m_set ?_
  | with_reducible refine m_setO ?_
  | with_reducible refine m_drop ?_
  | with_reducible refine m_ret ?_
  | with_reducible refine m_retO ?_
  | with_reducible refine m_E ?_
  | with_reducible refine m_O ?_
  | with_reducible refine m_fz ?_
  | with_reducible refine m_up ?_
  | with_reducible refine m_nil ?_
  | with_reducible refine m_cons ?_
  | with_reducible refine m_nilO ?_
  | with_reducible refine m_consO ?_
  | with_reducible refine m_tup ?_
  | with_reducible refine m_lst ?_
  | with_reducible refine m_lstO ?_
  | with_reducible refine m_call0 ?_
  | with_reducible refine m_call ?_
  | with_reducible refine m_lc ?_
  | ((with_reducible refine' m_app ?c1 ?_); (case c1 => exact rfl))
  | ((with_reducible refine' m_appN ?c1 ?_); (case c1 => exact rfl))
  | ((with_reducible refine' w_onQ ?c1 ?_); (case c1 => exact rfl))
  | ((with_reducible refine' w_slotO ?c1 ?_); (case c1 => exact rfl))
  | ((with_reducible refine' m_callM ?c1 ?c2 ?_); (case c1 => exact rfl); (case c2 => exact rfl))
  | with_reducible refine w_callF ?_
  | ((with_reducible refine' w_callFQ ?c1 ?_); (case c1 => exact rfl))
  | with_reducible refine w_fltI ?_
  | with_reducible refine w_max2 ?_
  | with_reducible refine w_min2 ?_
  | with_reducible refine w_bmS ?_
  | with_reducible refine w_strQ ?_
  | with_reducible refine w_lenSet ?_
  | with_reducible refine w_dInF ?_
  | with_reducible refine w_dInT ?_
  | with_reducible refine w_dGet ?_
  | with_reducible refine w_keyS ?_
  | with_reducible refine w_dKQ ?_
  | with_reducible refine w_okQ ?_
  | with_reducible refine w_dPutF ?_
  | with_reducible refine w_mk00 ?_
  | ((with_reducible refine' w_obfQ ?c1 ?c2 ?c3 ?_); (case c1 => exact rfl); (case c2 => exact rfl); (case c3 => exact rfl))
  | ((with_reducible refine' w_fldS ?c1 ?c2 ?c3 ?c4 ?_); (case c1 => exact rfl); (case c2 => exact rfl); (case c3 => exact rfl); (case c4 => exact rfl))
  | ((with_reducible refine' w_lcD ?c1 ?c2 ?c3 ?_); (case c1 => exact rfl); (case c2 => exact rfl); (case c3 => exact rfl))
  | ((with_reducible refine' m_me ?c1 ?c2 ?_); (case c1 => exact rfl); (case c2 => exact rfl))
  | ((with_reducible refine' m_me0 ?c1 ?c2 ?_); (case c1 => exact rfl); (case c2 => exact rfl))
  | ((with_reducible refine' m_meN0 ?c1 ?c2 ?_); (case c1 => exact rfl); (case c2 => exact rfl))
  | with_reducible refine m_ifM ?_
  | with_reducible refine m_T ?_
  | with_reducible refine m_test ?_
  | with_reducible refine m_not ?_
  | with_reducible refine m_or ?_
  | with_reducible refine m_and ?_
  | with_reducible refine m_opL ?_
  | with_reducible refine w_tupE ?_
  | with_reducible refine w_lenD ?_
  | ((with_reducible refine' m_lenOwn ?c1 ?_); (case c1 => exact rfl))
  | ((with_reducible refine' m_meD0 ?c1 ?c2 ?_); (case c1 => exact rfl); (case c2 => exact rfl)))
local macro_rules | `(tactic| walk_at "aw") => `(tactic| ((repeat (first | walk_at "aw1" | walk_at "am1")); (try dsimp only [List.set_cons_zero, List.set_cons_succ])))
local macro_rules | `(tactic| walk_at "rg") => `(tactic| ((try rw [List.length_map]); (refine ⟨⟨by omega, by omega⟩, ?_⟩); (rw [Int.toNat_natCast])))
local macro_rules | `(tactic| walk_at "awt") => `(tactic| (repeat (first | walk_at "aw1" | walk_at "am1" | ((with_reducible refine' w_catT ?c1 ?_); (case c1 => exact Nat.le_of_ble_eq_true rfl)) | ((with_reducible refine' w_ixT ?c1 ?_); (case c1 => exact rfl)))))
local macro_rules | `(tactic| walk_at "am1") => `(tactic| first
  | with_reducible refine w_enumT ?_
  | with_reducible refine w_rng3 ?_
  | with_reducible refine w_threeQ ?_
  | with_reducible refine w_fltB ?_
  | with_reducible refine m_opRO ?_)
local macro_rules | `(tactic| walk_at "kbr") => `(tactic| (repeat' (first | exact trivial | exact fun _ => rfl | exact fun U => ⟨_, _, rfl, by first | exact (by assumption : ∀ H : Hp, SqT _ H _ _) U | assumption, rfl⟩ | refine And.intro ?_ ?_)))
local macro_rules | `(tactic| walk_at "drs") => `(tactic| first
  | exact fun _ => ⟨_, _, rfl, rfl, rfl⟩
  | exact fun U => ⟨_, _, rfl, rfl, _, _, rfl, ⟨_, _, rfl, (by assumption : ∀ H : Hp, SqT _ H _ _) U, rfl⟩, rfl⟩)
local macro_rules | `(tactic| walk_at "am1") => `(tactic| first
  | with_reducible refine w_stT ?_
  | with_reducible refine w_sortK ?_
  | with_reducible refine w_lcN ?_
  | with_reducible refine w_callN0 ?_
  | with_reducible refine w_callN ?_
  | with_reducible refine w_callV0 ?_
  | with_reducible refine w_callV ?_
  | with_reducible refine w_callD0 ?_
  | with_reducible refine w_callD ?_)
local macro_rules | `(tactic| walk_at "hnds") => `(tactic| (repeat' first
  | exact HndsR.nil
  | (refine HndsR.named rfl rfl (fun a D o => ?_) ?_)
  | (refine HndsR.only (fun a D o => ?_) ?_)))
local macro_rules | `(tactic| walk_at "am1") => `(tactic| first
  | with_reducible refine w_dInTF ?_
  | with_reducible refine w_dInTT ?_
  | with_reducible refine w_dGetT ?_
  | with_reducible refine w_dGet2T ?_
  | with_reducible refine w_dTQ ?_
  | with_reducible refine w_dPutS ?_
  | ((with_reducible refine' w_okS ?c1 ?_); (case c1 => exact rfl))
  | with_reducible refine w_dPutT ?_
  | ((with_reducible refine' w_otS ?c1 ?_); (case c1 => exact rfl))
  | with_reducible refine w_dNew ?_
  | with_reducible refine w_dNewT ?_
  | with_reducible refine w_lenTD ?_
  | with_reducible refine w_dcT ?_
  | with_reducible refine w_mkA0 ?_
  | with_reducible refine w_mkA ?_
  | ((with_reducible refine' w_try ?c1 ?c2 ?_); (case c1 => exact rfl); (case c2 => exact rfl)))
local macro_rules | `(tactic| walk_at "am1") => `(tactic| first
  | with_reducible refine w_raiseX1 ?_
  | with_reducible refine w_raiseX2 ?_
  | ((with_reducible refine' w_clr ?c1 ?_); (case c1 => exact rfl)))
namespace SW
open PySem L2
variable [QN]
def top (i : Nat) : Stmt := PySem.Challenge.pw_slotwright_k27_table_told.main.body.getD i (.Pass ⟨0, 0, 0, 0⟩)
abbrev s_NoName_init : Stmt := inClass (top 2) 0
abbrev s_Table_init : Stmt := inClass (top 4) 0
abbrev s_Table_told : Stmt := inClass (top 4) 1
abbrev s_Table_of : Stmt := inClass (top 4) 2
abbrev s_Table_eq : Stmt := inClass (top 4) 3
abbrev s_Table_len : Stmt := inClass (top 4) 4
abbrev s_law_start : Stmt := top 6
abbrev s_law_draw : Stmt := top 7
abbrev s_law_missing : Stmt := top 9
abbrev s_law_name : Stmt := top 8
abbrev s_law_some : Stmt := top 10
abbrev s_law : Stmt := top 11
theorem sc_NoName_init : FnScope ["self", "name"] ["self", "name"] (defScope s_NoName_init) := ⟨rfl, rfl, rfl, by decide +kernel, rfl, by decide +kernel, by decide +kernel⟩
theorem sc_Table_init : FnScope ["self", "rows", "name", "way", "starts"] ["self", "rows"] (defScope s_Table_init) := ⟨rfl, rfl, rfl, by decide +kernel, rfl, by decide +kernel, by decide +kernel⟩
theorem sc_Table_told : FnScope ["self", "name", "way"] ["self"] (defScope s_Table_told) := ⟨rfl, rfl, rfl, by decide +kernel, rfl, by decide +kernel, by decide +kernel⟩
theorem sc_Table_of : FnScope ["self", "name", "way"] ["self", "name", "way"] (defScope s_Table_of) := ⟨rfl, rfl, rfl, by decide +kernel, rfl, by decide +kernel, by decide +kernel⟩
theorem sc_Table_eq : FnScope ["self", "other"] ["self", "other"] (defScope s_Table_eq) := ⟨rfl, rfl, rfl, by decide +kernel, rfl, by decide +kernel, by decide +kernel⟩
theorem sc_Table_len : FnScope ["self"] ["self"] (defScope s_Table_len) := ⟨rfl, rfl, rfl, by decide +kernel, rfl, by decide +kernel, by decide +kernel⟩
theorem sc_law_start : FnScope ["_law_script"] ["_law_script"] (defScope s_law_start) := ⟨rfl, rfl, rfl, by decide +kernel, rfl, by decide +kernel, by decide +kernel⟩
theorem sc_law_draw : FnScope ["_law_s", "_law_many", "_law_cell", "_law_found"] ["_law_s", "_law_many"] (defScope s_law_draw) := ⟨rfl, rfl, rfl, by decide +kernel, rfl, by decide +kernel, by decide +kernel⟩
theorem sc_law_missing : FnScope ["_law_table", "_law_name_here", "_law_way", "_law_got", "e"] ["_law_table", "_law_name_here", "_law_way"] (defScope s_law_missing) := ⟨rfl, rfl, rfl, by decide +kernel, rfl, by decide +kernel, by decide +kernel⟩
theorem sc_law_name : FnScope ["_law_s", "_law_names", "_law_letters", "_law_turn", "_law_size", "_law_word", "_law_k"] ["_law_s", "_law_names"] (defScope s_law_name) := ⟨rfl, rfl, rfl, by decide +kernel, rfl, by decide +kernel, by decide +kernel⟩
theorem sc_law_some : FnScope ["_law_s", "_law_names", "_law_rows", "_law_k", "_law_name_here", "_law_way", "_law_h"] ["_law_s", "_law_names"] (defScope s_law_some) := ⟨rfl, rfl, rfl, by decide +kernel, rfl, by decide +kernel, by decide +kernel⟩
theorem sc_law : FnScope ["_law_script", "_law_s", "_law_names", "_law_rows", "_law_other", "_law_handed", "_law_table", "_law_again", "_law_good", "_law_told", "_law_name_here", "_law_way", "_law_starts", "_law_rest", "_law_changed", "_law_row"] ["_law_script"] (defScope s_law) := ⟨rfl, rfl, rfl, by decide +kernel, rfl, by decide +kernel, by decide +kernel⟩
structure Tx (K : PySem.W.Frag) (mg : Str → Option Value) (base : Heap) where
  tb : List Addr
  c_Table : Addr
  g_Table : mg "Table" = some (.ref c_Table)
  C_Table : Cls K c_Table
  N_Table_starts : NoAttr K c_Table "starts"
  I_Table : IsiC K c_Table
  f_NoName_init : Addr
  fd_NoName_init : FuncData
  F_NoName_init : Fun K "__init__" "NoName.__init__" s_NoName_init f_NoName_init fd_NoName_init
  b_NoName_init : Binds K fd_NoName_init ["self", "name"] []
  f_Table_init : Addr
  fd_Table_init : FuncData
  e_Table_init_rows : Addr
  q_Table_init_rows : ∀ H : Hp, SqT K H e_Table_init_rows []
  P_Table_init : FunD K "__init__" "Table.__init__" (defArgs s_Table_init) (defBody s_Table_init) (defScope s_Table_init) [V.ref e_Table_init_rows] [] f_Table_init fd_Table_init
  b_Table_init : Binds K fd_Table_init ["self", "rows"] []
  m_Table_init : Meth K c_Table "__init__" f_Table_init
  f_Table_told : Addr
  fd_Table_told : FuncData
  F_Table_told : Fun K "told" "Table.told" s_Table_told f_Table_told fd_Table_told
  b_Table_told : Binds K fd_Table_told ["self"] []
  m_Table_told : Meth K c_Table "told" f_Table_told
  f_Table_of : Addr
  fd_Table_of : FuncData
  P_Table_of : FunD K "of" "Table.of" (defArgs s_Table_of) (defBody s_Table_of) (defScope s_Table_of) [V.int 0] [] f_Table_of fd_Table_of
  b_Table_of : Binds K fd_Table_of ["self", "name", "way"] []
  m_Table_of : Meth K c_Table "of" f_Table_of
  f_Table_eq : Addr
  fd_Table_eq : FuncData
  F_Table_eq : Fun K "__eq__" "Table.__eq__" s_Table_eq f_Table_eq fd_Table_eq
  b_Table_eq : Binds K fd_Table_eq ["self", "other"] []
  m_Table_eq : Meth K c_Table "__eq__" f_Table_eq
  f_Table_len : Addr
  fd_Table_len : FuncData
  F_Table_len : Fun K "__len__" "Table.__len__" s_Table_len f_Table_len fd_Table_len
  b_Table_len : Binds K fd_Table_len ["self"] []
  m_Table_len : Meth K c_Table "__len__" f_Table_len
  f_law_start : Addr
  fd_law_start : FuncData
  F_law_start : Fun K "_law_start" "_law_start" s_law_start f_law_start fd_law_start
  b_law_start : Binds K fd_law_start ["_law_script"] []
  g_law_start : mg "_law_start" = some (.ref f_law_start)
  f_law_draw : Addr
  fd_law_draw : FuncData
  F_law_draw : Fun K "_law_draw" "_law_draw" s_law_draw f_law_draw fd_law_draw
  b_law_draw : Binds K fd_law_draw ["_law_s", "_law_many"] []
  g_law_draw : mg "_law_draw" = some (.ref f_law_draw)
  f_law_missing : Addr
  fd_law_missing : FuncData
  F_law_missing : Fun K "_law_missing" "_law_missing" s_law_missing f_law_missing fd_law_missing
  b_law_missing : Binds K fd_law_missing ["_law_table", "_law_name_here", "_law_way"] []
  g_law_missing : mg "_law_missing" = some (.ref f_law_missing)
  f_law_name : Addr
  fd_law_name : FuncData
  F_law_name : Fun K "_law_name" "_law_name" s_law_name f_law_name fd_law_name
  b_law_name : Binds K fd_law_name ["_law_s", "_law_names"] []
  g_law_name : mg "_law_name" = some (.ref f_law_name)
  f_law_some : Addr
  fd_law_some : FuncData
  F_law_some : Fun K "_law_some" "_law_some" s_law_some f_law_some fd_law_some
  b_law_some : Binds K fd_law_some ["_law_s", "_law_names"] []
  g_law_some : mg "_law_some" = some (.ref f_law_some)
  f_law : Addr
  fd_law : FuncData
  F_law : Fun K "law" "law" s_law f_law fd_law
  b_law : Binds K fd_law ["_law_script"] []
  g_law : mg "law" = some (.ref f_law)
  M_Table : Mk K c_Table f_Table_init
  z_abs : mg "abs" = none
  z_isinstance : mg "isinstance" = none
  z_len : mg "len" = none
  z_list : mg "list" = none
  z_range : mg "range" = none
  z_sorted : mg "sorted" = none
  z_tuple : mg "tuple" = none
  c_NetError : Addr
  g_NetError : mg "NetError" = some (.ref c_NetError)
  k_base : PySem.W.subIn K (.ref c_NetError) (.type "BaseException") = some true
  k_dict : PySem.W.hasDictIn K c_NetError = true
  k_type : PySem.W.typeIn K (.ref c_NetError) = some (.type "type")
  k_get : PySem.W.specialIn K (.builtin "object.__class__") "__get__" = some (some (.builtin "getset_descriptor.__get__"))
  k_tak : PySem.W.takesIn K (.builtin "object.__class__") = some true
  c_NoName : Addr
  g_NoName : mg "NoName" = some (.ref c_NoName)
  e_NoName : ErrC K c_NoName c_NetError
  OX_NoName : OexC K c_NoName
  XF_NoName : XfC K c_NoName
  XI_NoName : PySem.W.findIn K (.ref c_NoName) "__init__" = some (some (.ref f_NoName_init))
  XT_NoName : PySem.W.typeIn K (.ref f_NoName_init) = some (.type "function")
  XN_NoName_name : PySem.W.findIn K (.ref c_NoName) "name" = some none
  k_nd : [c_NetError, c_NoName].Nodup
theorem kbp_Table_of_2 {K : PySem.W.Frag} {mg : Str → Option Value} {base : Heap} (T : Tx K mg base) : ∃ ds, Vals [V.int 0] ds ∧ Binds K T.fd_Table_of ["self", "name", "way"] ds :=
  T.P_Table_of.binds1 2 0 (by intro z; cases z) rfl (fun D kV doc pm an cdv ct us its h1 h2 => by
    match us, h1, its, h2 with
    | [_, _], _, [_], _ => exact ⟨_, rfl, rfl⟩)
theorem kbp_Table_init_1 {K : PySem.W.Frag} {mg : Str → Option Value} {base : Heap} (T : Tx K mg base) : ∃ ds, Vals [V.ref T.e_Table_init_rows] ds ∧ Binds K T.fd_Table_init ["self", "rows"] ds :=
  T.P_Table_init.binds1 1 0 (by intro z; cases z) rfl (fun D kV doc pm an cdv ct us its h1 h2 => by
    match us, h1, its, h2 with
    | [_], _, [_], _ => exact ⟨_, rfl, rfl⟩)
def spLaw (K : PySem.W.Frag) (tb : List Addr) : Sp := fun vs H Q _ => ∃ (a : Addr) (ns : List Int), vs = [.ref a] ∧ SqL K H a (ns.map V.int) ∧ ns.length ≤ 63 ∧ (∀ z ∈ ns, Builtin.Int.intBits z ≤ 1048576) ∧ (∀ p ∈ tb, LamX.TabS H p (QN.qn p)) ∧ ∀ H', Q (.bl true) H'
section
variable {P : Program} {w : World} {K : PySem.W.Frag} {mg : Str → Option Value} {base : Heap}
theorem ok_law_start (T : Tx K mg base) : FnOk P w K mg base CX0 1 T.f_law_start T.fd_law_start ["_law_script"] (spStart K) := by
  refine T.F_law_start.ok sc_law_start (fun vs H Q E h => ?_) (fun cdv A outer s H vs Q E hr h => ?_)
  · obtain ⟨a, ns, U, rfl, _⟩ := h
    rfl
  · obtain ⟨a, ns, U, rfl, hS, hU, q⟩ := h
    refine ⟨_, (pss_one (ps_ret (pe_lst (pa_cons (pe_callTy (call_listK (K := K) rfl) (by rfl) T.z_list bt_list (pa_cons (pe_slice (sl_listK (K := K) rfl) (pv 0) po_none (po_some pe_int)) pa_nil)) (pa_cons pe_int (pa_cons pe_int (pa_cons pe_int pa_nil))))))), ?_⟩
    walk_at "sw"
    refine ⟨a, _, rfl, hS, fun c nc => ?_⟩
    obtain ⟨ms, em⟩ := cut63 ns
    rw [em]
    have g1 : Gr [] U H U (upd H c (.lst (ms.map V.int))) := (Gr.refl hU).newM nc
    walk_at "sw"
    intro l nl
    have g2 := g1.new (o := .lst (ms.map V.int)) nl
    walk_at "sw"
    intro s ns'
    have g3 := g2.newM (o := .lst [.ref l, .int 0, .int 0, .int 90210]) ns'
    refine q s _ _ g3 ⟨⟨l, ms, 0, 0, 90210, upd_same, upd_same, Int.le_refl _, by omega, Int.le_refl _⟩, g2.vh.free ns'⟩ (g2.fresh ns')
theorem okh_law_draw (T : Tx K mg base) : FnOk P w K mg base CX0 1 T.f_law_draw T.fd_law_draw ["_law_s", "_law_many"] spDraw := by
  refine T.F_law_draw.ok sc_law_draw (fun vs H Q E h => ?_) (fun cdv A outer s0 H vs Q E hr h => ?_)
  · obtain ⟨s, many, U, rfl, _⟩ := h
    rfl
  · obtain ⟨s, many, U, rfl, h0, h2, hU, D, q⟩ := h
    obtain ⟨⟨l, ns, i, b, e, hs, hl, hi, hi2, hb⟩, hn⟩ := D
    have hlU := hU _ _ hl
    have sl : s ≠ l := fun z => by
      subst z
      rw [hn] at hl
      cases hl
    refine ⟨_, (pss_cons (ps_if (pt_cmpR op_eq (pe_ix (ix_listK (K := K) rfl) (pv 0) pe_int (fun _ _ => rfl)) pe_int (nomark _))
      (pss_cons (ps_set (i := 2) sc_law_draw.nd rfl (Or.inl rfl) pe_int)
      (pss_cons (ps_if (pt_cmpR op_lt (pe_ix (ix_listK (K := K) rfl) (pv 0) pe_int (fun _ _ => rfl)) (pe_callB (call_lenK (K := K) rfl) (by rfl) T.z_len bt_len (pa_cons (pe_ix (ix_listK (K := K) rfl) (pv 0) pe_int (fun _ _ => rfl)) pa_nil)) (nomark _))
      (pss_cons (ps_set (i := 2) sc_law_draw.nd rfl (Or.inl rfl) (pe_ix (ix_listK (K := K) rfl) (pe_ix (ix_listK (K := K) rfl) (pv 0) pe_int (fun _ _ => rfl)) (pe_ix (ix_listK (K := K) rfl) (pv 0) pe_int (fun _ _ => rfl)) (fun _ _ => rfl)))
      (pss_one (ps_asg (pe_op op_add (pe_ix (ix_listK (K := K) rfl) (pv 0) pe_int (fun _ _ => rfl)) pe_int) (pg_sub (pv 0) pe_int set_list))))
      pss_nil)
      (pss_one (ps_if ((pw_or (pt_cmpR op_ge (pv 2) (pe_op op_pow pe_int pe_int) (nomark _)) (pw_or1 (pt_cmpR op_le (pv 2) (pe_un un_neg (pe_op op_pow pe_int pe_int)) (nomark _))))).pt
      (pss_one (ps_asg (pe_callB call_abs (by rfl) T.z_abs bt_abs (pa_cons (pv 2) pa_nil)) (pg_sub (pv 0) pe_int set_list)))
      (pss_cons (ps_asg (pe_op op_mod (pe_op op_add (pe_op op_add (pe_op op_mul (pe_ix (ix_listK (K := K) rfl) (pv 0) pe_int (fun _ _ => rfl)) pe_int) (pe_op op_mod (pv 2) pe_int)) pe_int) pe_int) (pg_sub (pv 0) pe_int set_list))
      (pss_one (ps_ret (pe_op op_mod (pe_op op_fdiv (pe_ix (ix_listK (K := K) rfl) (pv 0) pe_int (fun _ _ => rfl)) pe_int) (pv 1)))))))))
      pss_nil)
      (pss_cons (ps_set (i := 3) sc_law_draw.nd rfl (Or.inl rfl) (pe_op op_mod (pe_ix (ix_listK (K := K) rfl) (pv 0) pe_int (fun _ _ => rfl)) (pv 1)))
      (pss_cons (ps_asg (pe_op op_fdivW (pe_ix (ix_listK (K := K) rfl) (pv 0) pe_int (fun _ _ => rfl)) (pv 1)) (pg_sub (pv 0) pe_int set_list))
      (pss_one (ps_ret (pv 3)))))), ?_⟩
    have w3 : ∀ z : Int, CDivW z many := fun z => wide_div h0 (b := 200) (by omega) (by decide) (by decide)
    -- the end, from a heap that has changed at s alone
    have fin : ∀ (H1 : Hp) (i1 b1 e1 : Int) (r : Int), (∀ a, a ≠ s → H1 a = H a) → H1 s = some (.lst [.ref l, .int i1, .int b1, .int e1]) → 0 ≤ i1 → i1 ≤ ns.length → 0 ≤ b1 → 0 ≤ r → r < many → Q (.int r) H1 := by
      intro H1 i1 b1 e1 r ho h1 a1 a2 a3 a4 a5
      refine q r H1 a4 a5 (fun a o ha => ?_) ⟨⟨l, ns, i1, b1, e1, h1, hl, a1, a2, a3⟩, hn⟩ ho
      have ne : a ≠ s := fun z => by
        subst z
        rw [hn] at ha
        cases ha
      rw [ho a ne]
      exact hU a o ha
    have tail : ∀ (H1 : Hp) (i1 b1 e1 : Int), (∀ a, a ≠ s → H1 a = H a) → H1 s = some (.lst [.ref l, .int i1, .int b1, .int e1]) → 0 ≤ i1 → i1 ≤ ns.length → 0 ≤ b1 →
        Q (.int (b1 % many)) (upd H1 s (.lst [.ref l, .int i1, .int (b1 / many), .int e1])) := by
      intro H1 i1 b1 e1 ho h1 a1 a2 a3
      refine fin _ i1 (b1 / many) e1 _ (fun a ne => ?_) upd_same a1 a2 (Int.ediv_nonneg a3 (by omega)) (Int.emod_nonneg _ (by omega)) (Int.emod_lt_of_pos _ h0)
      rw [upd_ne ne]
      exact ho a ne
    have ab : ∀ c : Int, 0 ≤ (if c < 0 then -c else c) := fun c => by split <;> omega
    have md : ∀ c : Int, 0 ≤ c % many ∧ c % many < many := fun c => ⟨Int.emod_nonneg _ (by omega), Int.emod_lt_of_pos _ h0⟩
    have un : ∀ (o : HO) (a : Addr), a ≠ s → upd H s o a = H a := fun o a ne => upd_ne ne
    have un2 : ∀ (o o' : HO) (a : Addr), a ≠ s → upd (upd H s o) s o' a = H a := fun o o' a ne => by rw [upd_ne ne, upd_ne ne]
    walk_at "sw"
    refine i_ite (fun h => ?_) (fun h => ?_)
    · walk_at "sw"
      refine i_ite (fun h => ?_) (fun h => ?_)
      · obtain ⟨j, rfl⟩ : ∃ j : Nat, i = (j : Int) := ⟨i.toNat, by omega⟩
        rw [List.length_map] at h
        have hj : j < ns.length := by omega
        walk_at "sw"
        refine i_ixL hlU (at_of (j := j) (v := V.int ns[j]) rfl (by rw [List.getElem?_map, List.getElem?_eq_getElem hj]; rfl)) ?_
        walk_at "sw"
        refine i_ite (fun h => ?_) (fun h => ?_)
        · walk_at "sw"
          exact tail _ (j + 1) _ e (un2 _ _) upd_same (by omega) (by omega) (ab _)
        · walk_at "sw"
          refine i_ite (fun h => ?_) (fun h => ?_)
          · walk_at "sw"
            exact tail _ (j + 1) _ e (un2 _ _) upd_same (by omega) (by omega) (ab _)
          · walk_at "sw"
            exact fin _ (j + 1) b _ _ (un2 _ _) upd_same (by omega) (by omega) hb (md _).1 (md _).2
      · walk_at "sw"
        refine i_ite (fun h => ?_) (fun h => ?_)
        · walk_at "sw"
          exact tail _ i _ e (un _) upd_same hi hi2 (ab _)
        · walk_at "sw"
          refine i_ite (fun h => ?_) (fun h => ?_)
          · walk_at "sw"
            exact tail _ i _ e (un _) upd_same hi hi2 (ab _)
          · walk_at "sw"
            exact fin _ i b _ _ (un _) upd_same hi hi2 hb (md _).1 (md _).2
    · walk_at "sw"
      exact tail H i b e (fun a _ => rfl) hs hi hi2 hb
abbrev A_law_draw (T : Tx K mg base) : AF := A_draw
theorem ok_law_draw (T : Tx K mg base) : FnOk P w K mg base CX0 1 T.f_law_draw T.fd_law_draw ["_law_s", "_law_many"] (spD K T.tb (A_law_draw T)) := (okh_law_draw T).imp draw_imp
theorem ok_NoName_init (T : Tx K mg base) : FnOk P w K mg base CX0 1 T.f_NoName_init T.fd_NoName_init ["self", "name"] (spX1 K "name") := by
  refine T.F_NoName_init.ok sc_NoName_init (fun vs H Q E h => ?_) (fun cdv A outer s0 H vs Q E hr h => ?_)
  · obtain ⟨a, C, y0, rfl, _⟩ := h
    rfl
  · obtain ⟨a, C, y0, rfl, k⟩ := id h
    exact ⟨_, (pss_one (ps_ost (pv 0) (pv 1))), run_x1 h⟩
def b_Table_init (T : Tx K mg base) : AS := (aFldSetO 0 T.c_Table "starts" (aDcT (aItLT 1) (gT 3 (gsCons (gN 2) (gsCons (gN 3) (gsCons (gN 4) gsNil)))) (aCons (aVar 2) (aCons (aVar 3) aNil)) (aVar 4) [2, 3, 4]))
abbrev A_Table_init (T : Tx K mg base) : AFM := bodyM [6, 0] 3 (b_Table_init T)
theorem A_Table_init_of (T : Tx K mg base) (c0 x0 : Addr) (n0 : List Str) (w0 : List V) (a0 : List AV) (d1 : D) {q : AV → List AV → Prop} {x : Exn → List AV → Prop} (h : b_Table_init T ⟨fun ρ => q (.fz .non) (mrg [.ob c0 x0 n0 w0 a0, .fz d1] (selM [true, false] ρ)), fun av ρ => q av (mrg [.ob c0 x0 n0 w0 a0, .fz d1] (selM [true, false] ρ)), fun _ => False, fun _ => False, fun e ρ => x e (mrg [.ob c0 x0 n0 w0 a0, .fz d1] (selM [true, false] ρ))⟩ [some (.ob c0 x0 n0 w0 a0), some (.fz d1), none, none, none]) : A_Table_init T [.ob c0 x0 n0 w0 a0, .fz d1] q x := ⟨rfl, h⟩
theorem ok_Table_init (T : Tx K mg base) : FnOk P w K mg base CX0 1 T.f_Table_init T.fd_Table_init ["self", "rows"] (spM K T.tb (A_Table_init T)) := by
  refine T.P_Table_init.ok sc_Table_init (fun vs H Q E h => spM_len h) (fun cdv A outer s0 H vs Q E hr h => ?_)
  have hst : L2.start ["self", "rows", "name", "way", "starts"] vs = vs.map some ++ List.replicate 3 none := by
    unfold L2.start
    rw [spM_len h]
    rfl
  have cl_Table := T.C_Table
  have na_Table_starts := T.N_Table_starts
  refine ⟨_, (pss_one (ps_fldK (K := K) rfl (pv 0) (pe_dcT (own := [("name", 2), ("way", 3), ("starts", 4)]) (Nat.lt_of_succ_lt (hu_of hr)) (by rfl) sc_Table_init.nd (pi_ltK (K := K) rfl (pv 1)) (blkOk_by (own := [("name", 2), ("way", 3), ("starts", 4)]) (N := ["self", "rows", "name", "way", "starts"]) (sc := defScope s_Table_init) (by decide +kernel)) (fun _ _ _ _ _ => (pg_tupK (K := K) (n := 3) rfl (by rfl) (pgs_cons (pg_name (i := 2) sc_Table_init.nd rfl (Or.inl rfl)) (pgs_cons (pg_name (i := 3) sc_Table_init.nd rfl (Or.inl rfl)) (pgs_cons (pg_name (i := 4) sc_Table_init.nd rfl (Or.inl rfl)) pgs_nil))))) (fun _ _ _ _ _ => pts_nil) (fun _ _ _ _ _ => (pe_tup (pa_cons (pv 2) (pa_cons (pv 3) pa_nil)))) (fun _ _ _ _ _ => (pv 4))) rfl)), run_bodyM h hst fun pk pv O M U0 H0 X => ?_⟩
  unfold b_Table_init
  exact (sim_fldSetO (by assumption) (by assumption) (sim_dcT (SimI.w sim_itLT) (sim_gT (sim_gsCons (sim_gN rfl) (sim_gsCons (sim_gN rfl) (sim_gsCons (sim_gN rfl) sim_gsNil)))) (sim_cons sim_var (sim_cons sim_var sim_nil)) sim_var rfl rfl))
def b_Table_told (T : Tx K mg base) : AS := (aRetO (aLcST (aFld T.c_Table "starts" (aVar 0)) (gT 2 (gsCons (gN 1) (gsCons (gN 2) gsNil))) aYes (aTup (aCons (aVar 1) (aCons (aVar 2) (aCons (aDGetT (aFld T.c_Table "starts" (aVar 0)) (aCons (aVar 1) (aCons (aVar 2) aNil))) aNil)))) [1, 2]))
abbrev A_Table_told (T : Tx K mg base) : AF := bodyA [false] 2 (b_Table_told T)
theorem A_Table_told_of (T : Tx K mg base) {d0 : D} {q : AV → Prop} {x : Exn → Prop} (h : b_Table_told T ⟨fun _ => q (.fz .non), fun av _ => q av, fun _ => False, fun _ => False, fun e _ => x e⟩ [some (.fz d0), none, none]) : A_Table_told T [.fz d0] q x := ⟨rfl, h⟩
theorem ok_Table_told (T : Tx K mg base) : FnOk P w K mg base CX0 1 T.f_Table_told T.fd_Table_told ["self"] (spD K T.tb (A_Table_told T)) := by
  refine T.F_Table_told.ok sc_Table_told (fun vs H Q E h => spD_len h) (fun cdv A outer s0 H vs Q E hr h => ?_)
  have hst : L2.start ["self", "name", "way"] vs = vs.map some ++ List.replicate 2 none := by
    unfold L2.start
    rw [spD_len h]
    rfl
  have cl_Table := T.C_Table
  have na_Table_starts := T.N_Table_starts
  refine ⟨_, (pss_one (ps_ret (pe_lc (own := [("name", 1), ("way", 2)]) (by rfl) sc_Table_told.nd (pi_listK (K := K) rfl (pe_callB (cr_sortT rfl (units65 hr)) (by rfl) T.z_sorted bt_sorted (pa_cons (pe_fldK (K := K) rfl (pv 0) rfl) pa_nil))) (blkOk_by (own := [("name", 1), ("way", 2)]) (N := ["self", "name", "way"]) (sc := defScope s_Table_told) (by decide +kernel)) (fun _ _ _ _ _ => (pg_tupK (K := K) (n := 2) rfl (by rfl) (pgs_cons (pg_name (i := 1) sc_Table_told.nd rfl (Or.inl rfl)) (pgs_cons (pg_name (i := 2) sc_Table_told.nd rfl (Or.inl rfl)) pgs_nil)))) (fun _ _ _ _ _ => pts_nil) (fun _ _ _ _ _ => (pe_tup (pa_cons (pv 1) (pa_cons (pv 2) (pa_cons (pe_dget (hu_of hr) (pe_fldK (K := K) rfl (pv 0) rfl) (pe_tup (pa_cons (pv 1) (pa_cons (pv 2) pa_nil))) (fun _ _ => rfl)) pa_nil)))))))), run_body h hst fun pk pv O M U0 H0 X => ?_⟩
  unfold b_Table_told
  exact (sim_retO (sim_lcST (SimE.w (sim_fld (by assumption) (by assumption) (SimE.w sim_var))) (sim_gTH (sim_gsCons (sim_gN rfl) (sim_gsCons (sim_gN rfl) sim_gsNil))) sim_yes (sim_tup (sim_cons sim_var (sim_cons sim_var (sim_cons (sim_dGetT (SimE.w (sim_fld (by assumption) (by assumption) (SimE.w sim_var))) (sim_cons sim_var (sim_cons sim_var sim_nil))) sim_nil)))) rfl rfl))
def b_Table_of (T : Tx K mg base) : AS := (aSeq (aIf (aTest (aDInT true (aCons (aVar 1) (aCons (aVar 2) aNil)) (aFld T.c_Table "starts" (aVar 0))))
    (aRaiseX1 T.c_NoName "name" (aCons (aVar 1) aNil))
    aNext)
    (aRet (aDGetT (aFld T.c_Table "starts" (aVar 0)) (aCons (aVar 1) (aCons (aVar 2) aNil)))))
abbrev A_Table_of (T : Tx K mg base) : AF := bodyA [false, false, false] 0 (b_Table_of T)
theorem A_Table_of_of (T : Tx K mg base) {d0 d1 d2 : D} {q : AV → Prop} {x : Exn → Prop} (h : b_Table_of T ⟨fun _ => q (.fz .non), fun av _ => q av, fun _ => False, fun _ => False, fun e _ => x e⟩ [some (.fz d0), some (.fz d1), some (.fz d2)]) : A_Table_of T [.fz d0, .fz d1, .fz d2] q x := ⟨rfl, h⟩
theorem ok_Table_of (T : Tx K mg base) : FnOk P w K mg base (L2.CX P w) 3 T.f_Table_of T.fd_Table_of ["self", "name", "way"] (spD K T.tb (A_Table_of T)) := by
  refine T.P_Table_of.ok sc_Table_of (fun vs H Q E h => spD_len h) (fun cdv A outer s0 H vs Q E hr h => ?_)
  have hst : L2.start ["self", "name", "way"] vs = vs.map some ++ List.replicate 0 none := by
    unfold L2.start
    rw [spD_len h]
    rfl
  have cl_Table := T.C_Table
  have na_Table_starts := T.N_Table_starts
  have ox_NoName := T.OX_NoName
  have xn_NoName_name := T.XN_NoName_name
  refine ⟨_, (pss_cons (ps_if (pt_cmp (pc_dnotin (hu_of hr) (pe_tup (pa_cons (pv 1) (pa_cons (pv 2) pa_nil))) (pe_fldK (K := K) rfl (pv 0) rfl)))
      (pss_one (ps_raiseX rfl (takes_of rfl rfl rfl rfl) (pmk_oex T.OX_NoName T.XI_NoName T.XT_NoName (ok_NoName_init T) (hr.mono (by decide)) T.b_NoName_init .nil pass0 (by rfl) T.g_NoName (pa_cons (pv 1) pa_nil))))
      pss_nil)
      (pss_one (ps_ret (pe_dget (hu_of hr) (pe_fldK (K := K) rfl (pv 0) rfl) (pe_tup (pa_cons (pv 1) (pa_cons (pv 2) pa_nil))) (fun _ _ => rfl))))), run_body h hst fun pk pv O M U0 H0 X => ?_⟩
  unfold b_Table_of
  exact (sim_seq (sim_if (sim_test (SimE.w (sim_dNotInT (sim_cons sim_var (sim_cons sim_var sim_nil)) (SimE.w (sim_fld (by assumption) (by assumption) (SimE.w sim_var))))))
    (sim_raiseX1 (by assumption) (by assumption) (fun _ _ _ _ h => h) (sim_cons sim_var sim_nil))
    sim_next)
    (sim_ret (sim_dGetT (SimE.w (sim_fld (by assumption) (by assumption) (SimE.w sim_var))) (sim_cons sim_var (sim_cons sim_var sim_nil)))))
def b_Table_eq (T : Tx K mg base) : AS := (aSeq (aIf (aNot (aTest (aCB (oIsC T.c_Table) (aCons (aVar 1) (aCons (aC (.adr T.c_Table)) aNil)))))
    (aRet (aC (.bl false)))
    aNext)
    (aRet (aOp oEqT (aFld T.c_Table "starts" (aVar 0)) (aFld T.c_Table "starts" (aVar 1)))))
abbrev A_Table_eq (T : Tx K mg base) : AF := bodyA [false, false] 0 (b_Table_eq T)
theorem A_Table_eq_of (T : Tx K mg base) {d0 d1 : D} {q : AV → Prop} {x : Exn → Prop} (h : b_Table_eq T ⟨fun _ => q (.fz .non), fun av _ => q av, fun _ => False, fun _ => False, fun e _ => x e⟩ [some (.fz d0), some (.fz d1)]) : A_Table_eq T [.fz d0, .fz d1] q x := ⟨rfl, h⟩
theorem ok_Table_eq (T : Tx K mg base) : FnOk P w K mg base CX0 1 T.f_Table_eq T.fd_Table_eq ["self", "other"] (spD K T.tb (A_Table_eq T)) := by
  refine T.F_Table_eq.ok sc_Table_eq (fun vs H Q E h => spD_len h) (fun cdv A outer s0 H vs Q E hr h => ?_)
  have hst : L2.start ["self", "other"] vs = vs.map some ++ List.replicate 0 none := by
    unfold L2.start
    rw [spD_len h]
    rfl
  have is_Table := T.I_Table
  have cL_Table := T.C_Table
  have cl_Table := T.C_Table
  have na_Table_starts := T.N_Table_starts
  refine ⟨_, (pss_cons (ps_if (pt_not (pt_val (pe_callB (call_isiKK (K := K) rfl) (by rfl) T.z_isinstance bt_isinstance (pa_cons (pv 1) (pa_cons (pe_glob (v := .ref T.c_Table) (by rfl) T.g_Table rfl) pa_nil)))))
      (pss_one (ps_ret pe_bl))
      pss_nil)
      (pss_one (ps_ret (pe_cmpR (op_eqT (K := K) rfl (units66 hr)) (pe_fldK (K := K) rfl (pv 0) rfl) (pe_fldK (K := K) rfl (pv 1) rfl) (by with_unfolding_all rfl))))), run_body h hst fun pk pv O M U0 H0 X => ?_⟩
  unfold b_Table_eq
  exact (sim_seq (sim_if (sim_not (sim_test (SimE.w (sim_cb (bu_isC (by assumption) (by assumption)) (sim_consW (SimE.w sim_var) (sim_consW (SimE.w sim_adr) sim_nilW))))))
    (sim_ret sim_bl)
    sim_next)
    (sim_ret (sim_op op_eqTD (SimE.w (sim_fld (by assumption) (by assumption) (SimE.w sim_var))) (SimE.w (sim_fld (by assumption) (by assumption) (SimE.w sim_var))))))
def b_Table_len (T : Tx K mg base) : AS := (aRet (aCB oLenT (aCons (aFld T.c_Table "starts" (aVar 0)) aNil)))
abbrev A_Table_len (T : Tx K mg base) : AF := bodyA [false] 0 (b_Table_len T)
theorem A_Table_len_of (T : Tx K mg base) {d0 : D} {q : AV → Prop} {x : Exn → Prop} (h : b_Table_len T ⟨fun _ => q (.fz .non), fun av _ => q av, fun _ => False, fun _ => False, fun e _ => x e⟩ [some (.fz d0)]) : A_Table_len T [.fz d0] q x := ⟨rfl, h⟩
theorem ok_Table_len (T : Tx K mg base) : FnOk P w K mg base CX0 1 T.f_Table_len T.fd_Table_len ["self"] (spD K T.tb (A_Table_len T)) := by
  refine T.F_Table_len.ok sc_Table_len (fun vs H Q E h => spD_len h) (fun cdv A outer s0 H vs Q E hr h => ?_)
  have hst : L2.start ["self"] vs = vs.map some ++ List.replicate 0 none := by
    unfold L2.start
    rw [spD_len h]
    rfl
  have cl_Table := T.C_Table
  have na_Table_starts := T.N_Table_starts
  refine ⟨_, (pss_one (ps_ret (pe_callB call_len_dT (by rfl) T.z_len bt_len (pa_cons (pe_fldK (K := K) rfl (pv 0) rfl) pa_nil)))), run_body h hst fun pk pv O M U0 H0 X => ?_⟩
  unfold b_Table_len
  exact (sim_ret (sim_cb bu_lenT (sim_consW (SimE.w (sim_fld (by assumption) (by assumption) (SimE.w sim_var))) sim_nilW)))
def b_law_missing (T : Tx K mg base) : AS := (aSeq (aSet 3 (aC (.str "none")))
    (aSeq (aTry K false [true, true, true, true, false] [⟨T.c_NoName, some 4, fun a D o => (aSet 3 (aXF a D o T.c_NoName "name" (aVar 4)))⟩]
    (aDrop (aFz (aMe T.c_Table "of" (A_Table_of T) (aVar 0) (aArg (aVar 1) (aArg (aVar 2) aArgs))))))
    (aRet (aVar 3))))
abbrev A_law_missing (T : Tx K mg base) : AF := bodyA [false, false, false] 2 (b_law_missing T)
theorem A_law_missing_of (T : Tx K mg base) {d0 d1 d2 : D} {q : AV → Prop} {x : Exn → Prop} (h : b_law_missing T ⟨fun _ => q (.fz .non), fun av _ => q av, fun _ => False, fun _ => False, fun e _ => x e⟩ [some (.fz d0), some (.fz d1), some (.fz d2), none, none]) : A_law_missing T [.fz d0, .fz d1, .fz d2] q x := ⟨rfl, h⟩
theorem ok_law_missing (T : Tx K mg base) : FnOk P w K mg base CX0 4 T.f_law_missing T.fd_law_missing ["_law_table", "_law_name_here", "_law_way"] (spD K T.tb (A_law_missing T)) := by
  refine T.F_law_missing.ok sc_law_missing (fun vs H Q E h => spD_len h) (fun cdv A outer s0 H vs Q E hr h => ?_)
  have hst : L2.start ["_law_table", "_law_name_here", "_law_way", "_law_got", "e"] vs = vs.map some ++ List.replicate 2 none := by
    unfold L2.start
    rw [spD_len h]
    rfl
  have cl_Table := T.C_Table
  refine ⟨_, (pss_cons (ps_set (i := 3) sc_law_missing.nd rfl (Or.inl rfl) pe_str)
      (pss_cons (ps_try_hs rfl rfl sc_law_missing.nd takes0 (fun W pn xe tk po =>
      (pss_one (ps_expr (pe_meS (pv 0) T.C_Table T.m_Table_of (ok_Table_of T) (hr.mono (by decide)) T.b_Table_of .nil (fun σ => passAt tk σ) (pa_cons (pv 1) (pa_cons (pv 2) pa_nil)))))) (.named ⟨rfl, by decide, .inl T.g_NoName⟩ (i := 4) rfl rfl (fun a oe cls d pn hz hf =>
      (pss_one (ps_set (i := 3) sc_law_missing.nd rfl (Or.inl rfl) (pe_xf (C := T.c_NoName) T.XF_NoName T.XN_NoName_name hz hf (pv 4))))) .nil))
      (pss_one (ps_ret (pv 3))))), run_body h hst fun pk pv O M U0 H0 X => ?_⟩
  unfold b_law_missing
  exact (sim_seq (sim_set rfl sim_str)
    (sim_seq (sim_try (zf := false) rfl (fun z => nomatch z) (HndsR.named rfl rfl (fun a D o => (sim_set rfl (sim_xf sim_var))) HndsR.nil) (fun W pk pv O M U0 H0 X => (sim_drop (sim_fz (sim_me (fun _ => rfl) sim_var (sim_arg sim_var (sim_arg sim_var sim_args)))))))
    (sim_ret sim_var)))
def b_law_name_1 (T : Tx K mg base) : AS := (aSeq (aSet 5 (aBmS oJoin (aC (.str "")) (aCons (aFz (aLc (aRng1 (aCons (aVar 4) aNil)) (gN 6) aYes (aOp oIxS (aVar 2) (aFz (aCall0 (A_law_draw T) (aSlot 0 (aArg (aC (.int 26)) aArgs))))) [6])) aNil)))
    (aIf (aTest (aOp oNotIn (aVar 5) (aVarW 1)))
    (aSeq (aApp 1 (aVar 5))
    (aRet (aVar 5)))
    aNext))
def b_law_name (T : Tx K mg base) : AS := (aSeq (aSet 2 (aC (.str "abcdefghijklmnopqrstuvwxyz")))
    (aSeq (aFor (aRng1 (aCons (aC (.int 4)) aNil)) (gN 3)
    (aSeq (aSet 4 (aOp oAdd (aC (.int 1)) (aFz (aCall0 (A_law_draw T) (aSlot 0 (aArg (aC (.int 3)) aArgs))))))
    (aSeq (aIf (aTest (aOp oEq (aVar 4) (aC (.int 3))))
    (aSet 4 (aOp oAdd (aC (.int 1)) (aFz (aCall0 (A_law_draw T) (aSlot 0 (aArg (aC (.int 8)) aArgs))))))
    aNext)
    (b_law_name_1 T))))
    (aSeq (aFor (aRng1 (aCons (aC (.int 104)) aNil)) (gN 6)
    (aSeq (aSet 5 (aOp oMulS (aOp oIxS (aVar 2) (aOp oMod (aVar 6) (aC (.int 26)))) (aOp oAdd (aC (.int 1)) (aOp oDiv (aVar 6) (aC (.int 26))))))
    (aIf (aTest (aOp oNotIn (aVar 5) (aVarW 1)))
    (aSeq (aApp 1 (aVar 5))
    (aRet (aVar 5)))
    aNext)))
    (aRet (aC (.str "zzzzzzzz"))))))
abbrev A_law_name (T : Tx K mg base) : AFM := bodyM [4, 1] 5 (b_law_name T)
theorem A_law_name_of (T : Tx K mg base) (l1 : List D) {q : AV → List AV → Prop} {x : Exn → List AV → Prop} (h : b_law_name T ⟨fun ρ => q (.fz .non) (mrg [.dr, .ol l1] (selM [true, true] ρ)), fun av ρ => q av (mrg [.dr, .ol l1] (selM [true, true] ρ)), fun _ => False, fun _ => False, fun e ρ => x e (mrg [.dr, .ol l1] (selM [true, true] ρ))⟩ [some (.dr), some (.ol l1), none, none, none, none, none]) : A_law_name T [.dr, .ol l1] q x := ⟨rfl, h⟩
theorem ok_law_name (T : Tx K mg base) : FnOk P w K mg base CX0 2 T.f_law_name T.fd_law_name ["_law_s", "_law_names"] (spM K T.tb (A_law_name T)) := by
  refine T.F_law_name.ok sc_law_name (fun vs H Q E h => spM_len h) (fun cdv A outer s0 H vs Q E hr h => ?_)
  have hst : L2.start ["_law_s", "_law_names", "_law_letters", "_law_turn", "_law_size", "_law_word", "_law_k"] vs = vs.map some ++ List.replicate 5 none := by
    unfold L2.start
    rw [spM_len h]
    rfl
  refine ⟨_, (pss_cons (ps_set (i := 2) sc_law_name.nd rfl (Or.inr rfl) pe_str)
      (pss_cons (ps_for PassesOwn.never rfl (pi_range1 (by rfl) T.z_range (pa_cons pe_int pa_nil)) (pg_name (i := 3) sc_law_name.nd rfl (Or.inl rfl))
      (pss_cons (ps_set (i := 4) sc_law_name.nd rfl (Or.inl rfl) (pe_op op_add pe_int (pe_call (ok_law_draw T) (hr.mono (by decide)) (by rfl) T.g_law_draw T.F_law_draw.kp T.b_law_draw .nil pass0 (pa_cons (pv 0) (pa_cons pe_int pa_nil)))))
      (pss_cons (ps_if (pt_cmpR op_eq (pv 4) pe_int (nomark _))
      (pss_one (ps_set (i := 4) sc_law_name.nd rfl (Or.inl rfl) (pe_op op_add pe_int (pe_call (ok_law_draw T) (hr.mono (by decide)) (by rfl) T.g_law_draw T.F_law_draw.kp T.b_law_draw .nil pass0 (pa_cons (pv 0) (pa_cons pe_int pa_nil))))))
      pss_nil)
      (pss_cons (ps_set (i := 5) sc_law_name.nd rfl (Or.inl rfl) (pe_bm PySem.F.plainAttrs_str PySem.F.slot_str_join PySem.F.type_str_join (mt_joinK (K := K) rfl) pe_str (pa_cons (pe_lc (own := [("_law_k", 6)]) (by rfl) sc_law_name.nd (pi_range1 (by rfl) T.z_range (pa_cons (pv 4) pa_nil)) (blkOk_by (own := [("_law_k", 6)]) (N := ["_law_s", "_law_names", "_law_letters", "_law_turn", "_law_size", "_law_word", "_law_k"]) (sc := defScope s_law_name) (by decide +kernel)) (fun _ _ _ _ _ => (pg_name (i := 6) sc_law_name.nd rfl (Or.inl rfl))) (fun _ _ _ _ _ => pts_nil) (fun _ _ _ _ _ => (pe_ix ix_str (pv 2) (pe_call (ok_law_draw T) (hr.mono (by decide)) (by rfl) T.g_law_draw T.F_law_draw.kp T.b_law_draw .nil pass0 (pa_cons (pv 0) (pa_cons pe_int pa_nil))) (fun _ _ => rfl)))) pa_nil)))
      (pss_one (ps_if (pt_cmpR (op_notInK (K := K) rfl) (pv 5) (pv 1) (by with_unfolding_all rfl))
      (pss_cons (ps_expr (pe_bm PySem.F.plainAttrs_list PySem.F.slot_list_append PySem.F.type_list_append mt_append (pv 1) (pa_cons (pv 5) pa_nil)))
      (pss_one (ps_ret (pv 5))))
      pss_nil))))))
      (pss_cons (ps_for PassesOwn.never rfl (pi_range1 (by rfl) T.z_range (pa_cons pe_int pa_nil)) (pg_name (i := 6) sc_law_name.nd rfl (Or.inl rfl))
      (pss_cons (ps_set (i := 5) sc_law_name.nd rfl (Or.inl rfl) (pe_op op_mulS (pe_ix ix_str (pv 2) (pe_op op_mod (pv 6) pe_int) (fun _ _ => rfl)) (pe_op op_add pe_int (pe_op op_fdiv (pv 6) pe_int))))
      (pss_one (ps_if (pt_cmpR (op_notInK (K := K) rfl) (pv 5) (pv 1) (by with_unfolding_all rfl))
      (pss_cons (ps_expr (pe_bm PySem.F.plainAttrs_list PySem.F.slot_list_append PySem.F.type_list_append mt_append (pv 1) (pa_cons (pv 5) pa_nil)))
      (pss_one (ps_ret (pv 5))))
      pss_nil))))
      (pss_one (ps_ret pe_str))))), run_bodyM h hst fun pk pv O M U0 H0 X => ?_⟩
  unfold b_law_name b_law_name_1
  exact (sim_seq (sim_set rfl sim_str)
    (sim_seq (sim_for (sim_rng1 (sim_consW (SimE.w sim_int) sim_nilW)) (sim_gN rfl)
    (sim_seq (sim_set rfl (sim_op (op_i0 (fun _ _ _ => rfl)) (SimE.w sim_int) (SimE.w (sim_fz (sim_call (sim_slot (sim_arg sim_int sim_args)))))))
    (sim_seq (sim_if (sim_test (SimE.w (sim_op op_eqS (SimE.w sim_var) (SimE.w sim_int))))
    (sim_set rfl (sim_op (op_i0 (fun _ _ _ => rfl)) (SimE.w sim_int) (SimE.w (sim_fz (sim_call (sim_slot (sim_arg sim_int sim_args)))))))
    sim_next)
    (sim_seq (sim_set rfl (sim_bmS mt_joinD (SimE.w sim_str) (sim_consW (SimE.w (sim_fz (sim_lc (SimI.w (sim_rng1 (sim_consW (SimE.w sim_var) sim_nilW))) (sim_gN rfl) sim_yes (sim_op op_ixS (SimE.w sim_var) (SimE.w (sim_fz (sim_call (sim_slot (sim_arg sim_int sim_args)))))) rfl rfl))) sim_nilW)))
    (sim_if (sim_test (SimE.w (sim_op op_notInS' (SimE.w sim_var) sim_varW)))
    (sim_seq (sim_app sim_var)
    (sim_ret sim_var))
    sim_next)))))
    (sim_seq (sim_for (sim_rng1 (sim_consW (SimE.w sim_int) sim_nilW)) (sim_gN rfl)
    (sim_seq (sim_set rfl (sim_op op_mulSD (SimE.w (sim_op op_ixS (SimE.w sim_var) (SimE.w (sim_op (op_ic (fun _ _ _ => rfl)) (SimE.w sim_var) (SimE.w sim_int))))) (SimE.w (sim_op (op_i0 (fun _ _ _ => rfl)) (SimE.w sim_int) (SimE.w (sim_op (op_ic (fun _ _ _ => rfl)) (SimE.w sim_var) (SimE.w sim_int)))))))
    (sim_if (sim_test (SimE.w (sim_op op_notInS' (SimE.w sim_var) sim_varW)))
    (sim_seq (sim_app sim_var)
    (sim_ret sim_var))
    sim_next)))
    (sim_ret sim_str))))
def b_law_some (T : Tx K mg base) : AS := (aSeq (aSetO 2 (aLst aNil))
    (aSeq (aFor (aRng1 (aCons (aFz (aCall0 (A_law_draw T) (aSlot 0 (aArg (aC (.int 5)) aArgs)))) aNil)) (gN 3)
    (aSeq (mSet 4 (mFz (mCall0 (A_law_name T) (aSlot 0 (aSlotO 1 aArgs)))))
    (aFor (aItL (aOp oIxL (aFz (aLst (aCons (aFz (aLst (aCons (aC (.int 0)) aNil))) (aCons (aFz (aLst (aCons (aC (.int 1)) aNil))) (aCons (aFz (aLst (aCons (aC (.int 1)) (aCons (aC (.int 0)) aNil)))) (aCons (aFz (aLst (aCons (aC (.int 0)) (aCons (aC (.int 1)) aNil)))) aNil)))))) (aFz (aCall0 (A_law_draw T) (aSlot 0 (aArg (aC (.int 4)) aArgs)))))) (gN 5)
    (aApp 2 (aTup (aCons (aVar 4) (aCons (aVar 5) (aCons (aCB oTuple (aCons (aFz (aLc (aRng1 (aCons (aOp oAdd (aC (.int 1)) (aFz (aCall0 (A_law_draw T) (aSlot 0 (aArg (aC (.int 3)) aArgs))))) aNil)) (gN 6) aYes (aFz (aCall0 (A_law_draw T) (aSlot 0 (aArg (aC (.int 500)) aArgs)))) [6])) aNil)) aNil))))))))
    (aRetV 2)))
abbrev A_law_some (T : Tx K mg base) : AFM := bodyM [4, 1] 5 (b_law_some T)
theorem A_law_some_of (T : Tx K mg base) (l1 : List D) {q : AV → List AV → Prop} {x : Exn → List AV → Prop} (h : b_law_some T ⟨fun ρ => q (.fz .non) (mrg [.dr, .ol l1] (selM [true, true] ρ)), fun av ρ => q av (mrg [.dr, .ol l1] (selM [true, true] ρ)), fun _ => False, fun _ => False, fun e ρ => x e (mrg [.dr, .ol l1] (selM [true, true] ρ))⟩ [some (.dr), some (.ol l1), none, none, none, none, none]) : A_law_some T [.dr, .ol l1] q x := ⟨rfl, h⟩
theorem ok_law_some (T : Tx K mg base) : FnOk P w K mg base CX0 3 T.f_law_some T.fd_law_some ["_law_s", "_law_names"] (spM K T.tb (A_law_some T)) := by
  refine T.F_law_some.ok sc_law_some (fun vs H Q E h => spM_len h) (fun cdv A outer s0 H vs Q E hr h => ?_)
  have hst : L2.start ["_law_s", "_law_names", "_law_rows", "_law_k", "_law_name_here", "_law_way", "_law_h"] vs = vs.map some ++ List.replicate 5 none := by
    unfold L2.start
    rw [spM_len h]
    rfl
  refine ⟨_, (pss_cons (ps_set (i := 2) sc_law_some.nd rfl (Or.inl rfl) (pe_lst pa_nil))
      (pss_cons (ps_for PassesOwn.never rfl (pi_range1 (by rfl) T.z_range (pa_cons (pe_call (ok_law_draw T) (hr.mono (by decide)) (by rfl) T.g_law_draw T.F_law_draw.kp T.b_law_draw .nil pass0 (pa_cons (pv 0) (pa_cons pe_int pa_nil))) pa_nil)) (pg_name (i := 3) sc_law_some.nd rfl (Or.inl rfl))
      (pss_cons (ps_set (i := 4) sc_law_some.nd rfl (Or.inl rfl) (pe_call (ok_law_name T) (hr.mono (by decide)) (by rfl) T.g_law_name T.F_law_name.kp T.b_law_name .nil pass0 (pa_cons (pv 0) (pa_cons (pv 1) pa_nil))))
      (pss_one (ps_for PassesOwn.never rfl (pi_listK (K := K) rfl (pe_ix (ix_listK (K := K) rfl) (pe_lst (pa_cons (pe_lst (pa_cons pe_int pa_nil)) (pa_cons (pe_lst (pa_cons pe_int pa_nil)) (pa_cons (pe_lst (pa_cons pe_int (pa_cons pe_int pa_nil))) (pa_cons (pe_lst (pa_cons pe_int (pa_cons pe_int pa_nil))) pa_nil))))) (pe_call (ok_law_draw T) (hr.mono (by decide)) (by rfl) T.g_law_draw T.F_law_draw.kp T.b_law_draw .nil pass0 (pa_cons (pv 0) (pa_cons pe_int pa_nil))) (fun _ _ => rfl))) (pg_name (i := 5) sc_law_some.nd rfl (Or.inl rfl))
      (pss_one (ps_expr (pe_bm PySem.F.plainAttrs_list PySem.F.slot_list_append PySem.F.type_list_append mt_append (pv 2) (pa_cons (pe_tup (pa_cons (pv 4) (pa_cons (pv 5) (pa_cons (pe_callTy (call_tupleK (K := K) rfl) (by rfl) T.z_tuple bt_tuple (pa_cons (pe_lc (own := [("_law_h", 6)]) (by rfl) sc_law_some.nd (pi_range1 (by rfl) T.z_range (pa_cons (pe_op op_add pe_int (pe_call (ok_law_draw T) (hr.mono (by decide)) (by rfl) T.g_law_draw T.F_law_draw.kp T.b_law_draw .nil pass0 (pa_cons (pv 0) (pa_cons pe_int pa_nil)))) pa_nil)) (blkOk_by (own := [("_law_h", 6)]) (N := ["_law_s", "_law_names", "_law_rows", "_law_k", "_law_name_here", "_law_way", "_law_h"]) (sc := defScope s_law_some) (by decide +kernel)) (fun _ _ _ _ _ => (pg_name (i := 6) sc_law_some.nd rfl (Or.inl rfl))) (fun _ _ _ _ _ => pts_nil) (fun _ _ _ _ _ => (pe_call (ok_law_draw T) (hr.mono (by decide)) (by rfl) T.g_law_draw T.F_law_draw.kp T.b_law_draw .nil pass0 (pa_cons (pv 0) (pa_cons pe_int pa_nil))))) pa_nil)) pa_nil)))) pa_nil))))))))
      (pss_one (ps_ret (pv 2))))), run_bodyM h hst fun pk pv O M U0 H0 X => ?_⟩
  unfold b_law_some
  exact (sim_seq (sim_setO rfl (sim_lst sim_nil))
    (sim_seq (sim_for (sim_rng1 (sim_consW (SimE.w (sim_fz (sim_call (sim_slot (sim_arg sim_int sim_args))))) sim_nilW)) (sim_gN rfl)
    (sim_seq (simM_set rfl (simM_fz (simM_call (sim_slot (sim_slotO sim_args)))))
    (sim_for (sim_itL (sim_op op_ixL (SimE.w (sim_fz (sim_lst (sim_cons (sim_fz (sim_lst (sim_cons sim_int sim_nil))) (sim_cons (sim_fz (sim_lst (sim_cons sim_int sim_nil))) (sim_cons (sim_fz (sim_lst (sim_cons sim_int (sim_cons sim_int sim_nil)))) (sim_cons (sim_fz (sim_lst (sim_cons sim_int (sim_cons sim_int sim_nil)))) sim_nil))))))) (SimE.w (sim_fz (sim_call (sim_slot (sim_arg sim_int sim_args))))))) (sim_gN rfl)
    (sim_app (sim_tup (sim_cons sim_var (sim_cons sim_var (sim_cons (sim_cb bu_tuple (sim_consW (SimE.w (sim_fz (sim_lc (SimI.w (sim_rng1 (sim_consW (SimE.w (sim_op (op_i0 (fun _ _ _ => rfl)) (SimE.w sim_int) (SimE.w (sim_fz (sim_call (sim_slot (sim_arg sim_int sim_args))))))) sim_nilW))) (sim_gN rfl) sim_yes (sim_fz (sim_call (sim_slot (sim_arg sim_int sim_args)))) rfl rfl))) sim_nilW)) sim_nil))))))))
    (sim_retV rfl)))
def b_law_1 (T : Tx K mg base) : AS := (aSeq (aSet 13 (aFz (aLc (aItL (aVar 3)) (gN 15) (aTest (aOp oNeD (aVar 15) (aTup (aCons (aVar 10) (aCons (aVar 11) (aCons (aVar 12) aNil)))))) (aVar 15) [15])))
    (aSeq (aSet 14 (aFz (aOpO oCat (aVar 13) (aFz (aLst (aCons (aTup (aCons (aVar 10) (aCons (aVar 11) (aCons (aOp oCatT (aSl oSlT (aVar 12) aNoPart (aPart (aUn oNeg (aC (.int 1))))) (aTup (aCons (aOp oAdd (aOp oIxT (aVar 12) (aUn oNeg (aC (.int 1)))) (aC (.int 1))) aNil))) aNil)))) aNil))))))
    (aIf (aOr (aTest (aOwnEq T.c_Table (A_Table_eq T) (aVar 6) (aFz (aMkA0 T.c_Table (A_Table_init T) (aCons (aVar 13) aNil))))) (aTest (aOwnEq T.c_Table (A_Table_eq T) (aVar 6) (aFz (aMkA0 T.c_Table (A_Table_init T) (aCons (aVar 14) aNil))))))
    (aRet (aC (.bl false)))
    aNext)))
def b_law (T : Tx K mg base) : AS := (aSeq (aSetO 2 (aLst aNil))
    (aSeq (mSet 3 (mFz (mCall0 (A_law_some T) (aSlot 1 (aSlotO 2 aArgs)))))
    (aSeq (mSet 4 (mFz (mCall0 (A_law_name T) (aSlot 1 (aSlotO 2 aArgs)))))
    (aSeq (aSetO 5 (aCBO oList (aCons (aVar 3) aNil)))
    (aSeq (aSet 6 (aFz (aMkF0 T.c_Table (A_Table_init T) 5)))
    (aSeq (aSet 7 (aFz (aMkA0 T.c_Table (A_Table_init T) (aCons (aCB oTuple (aCons (aFz (aRev (aVar 3))) aNil)) aNil))))
    (aSeq (aSet 8 (aOp oEqD (aVarW 5) (aVar 3)))
    (aSeq (aApp 5 (aTup (aCons (aVar 4) (aCons (aC (.int 0)) (aCons (aTup (aCons (aC (.int 1)) aNil)) aNil)))))
    (aSeq (aSetO 9 (aMe0 T.c_Table "told" (A_Table_told T) (aVar 6) aArgs))
    (aSeq (aIf (aOr (aNot (aTest (aVar 8))) (aOr (aNot (aTest (aCB oIsi (aCons (aVarW 9) (aCons (aC (.ty "list")) aNil))))) (aOr (aTest (aOp oNeD (aVarW 9) (aFz (aCBO oSortA (aCons (aVar 3) aNil))))) (aOr (aTest (aOp oNe (aLenO T.c_Table (A_Table_len T) (aVar 6)) (aCB oLen (aCons (aVar 3) aNil)))) (aNot (aTest (aOwnEq T.c_Table (A_Table_eq T) (aVar 6) (aVar 7))))))))
    (aRet (aC (.bl false)))
    aNext)
    (aSeq (aApp 9 (aTup (aCons (aVar 4) (aCons (aC (.int 0)) (aCons (aTup (aCons (aC (.int 1)) aNil)) aNil)))))
    (aSeq (aIf (aOr (aTest (aOp oNeD (aFz (aMe0 T.c_Table "told" (A_Table_told T) (aVar 6) aArgs)) (aFz (aCBO oSortA (aCons (aVar 3) aNil))))) (aOr (aTest (aOp oNe (aFz (aCall0 (A_law_missing T) (aArg (aVar 6) (aArg (aVar 4) (aArg (aC (.int 0)) aArgs))))) (aVar 4))) (aTest (aOwnEq T.c_Table (A_Table_eq T) (aVar 6) (aC (.str "table"))))))
    (aRet (aC (.bl false)))
    aNext)
    (aSeq (aFor (aItL (aVar 3)) (gT 3 (gsCons (gN 10) (gsCons (gN 11) (gsCons (gN 12) gsNil))))
    (aSeq (aIf (aOr (aTest (aOp oNeD (aFz (aMe0 T.c_Table "of" (A_Table_of T) (aVar 6) (aArg (aVar 10) (aArg (aVar 11) aArgs)))) (aVar 12))) (aAnd (aTest (aOp oEq (aVar 11) (aC (.int 0)))) (aTest (aOp oNeD (aFz (aMeD0 T.c_Table "of" (A_Table_of T) [0] (aVar 6) (aArg (aVar 10) aArgs))) (aVar 12)))))
    (aRet (aC (.bl false)))
    aNext)
    (aSeq (aIf (aTest (aOp oNotInD (aFz (aLst (aCons (aVar 10) (aCons (aOp oSub (aC (.int 1)) (aVar 11)) aNil)))) (aFz (aLc (aItL (aVar 3)) (gN 15) aYes (aFz (aLst (aCons (aOp oIxT (aVar 15) (aC (.int 0))) (aCons (aOp oIxT (aVar 15) (aC (.int 1))) aNil)))) [15]))))
    (aIf (aTest (aOp oNe (aFz (aCall0 (A_law_missing T) (aArg (aVar 6) (aArg (aVar 10) (aArg (aOp oSub (aC (.int 1)) (aVar 11)) aArgs))))) (aVar 10)))
    (aRet (aC (.bl false)))
    aNext)
    aNext)
    (b_law_1 T))))
    (aRet (aAndV (aOwnEq T.c_Table (A_Table_eq T) (aVar 6) (aFz (aMkA0 T.c_Table (A_Table_init T) (aCons (aVar 3) aNil)))) (aAndV (aNotV (aOwnEq T.c_Table (A_Table_eq T) (aVar 6) (aFz (aMkA0 T.c_Table (A_Table_init T) (aCons (aFz (aOpO oCat (aVar 3) (aFz (aLst (aCons (aTup (aCons (aVar 4) (aCons (aC (.int 0)) (aCons (aTup (aCons (aC (.int 1)) aNil)) aNil)))) aNil))))) aNil))))) (aOp oEq (aLenO T.c_Table (A_Table_len T) (aFz (aMkD0 T.c_Table (A_Table_init T)))) (aC (.int 0)))))))))))))))))))
theorem cut_init {α : Type} (f : α → D) (xs : List α) : cutD (xs.map f) none (some (-1)) = (xs.take (xs.length - 1)).map f := by
  unfold cutD
  rw [List.length_map]
  have e1 : HT.sIx xs.length 0 none = 0 := rfl
  have e2 : HT.sIx xs.length xs.length (some (-1)) = xs.length - 1 := by unfold HT.sIx; simp; omega
  rw [e1, e2, List.drop_zero, Nat.sub_zero, List.map_take]
theorem nodup_sub_len {α : Type} [DecidableEq α] : ∀ {l m : List α}, l.Nodup → (∀ x ∈ l, x ∈ m) → l.length ≤ m.length
  | [], m, _, _ => Nat.zero_le _
  | x :: l, m, nd, h => by
    obtain ⟨h1, h2⟩ := List.nodup_cons.mp nd
    have hx := h x List.mem_cons_self
    have := nodup_sub_len (m := m.erase x) h2 fun y hy => (List.mem_erase_of_ne fun z => h1 (by rw [← z]; exact hy)).mpr (h y (List.mem_cons_of_mem _ hy))
    rw [List.length_erase_of_mem hx] at this
    have hp : 0 < m.length := List.length_pos_of_mem hx
    rw [List.length_cons]
    omega
def GoodN (w : Str) : Prop := 1 ≤ w.length ∧ w.length ≤ 8 ∧ ∀ c ∈ w.cps.toList, 97 ≤ c ∧ c ≤ 122
theorem joinL1 : ∀ cs : List Nat, TL.joinL [] (cs.map fun c => [c]) = cs
  | [] => rfl
  | [c] => rfl
  | c :: d :: r => by
    have ih := joinL1 (d :: r)
    show [c] ++ ([] ++ TL.joinL [] ((d :: r).map fun c => [c])) = _
    rw [ih]
    rfl
theorem join1 (cs : List Nat) : Txt.join (Str.ofString "") (cs.map fun c => (⟨#[c]⟩ : Str)) = ⟨cs.toArray⟩ := by
  have := SX.join_S [] (cs.map fun c => [c])
  rw [joinL1, List.map_map] at this
  exact this
theorem inF_str {w : Str} : ∀ {ns : List Str}, inF (.str w) (ns.map .str) = decide (w ∈ ns)
  | [] => by simp [inF]
  | n :: ns => by
    have ih := inF_str (w := w) (ns := ns)
    unfold inF at ih ⊢
    rw [List.map_cons, List.any_cons, ih]
    show ((n == w) || decide (w ∈ ns)) = _
    by_cases h : n = w
    · subst h
      simp
    · have h' : ¬ w = n := fun z => h z.symm
      simp [h, h']
theorem flats_str : ∀ (ns : List Str), (ns.map D.str).all flatD = true
  | [] => rfl
  | n :: ns => by
    rw [List.map_cons, List.all_cons, flats_str ns]
    rfl
theorem letters_at {r : Int} (h0 : 0 ≤ r) (h1 : r < 26) : atI (Str.ofString "abcdefghijklmnopqrstuvwxyz").cps.toList r = some (97 + r.toNat) := by
  have key : ∀ n : Fin 26, atI (Str.ofString "abcdefghijklmnopqrstuvwxyz").cps.toList ((n.val : Nat) : Int) = some (97 + n.val) := by decide +kernel
  obtain ⟨n, rfl⟩ := Int.eq_ofNat_of_zero_le h0
  have := key ⟨n, by omega⟩
  rw [Int.toNat_natCast]
  exact this
def wordK (k : Nat) : Str := Txt.mul ⟨#[97 + k % 26]⟩ (1 + ((k / 26 : Nat) : Int))
theorem wordK_nd : ((List.range 104).map wordK).Nodup := by decide +kernel
theorem wordK_good : ∀ k : Fin 104, (1 ≤ (wordK k.val).length ∧ (wordK k.val).length ≤ 8) ∧ (wordK k.val).cps.toList.all (fun c => decide (97 ≤ c) && decide (c ≤ 122)) = true := by decide +kernel
theorem wordK_ok {k : Nat} (h : k < 104) : GoodN (wordK k) := by
  obtain ⟨⟨h1, h2⟩, h3⟩ := wordK_good ⟨k, h⟩
  refine ⟨h1, h2, fun c hc => ?_⟩
  have := List.all_eq_true.mp h3 c hc
  rw [Bool.and_eq_true] at this
  exact ⟨of_decide_eq_true this.1, of_decide_eq_true this.2⟩
theorem name_A (T : Tx K mg base) {ns : List Str} {q : AV → List AV → Prop} {x : Exn → List AV → Prop} (hl : ns.length < 104) (h : ∀ w, GoodN w → w ∉ ns → q (.fz (.str w)) [.dr, .ol ((ns ++ [w]).map .str)]) : A_law_name T [.dr, .ol (ns.map .str)] q x := by
  refine A_law_name_of T _ ?_
  have put : ∀ w : Str, ns.map D.str ++ [.str w] = (ns ++ [w]).map .str := fun w => by rw [List.map_append]; rfl
  have ll : (ns.map D.str).length < 1000000 := by rw [List.length_map]; omega
  unfold b_law_name
  walk_at "aw"
  refine ⟨⟨by omega, by omega⟩, ?_⟩
  refine loop_rng (fun i ρ => ∃ v3 v4 v5 v6 : Option AV, ρ = [some .dr, some (.ol (ns.map .str)), some (.fz (.str "abcdefghijklmnopqrstuvwxyz")), v3, v4, v5, v6]) ⟨none, none, none, none, rfl⟩ ?_ ?_
  · rintro i ρ K' hi ⟨v3, v4, v5, v6, rfl⟩ hK
    have tail : ∀ sz : Int, 1 ≤ sz → sz ≤ 8 → ∀ (v3 v5 v6 : Option AV) (N : AEnds), (∀ ρ, N.nx ρ = K' ρ) → (∀ av ρ, N.rt av ρ = q av (mrg [.dr, .ol (ns.map .str)] (selM [true, true] ρ))) → b_law_name_1 T N [some .dr, some (.ol (ns.map .str)), some (.fz (.str "abcdefghijklmnopqrstuvwxyz")), v3, some (.fz (.int sz)), v5, v6] := fun sz h1 h8 v3 v5 v6 N hn hr => by
      obtain ⟨nx, rt, bk, ct, ex⟩ := N
      obtain ⟨n, rfl⟩ := Int.eq_ofNat_of_zero_le (show 0 ≤ sz by omega)
      unfold b_law_name_1
      walk_at "aw"
      refine ⟨⟨by omega, by omega⟩, ?_⟩
      rw [Int.toNat_natCast]
      refine comp_rel (fun _ y => ∃ c : Nat, y = .str ⟨#[c]⟩ ∧ 97 ≤ c ∧ c ≤ 122) (by rw [rngD_len]; show 0 + _ ≤ _; omega) (fun d hd Q' k => ?_) fun ys hys => ?_
      · walk_at "aw"
        refine w_draw (by omega) (by omega) fun r r0 r1 => ?_
        walk_at "aw"
        refine w_ixS (by decide) (letters_at r0 r1) ?_
        exact k _ ⟨_, rfl, by omega, by omega⟩
      · obtain ⟨cs, rfl, lc, gc⟩ : ∃ cs : List Nat, ys = (cs.map fun c => (⟨#[c]⟩ : Str)).map .str ∧ cs.length = n ∧ ∀ c ∈ cs, 97 ≤ c ∧ c ≤ 122 := by
          have go : ∀ {xs : List D} {ys : List D}, Paired (fun _ y => ∃ c : Nat, y = .str ⟨#[c]⟩ ∧ 97 ≤ c ∧ c ≤ 122) xs ys → ∃ cs : List Nat, ys = (cs.map fun c => (⟨#[c]⟩ : Str)).map .str ∧ cs.length = xs.length ∧ ∀ c ∈ cs, 97 ≤ c ∧ c ≤ 122 := by
            intro xs ys hp
            induction hp with
            | nil => exact ⟨[], rfl, rfl, fun c hc => by cases hc⟩
            | cons h t ih =>
              obtain ⟨c, e, g⟩ := h
              obtain ⟨cs, e1, e2, e3⟩ := ih
              refine ⟨c :: cs, by rw [e, e1]; rfl, by rw [List.length_cons, List.length_cons, e2], fun d hd => ?_⟩
              rcases List.mem_cons.mp hd with rfl | hd
              · exact g
              · exact e3 d hd
          obtain ⟨cs, e1, e2, e3⟩ := go hys
          exact ⟨cs, e1, by rw [e2, rngD_len], e3⟩
        have sm : (((cs.map fun c => (⟨#[c]⟩ : Str)).map (·.length)).sum + (cs.map fun c => (⟨#[c]⟩ : Str)).length * (Str.ofString "").length) ≤ 1000000 := by
          have : ∀ l : List Nat, ((l.map fun c => (⟨#[c]⟩ : Str)).map (·.length)).sum = l.length := fun l => by
            induction l with
            | nil => rfl
            | cons c l ih =>
              rw [List.map_cons, List.map_cons, List.sum_cons, ih, List.length_cons]
              show 1 + l.length = _
              omega
          rw [this, List.length_map]
          have : (Str.ofString "").length = 0 := by decide
          rw [this]
          omega
        walk_at "aw"
        refine w_join sm ?_
        rw [join1]
        walk_at "aw"
        refine w_ninL rfl (flats_str ns) ?_
        rw [inF_str]
        walk_at "aw"
        refine cond_dec (fun hc => ?_) (fun hc => ?_)
        · walk_at "aw"
          rw [show nx _ = K' _ from hn _]
          exact hK _ ⟨_, _, _, _, rfl⟩
        · walk_at "aw"
          refine ⟨ll, ?_⟩
          walk_at "aw"
          rw [show rt _ _ = q _ _ from hr _ _, put]
          refine h _ ⟨?_, ?_, ?_⟩ hc
          · show 1 ≤ cs.toArray.size
            rw [List.size_toArray]
            omega
          · show cs.toArray.size ≤ 8
            rw [List.size_toArray]
            omega
          · show ∀ c ∈ cs.toArray.toList, _
            rw [List.toList_toArray]
            exact gc
    walk_at "aw"
    refine w_draw (by omega) (by omega) fun r r0 r1 => ?_
    walk_at "aw"
    refine cond_dec (fun hc => ?_) (fun hc => ?_)
    · walk_at "aw"
      refine w_draw (by omega) (by omega) fun r' r0' r1' => ?_
      walk_at "aw"
      exact tail _ (by omega) (by omega) _ _ _ _ (fun _ => rfl) (fun _ _ => rfl)
    · walk_at "aw"
      exact tail _ (by omega) (by omega) _ _ _ _ (fun _ => rfl) (fun _ _ => rfl)
  · rintro ρ ⟨v3, v4, v5, v6, rfl⟩
    walk_at "aw"
    refine ⟨⟨by omega, by omega⟩, ?_⟩
    refine loop_rng (fun i ρ => (∃ v3 v4 v5 v6 : Option AV, ρ = [some .dr, some (.ol (ns.map .str)), some (.fz (.str "abcdefghijklmnopqrstuvwxyz")), v3, v4, v5, v6]) ∧ ∀ j, j < i → wordK j ∈ ns) ⟨⟨_, _, _, _, rfl⟩, fun j hj => by omega⟩ ?_ ?_
    · rintro i ρ K' hi ⟨⟨v3, v4, v5, v6, rfl⟩, hj⟩ hK
      have hi' : i < 104 := hi
      have ei : (0 : Int) + (i : Nat) = (i : Nat) := by omega
      rw [ei]
      walk_at "aw"
      refine w_ixS (by decide) (letters_at (by omega) (by omega)) ?_
      walk_at "aw"
      have ew : Txt.mul (⟨#[97 + ((i : Int) % 26).toNat]⟩ : Str) (1 + (i : Int) / 26) = wordK i := by
        unfold wordK
        rw [show ((i : Int) % 26).toNat = i % 26 by omega, show (i : Int) / 26 = ((i / 26 : Nat) : Int) by omega]
      refine w_mulS ⟨by omega, by omega, ?_⟩ ?_
      · show 1 * _ ≤ _
        omega
      rw [ew]
      walk_at "aw"
      refine w_ninL rfl (flats_str ns) ?_
      rw [inF_str]
      walk_at "aw"
      refine cond_dec (fun hc => ?_) (fun hc => ?_)
      · walk_at "aw"
        refine hK _ ⟨⟨_, _, _, _, rfl⟩, fun j hj' => ?_⟩
        by_cases e : j = i
        · rw [e]
          exact hc
        · exact hj j (by omega)
      · walk_at "aw"
        refine ⟨ll, ?_⟩
        walk_at "aw"
        rw [put]
        exact h _ (wordK_ok hi') hc
    · rintro ρ ⟨_, hj⟩
      have := nodup_sub_len (m := ns) wordK_nd fun w hw => by
        obtain ⟨j, hj', rfl⟩ := List.mem_map.mp hw
        exact hj j (by have := List.mem_range.mp hj'; exact this)
      rw [List.length_map, List.length_range] at this
      omega
section
variable {ρ : Env} {nx : Env → Prop} {rt : AV → Env → Prop} {bk ct : Env → Prop} {ex : Exn → Env → Prop} {i k : Nat} {e : AE} {Q : D → Prop} {L : List D → Prop} {X : Exn → Prop}
theorem w_me0 {C : Addr} {m : Str} {A : AF} {r : AA} {O : AV → Prop} (q : e ρ (objQ C m fun d => r ρ (fun as => callQ A ρ O (fun _ => False) (.val d :: as)) X) X) : aMe0 C m A e r ρ O X := q
theorem w_objQ {C : Addr} {m : Str} {ns : List Str} {ds : List D} (h : ns.contains m = false) (q : Q (.obj C ns ds)) : objQ C m Q (.obj C ns ds) := ⟨rfl, h, q⟩
theorem w_isCo {C : Addr} {ns : List Str} {ds : List D} (q : Q (.bl true)) : oIsC C [.obj C ns ds, .adr C] Q := ⟨rfl, rfl, q⟩
theorem w_isCs {C : Addr} {y : Str} (q : Q (.bl false)) : oIsC C [.str y, .adr C] Q := ⟨rfl, q⟩
theorem w_ownEq {C : Addr} {A : AF} {a b : AE} (q : a ρ (fun d => b ρ (fun e => eqOk C d e ∧ A [.fz d, .fz e] (blAV Q) fun _ => False) X) X) : aOwnEq C A a b ρ Q X := q
end
theorem GoodN.sok {n : Str} (g : GoodN n) : PyData.strOk n = true := by
  unfold PyData.strOk
  rw [← Array.all_toList, List.all_eq_true]
  intro c hc
  have := (g.2.2 c hc).2
  exact decide_eq_true (by omega)
theorem okD_str {k : Nat} {n : Str} (g : GoodN n) : okD k (.str n) = true := by
  cases k <;> exact g.sok
mutual
theorem deq_refl : ∀ (n : Nat) (d : D), okD n d = true → deq d d = true
  | _, .int i, _ => beq_self_eq_true i
  | _, .bl i, _ => beq_self_eq_true i
  | _, .non, _ => rfl
  | _, .str x, _ => beq_self_eq_true x
  | n + 1, .tup ds, h => deqs_refl n ds h
  | n + 1, .lst ds, h => deqs_refl n ds h
  | 0, .tup ds, h => by cases h
  | 0, .lst ds, h => by cases h
  | n, .ty _, h => by cases n <;> cases h
  | n, .dK _ _, h => by cases n <;> cases h
  | n, .dT _ _, h => by cases n <;> cases h
  | n, .obj _ _ _, h => by cases n <;> cases h
  | n, .exn _ _ _ _ _, h => by cases n <;> cases h
  | n, .adr _, h => by cases n <;> cases h
theorem deqs_refl : ∀ (n : Nat) (ds : List D), okDs n ds = true → deqs ds ds = true
  | n, [], _ => rfl
  | n, d :: ds, h => by
    have h' : (okD n d && okDs n ds) = true := h
    rw [Bool.and_eq_true] at h'
    show (deq d d && deqs ds ds) = true
    rw [deq_refl n d h'.1, deqs_refl n ds h'.2]
    rfl
end
theorem w_ixE {ds : List D} {k : Int} {Q P : D → Prop} (h : ∃ d, atI ds k = some d ∧ P d) (q : ∀ d, P d → Q d) : oIxL (.lst ds) (.int k) Q := by
  obtain ⟨d, h1, h2⟩ := h
  exact w_ixL h1 (q d h2)
theorem comp_mapA {α : Type} {g : AG} {te : AE} {ρ : Env} {X : Exn → Prop} {Q : List D → Prop} {fd : α → D} {xs : List α} {acc : List D} (f : α → D) (hl : acc.length + xs.length ≤ 1000000)
    (h : ∀ (x : α), x ∈ xs → ∀ (Q : D → Prop), Q (f x) → g (fd x) ρ (fun ρ2 => te ρ2 Q X)) (q : Q (acc ++ xs.map f)) : aComp g aYes te ρ X (xs.map fd) acc Q := by
  induction xs generalizing acc with
  | nil => rwa [List.map_nil, List.append_nil] at q
  | cons d ds ih =>
    rw [List.length_cons] at hl
    refine h d List.mem_cons_self _ ⟨by omega, ih (by rw [List.length_append]; show acc.length + 1 + _ ≤ _; omega) (fun e he => h e (List.mem_cons_of_mem _ he)) ?_⟩
    rwa [List.append_assoc]
theorem nd_inj {α β : Type} {f : α → β} : ∀ {xs : List α} {a b : α}, (xs.map f).Nodup → a ∈ xs → b ∈ xs → f a = f b → a = b
  | x :: xs, a, b, nd, ha, hb, e => by
    obtain ⟨n1, n2⟩ := List.nodup_cons.mp (show (f x :: xs.map f).Nodup from nd)
    rcases List.mem_cons.mp ha with e1 | k <;> rcases List.mem_cons.mp hb with e2 | k'
    · rw [e1, e2]
    · exact absurd (List.mem_map.mpr ⟨b, k', by rw [← e, e1]⟩) n1
    · exact absurd (List.mem_map.mpr ⟨a, k, by rw [e, e2]⟩) n1
    · exact nd_inj n2 k k' e
theorem okDs_map {α : Type} {f : α → D} {k : Nat} : ∀ {xs : List α}, (∀ x ∈ xs, okD k (f x) = true) → okDs k (xs.map f) = true
  | [], _ => by cases k <;> rfl
  | x :: xs, h => by
    show (okD k (f x) && okDs k (xs.map f)) = true
    rw [h x List.mem_cons_self, okDs_map fun y hy => h y (List.mem_cons_of_mem _ hy)]
    rfl
theorem okD_lstmap {α : Type} {f : α → D} {k : Nat} {xs : List α} (h : ∀ x ∈ xs, okD k (f x) = true) : okD (k + 1) (.lst (xs.map f)) = true := okDs_map h
structure Kp where
  n : Str
  k : Nat
  st : List Int
def Kp.d (e : Kp) : D := .tup [.str e.n, .int (e.k : Nat), .tup (e.st.map .int)]
def Kp.ky (e : Kp) : List Key := [.inr e.n, .inl (e.k : Nat)]
def Kp.va (e : Kp) : D := .tup (e.st.map .int)
theorem gputK_new {ks : List (List Key)} {y : List Key} (h : y ∉ ks) : gputK ks y = ks ++ [y] := if_neg h
theorem gputD_new : ∀ {ks : List (List Key)} {ds : List D} {y : List Key} {e : D}, ks.length = ds.length → y ∉ ks → gputD ks ds y e = ds ++ [e]
  | [], [], y, e, _, _ => rfl
  | [], _ :: _, y, e, l, _ => by cases l
  | k :: ks, [], y, e, l, _ => by cases l
  | k :: ks, d :: ds, y, e, l, h => by
    unfold gputD
    rw [if_neg fun z => h (by rw [z]; exact List.mem_cons_self), gputD_new (Nat.succ.inj l) fun z => h (List.mem_cons_of_mem _ z)]
    rfl
theorem gval_mem {α : Type} {ky : α → List Key} {va : α → D} : ∀ {xs : List α} {x : α}, (xs.map ky).Nodup → x ∈ xs → gval (xs.map ky) (xs.map va) (ky x) = some (va x)
  | y :: xs, x, nd, h => by
    rw [List.map_cons] at nd ⊢
    obtain ⟨h1, h2⟩ := List.nodup_cons.mp nd
    rw [List.map_cons]
    unfold gval
    rcases List.mem_cons.mp h with rfl | h
    · rw [if_pos rfl]
    · rw [if_neg fun z => h1 (by rw [z]; exact List.mem_map.mpr ⟨x, h, rfl⟩)]
      exact gval_mem h2 h
theorem compT_map {α : Type} {g : AG} {rk : AL} {ev : AE} {ρ : Env} {X : Exn → Prop} {Q : List (List Key) → List D → Prop} (f : α → D) (ky : α → List Key) (va : α → D) : ∀ {xs done : List α}, ((done ++ xs).map ky).Nodup → (done ++ xs).length ≤ 1000000 →
    (∀ x ∈ xs, ∀ P : List Key → D → Prop, P (ky x) (va x) → g (f x) ρ (fun ρ2 => rk ρ2 (fun ds => ds.length ≤ 1000000 ∧ someQ (fun k => ev ρ2 (fun y => P k y) X) (keyT ds)) X)) → Q ((done ++ xs).map ky) ((done ++ xs).map va) →
    aCompT g rk ev ρ X (xs.map f) (done.map ky) (done.map va) Q
  | [], done, _, _, _, q => by
    rw [List.append_nil] at q
    exact q
  | x :: xs, done, nd, hl, h, q => by
    have e : done ++ x :: xs = (done ++ [x]) ++ xs := by rw [List.append_assoc]; rfl
    have nd2 : (done.map ky).Nodup := by
      rw [List.map_append] at nd
      exact (List.nodup_append.mp nd).1
    have nx : ky x ∉ done.map ky := fun z => by
      rw [List.map_append, List.map_cons] at nd
      exact (List.nodup_append.mp nd).2.2 _ z _ List.mem_cons_self rfl
    have hl2 : done.length < 1000000 := by
      rw [List.length_append, List.length_cons] at hl
      omega
    refine h x List.mem_cons_self (fun k y => (done.map ky).length < 1000000 ∧ (done.map ky).Nodup ∧ aCompT g rk ev ρ X (xs.map f) (gputK (done.map ky) k) (gputD (done.map ky) (done.map va) k y) Q) ⟨by rw [List.length_map]; exact hl2, nd2, ?_⟩
    rw [gputK_new nx, gputD_new (by rw [List.length_map, List.length_map]) nx]
    have := compT_map f ky va (xs := xs) (done := done ++ [x]) (by rw [← e]; exact nd) (by rw [← e]; exact hl) (fun y hy => h y (List.mem_cons_of_mem _ hy)) (by rw [← e]; exact q)
    rw [List.map_append, List.map_append] at this
    exact this
theorem w_some {Q : D → Prop} {d : D} (q : Q d) : someQ Q (some d) := q
def tabD (C : Addr) (kps : List Kp) : D := .obj C ["starts"] [.dT (kps.map Kp.ky) (kps.map Kp.va)]
theorem w_fldSetO {C : Addr} {f : Str} {e : AO} {ρ : Env} {i : Nat} {nx bk ct : Env → Prop} {rt : AV → Env → Prop} {ex : Exn → Env → Prop} (q : e ρ (fun av => obQ ρ i C fun dx ns ws as => ns.contains f = false ∧ ns.length < 1000 ∧ ∀ v : V, nx (ρ.set i (some (.ob C dx (ns ++ [f]) (ws ++ [v]) (as ++ [av]))))) (fun x => ex x ρ)) : aFldSetO i C f e ⟨nx, rt, bk, ct, ex⟩ ρ := q
theorem w_someG {α : Type} {Q : α → Prop} {d : α} (q : Q d) : someQ Q (some d) := q
theorem table_of_A (T : Tx K mg base) {kps : List Kp} {e : Kp} {n : Str} {k : Nat} {q : AV → Prop} {x : Exn → Prop} (nd : (kps.map Kp.ky).Nodup) (he : e ∈ kps) (hn : n = e.n) (hk : k = e.k) (h : q (.fz (.tup (e.st.map .int)))) : A_Table_of T [.fz (tabD T.c_Table kps), .fz (.str n), .fz (.int (k : Nat))] q x := by
  subst hn hk
  refine A_Table_of_of T ?_
  have hi : ([.inr e.n, .inl (e.k : Nat)] : List Key) ∈ kps.map Kp.ky := List.mem_map.mpr ⟨e, he, rfl⟩
  have hg : gval (kps.map Kp.ky) (kps.map Kp.va) [.inr e.n, .inl (e.k : Nat)] = some (.tup (e.st.map .int)) := gval_mem nd he
  unfold b_Table_of tabD
  walk_at "aw"
  rw [show keyT [D.str e.n, D.int (e.k : Nat)] = some [.inr e.n, .inl (e.k : Nat)] from rfl]
  refine w_someG ?_
  walk_at "aw"
  rw [decide_eq_true hi]
  walk_at "aw"
  rw [show keyT [D.str e.n, D.int (e.k : Nat)] = some [.inr e.n, .inl (e.k : Nat)] from rfl]
  refine w_someG ?_
  rw [hg]
  refine w_some ?_
  exact h
def leKp (a b : Kp) : Bool := leT a.ky b.ky
def byK (kps : List Kp) : List Kp := kps.mergeSort leKp
theorem byK_mem {kps : List Kp} {e : Kp} : e ∈ byK kps ↔ e ∈ kps := List.mem_mergeSort
theorem byK_len (kps : List Kp) : (byK kps).length = kps.length := List.length_mergeSort _
theorem byK_ky (kps : List Kp) : (kps.map Kp.ky).mergeSort leT = (byK kps).map Kp.ky := (PySem.W.sort_maps (r := leKp) (s := leT) Kp.ky fun _ _ _ _ => rfl).symm
theorem ky_inj {a b : Kp} (h1 : a.n = b.n) (h2 : a.k = b.k) : a.ky = b.ky := by unfold Kp.ky; rw [h1, h2]
theorem leD_kp {a b : Kp} (h : a.ky ≠ b.ky) : leD a.d b.d = leT a.ky b.ky := by
  have e : PySem.W.dataLt (toPy b.d) (toPy a.d) = PySem.W.dataLt (toPy (kTD b.ky)) (toPy (kTD a.ky)) := by
    show PyProof.Rows.lexLt PyProof.Rows.itemOrd (PySem.W.keyToksAll (PyData.str b.n :: PyData.int (b.k : Nat) :: _)) (PySem.W.keyToksAll (PyData.str a.n :: PyData.int (a.k : Nat) :: _)) = PyProof.Rows.lexLt PyProof.Rows.itemOrd (PySem.W.keyToksAll [PyData.str b.n, PyData.int (b.k : Nat)]) (PySem.W.keyToksAll [PyData.str a.n, PyData.int (a.k : Nat)])
    have e1 : ∀ xs ys : List PyData, PyProof.Rows.lexLt PyProof.Rows.itemOrd (PySem.W.keyToksAll (PyData.str b.n :: xs)) (PySem.W.keyToksAll (PyData.str a.n :: ys)) = if PyData.eqv (PyData.str b.n) (PyData.str a.n) = true then PyProof.Rows.lexLt PyProof.Rows.itemOrd (PySem.W.keyToksAll xs) (PySem.W.keyToksAll ys) else PySem.W.dataLt (PyData.str b.n) (PyData.str a.n) := fun xs ys => PySem.W.dataLt_cons (by simp [PySem.W.alike]) xs ys
    have e2 : ∀ xs ys : List PyData, PyProof.Rows.lexLt PyProof.Rows.itemOrd (PySem.W.keyToksAll (PyData.int (b.k : Nat) :: xs)) (PySem.W.keyToksAll (PyData.int (a.k : Nat) :: ys)) = if PyData.eqv (PyData.int (b.k : Nat)) (PyData.int (a.k : Nat)) = true then PyProof.Rows.lexLt PyProof.Rows.itemOrd (PySem.W.keyToksAll xs) (PySem.W.keyToksAll ys) else PySem.W.dataLt (PyData.int (b.k : Nat)) (PyData.int (a.k : Nat)) := fun xs ys => PySem.W.dataLt_cons (by simp [PySem.W.alike]) xs ys
    rw [e1, e1]
    by_cases c : PyData.eqv (PyData.str b.n) (PyData.str a.n) = true
    · have hk : ¬ PyData.eqv (PyData.int (b.k : Nat)) (PyData.int (a.k : Nat)) = true := fun z => h (by
        have z1 : (b.n == a.n) = true := by simpa [PyData.eqv] using c
        have z2 : (b.k : Int) = (a.k : Int) := by simpa [PyData.eqv] using z
        exact ky_inj (beq_iff_eq.mp z1).symm (Int.ofNat.inj z2).symm)
      rw [if_pos c, if_pos c, e2, e2, if_neg hk, if_neg hk]
    · rw [if_neg c, if_neg c]
  show (!PySem.W.dataLt (toPy b.d) (toPy a.d)) = (!PySem.W.dataLt (toPy (kTD b.ky)) (toPy (kTD a.ky)))
  rw [e]
theorem leD_refl (d : D) : leD d d = true := PySem.W.TotalLe.refl (le := leD) (PySem.W.sortLe_total (PyProof.Rows.listOrd PyProof.Rows.itemOrd) false fun b : D => PySem.W.keyToks (toPy b)) _
theorem byK_d {kps : List Kp} (nd : (kps.map Kp.ky).Nodup) : (kps.map Kp.d).mergeSort leD = (byK kps).map Kp.d := by
  refine (PySem.W.sort_maps (r := leKp) (s := leD) Kp.d fun a ha b hb => ?_).symm
  by_cases e : a.ky = b.ky
  · cases nd_inj nd ha hb e
    rw [leD_refl]
    exact leD_refl _
  · exact (leD_kp e).symm
theorem ok_ky {kps : List Kp} (g : ∀ e ∈ kps, GoodN e.n) : okDs 8 (kps.map fun e => kTD e.ky) = true := okDs_map fun e he => by
  show (okD 7 (.str e.n) && true) = true
  rw [okD_str (g e he)]
  rfl
theorem alike_ky (kps : List Kp) : alikeD (kps.map fun e => kTD e.ky) = true := by
  unfold alikeD
  refine List.all_eq_true.mpr fun d hd => List.all_eq_true.mpr fun e he => ?_
  obtain ⟨a, _, rfl⟩ := List.mem_map.mp hd
  obtain ⟨b, _, rfl⟩ := List.mem_map.mp he
  simp [kTD, Kp.ky, kD, toPy, toPys, PySem.W.alike, PySem.W.alikeAll]
theorem sortable_ky (kps : List Kp) : sortableD (kps.map fun e => kTD e.ky) = true := by
  unfold sortableD
  rw [show (kps.map fun e => kTD e.ky).all tupNE = true from List.all_eq_true.mpr fun d hd => by
    obtain ⟨a, _, rfl⟩ := List.mem_map.mp hd
    rfl]
  rfl
theorem alike_ints : ∀ (w v : List Int), PySem.W.alikeAll (toPys (w.map D.int)) (toPys (v.map D.int)) = true
  | [], v => by rw [List.map_nil]; unfold toPys PySem.W.alikeAll; rfl
  | x :: w, [] => by rw [List.map_nil, List.map_cons]; unfold toPys PySem.W.alikeAll; rfl
  | x :: w, y :: v => by
    rw [List.map_cons, List.map_cons]
    unfold toPys PySem.W.alikeAll
    rw [alike_ints w v, Bool.and_true]
    simp [toPy, PySem.W.alike]
theorem okDs_ints (k : Nat) (xs : List Int) : okDs k (xs.map D.int) = true := okDs_map fun n _ => by cases k <;> rfl
theorem ok_kd {kps : List Kp} (g : ∀ e ∈ kps, GoodN e.n) : ∀ e ∈ kps, okD 7 e.d = true := fun e he => by
  show (okD 6 (.str e.n) && (okD 6 (.int (e.k : Nat)) && (okDs 5 (e.st.map D.int) && true))) = true
  rw [okD_str (g e he), okDs_ints]
  rfl
theorem alike_kd (kps : List Kp) : alikeD (kps.map Kp.d) = true := by
  unfold alikeD
  refine List.all_eq_true.mpr fun d hd => List.all_eq_true.mpr fun e he => ?_
  obtain ⟨a, _, rfl⟩ := List.mem_map.mp hd
  obtain ⟨b, _, rfl⟩ := List.mem_map.mp he
  have := alike_ints a.st b.st
  simp [Kp.d, toPy, toPys, PySem.W.alike, PySem.W.alikeAll, this]
theorem sortable_kd (kps : List Kp) : sortableD (kps.map Kp.d) = true := by
  unfold sortableD
  rw [show (kps.map Kp.d).all tupNE = true from List.all_eq_true.mpr fun d hd => by
    obtain ⟨a, _, rfl⟩ := List.mem_map.mp hd
    rfl]
  rfl
theorem told_A (T : Tx K mg base) {kps : List Kp} {q : AV → Prop} {x : Exn → Prop} (nd : (kps.map Kp.ky).Nodup) (g : ∀ e ∈ kps, GoodN e.n) (hl : kps.length ≤ 1000) (h : q (.ol ((byK kps).map Kp.d))) : A_Table_told T [.fz (tabD T.c_Table kps)] q x := by
  refine A_Table_told_of T ?_
  unfold b_Table_told tabD
  walk_at "aw"
  refine ⟨by rw [List.map_map]; exact ok_ky g, by rw [List.map_map]; exact alike_ky kps, by rw [List.map_map]; exact sortable_ky kps, ?_⟩
  rw [byK_ky, List.map_map]
  refine comp_mapA Kp.d (by rw [byK_len]; show 0 + _ ≤ _; omega) (fun e he Q hQ => ?_) ?_
  · show (gT 2 (gsCons (gN 1) (gsCons (gN 2) gsNil))) (.tup [.str e.n, .int (e.k : Nat)]) _ _
    walk_at "aw"
    rw [show keyT [D.str e.n, D.int (e.k : Nat)] = some e.ky from rfl]
    refine w_someG ?_
    rw [gval_mem nd (byK_mem.mp he)]
    refine w_someG ?_
    walk_at "aw"
    exact hQ
  · rw [List.nil_append]
    walk_at "aw"
    exact h
theorem len_A (T : Tx K mg base) {kps : List Kp} {Q : D → Prop} {x : Exn → Prop} (hl : kps.length ≤ 1000) (h : Q (.int (kps.length : Nat))) : A_Table_len T [.fz (tabD T.c_Table kps)] (lenAV Q) x := by
  refine A_Table_len_of T ?_
  unfold b_Table_len tabD
  walk_at "aw"
  rw [List.length_map]
  exact ⟨⟨by omega, by omega⟩, h⟩
theorem join_c {c : Bool} {A B R : Prop} (h2 : c = false → R → B) (h1 : c = true → R → A) (hr : R) : cond c A B := by
  cases c
  · exact h2 rfl hr
  · exact h1 rfl hr
theorem ErrC.exmS {K : PySem.W.Frag} {C N : Addr} (h : ErrC K C N) : PySem.W.exmOne K (.ref C) (.ref C) = some true :=
  PySem.W.exm_ref h.base h.hd h.ty (by rw [h.sub, mem_mro]; simp)
structure RowsOk (rows : List Kp) (ns : List Str) : Prop where
  nd : (rows.map Kp.ky).Nodup
  gd : ∀ e ∈ rows, GoodN e.n
  k1 : ∀ e ∈ rows, e.k = 0 ∨ e.k = 1
  st : ∀ e ∈ rows, 1 ≤ e.st.length ∧ e.st.length ≤ 3
  inn : ∀ e ∈ rows, e.n ∈ ns
theorem RowsOk.add {rows new : List Kp} {ns : List Str} {w : Str} {ks : List Nat} (ok : RowsOk rows ns) (hg : GoodN w) (hw : w ∉ ns) (knd : ks.Nodup) (k01 : ∀ k ∈ ks, k = 0 ∨ k = 1) (e1 : new.map Kp.k = ks) (e2 : ∀ e ∈ new, e.n = w ∧ 1 ≤ e.st.length ∧ e.st.length ≤ 3) : RowsOk (rows ++ new) (ns ++ [w]) := by
  have kin : ∀ e ∈ new, e.k ∈ ks := fun e he => by rw [← e1]; exact List.mem_map.mpr ⟨e, he, rfl⟩
  refine ⟨?_, fun e he => ?_, fun e he => ?_, fun e he => ?_, fun e he => ?_⟩
  · rw [List.map_append]
    refine List.nodup_append.mpr ⟨ok.nd, ?_, fun a ha b hb z => ?_⟩
    · rw [← e1] at knd
      refine List.pairwise_map.mpr ((List.pairwise_map.mp knd).imp fun {a b} h z => h ?_)
      have z1 : ([Sum.inr a.n, Sum.inl (Int.ofNat a.k)] : List Key) = [Sum.inr b.n, Sum.inl (Int.ofNat b.k)] := z
      injection z1 with _ z2
      injection z2 with z3 _
      injection z3 with z4
      exact Int.ofNat.inj z4
    · obtain ⟨e, he, rfl⟩ := List.mem_map.mp ha
      obtain ⟨e', he', rfl⟩ := List.mem_map.mp hb
      have z1 : ([Sum.inr e.n, Sum.inl (Int.ofNat e.k)] : List Key) = [Sum.inr e'.n, Sum.inl (Int.ofNat e'.k)] := z
      injection z1 with z2 _
      injection z2 with z3
      exact hw (by rw [← (e2 e' he').1, ← z3]; exact ok.inn e he)
  · rcases List.mem_append.mp he with he | he
    · exact ok.gd e he
    · rw [(e2 e he).1]; exact hg
  · rcases List.mem_append.mp he with he | he
    · exact ok.k1 e he
    · exact k01 _ (kin e he)
  · rcases List.mem_append.mp he with he | he
    · exact ok.st e he
    · exact (e2 e he).2
  · rcases List.mem_append.mp he with he | he
    · exact List.mem_append_left _ (ok.inn e he)
    · rw [(e2 e he).1]; exact List.mem_append_right _ List.mem_cons_self
theorem some_A (T : Tx K mg base) {q : AV → List AV → Prop} {x : Exn → List AV → Prop} (h : ∀ rows ns, RowsOk rows ns → ns.length ≤ 4 → rows.length ≤ 8 → q (.ol (rows.map Kp.d)) [.dr, .ol (ns.map .str)]) : A_law_some T [.dr, .ol []] q x := by
  refine A_law_some_of T _ ?_
  unfold b_law_some
  walk_at "aw"
  refine w_draw (by omega) (by omega) fun m m0 m1 => ?_
  obtain ⟨m, rfl⟩ := Int.eq_ofNat_of_zero_le m0
  walk_at "aw"
  refine ⟨⟨by omega, by omega⟩, ?_⟩
  rw [Int.toNat_natCast]
  refine loop_rng (fun i ρ => ∃ (rows : List Kp) (ns : List Str) (v3 v4 v5 v6 : Option AV), ρ = [some .dr, some (.ol (ns.map .str)), some (.ol (rows.map Kp.d)), v3, v4, v5, v6] ∧ RowsOk rows ns ∧ ns.length = i ∧ rows.length ≤ 2 * i) ⟨[], [], none, none, none, none, rfl, ⟨List.nodup_nil, fun e he => (by cases he), fun e he => (by cases he), fun e he => (by cases he), fun e he => (by cases he)⟩, rfl, Nat.le_refl _⟩ ?_ ?_
  · rintro i ρ K' hi ⟨rows, ns, v3, v4, v5, v6, rfl, ok, hn, hr⟩ hK
    walk_at "aw"
    refine name_A T (by omega) fun w hg hw => ?_
    walk_at "aw"
    refine w_draw (by omega) (by omega) fun r r0 r1 => ?_
    refine w_ixE (P := fun d => ∃ ks : List Nat, d = .lst (ks.map fun k => .int (k : Nat)) ∧ ks.Nodup ∧ ks.length ≤ 2 ∧ ∀ k ∈ ks, k = 0 ∨ k = 1) ?_ ?_
    · obtain ⟨r, rfl⟩ := Int.eq_ofNat_of_zero_le r0
      have hr4 : r < 4 := by omega
      match r, hr4 with
      | 0, _ => exact ⟨_, rfl, [0], rfl, by decide, by decide, by decide⟩
      | 1, _ => exact ⟨_, rfl, [1], rfl, by decide, by decide, by decide⟩
      | 2, _ => exact ⟨_, rfl, [1, 0], rfl, by decide, by decide, by decide⟩
      | 3, _ => exact ⟨_, rfl, [0, 1], rfl, by decide, by decide, by decide⟩
      | r + 4, h => omega
    rintro d ⟨ks, rfl, knd, kl, k01⟩
    walk_at "aw"
    refine loop_map (fun j ρ => ∃ (new : List Kp) (v3 v5 v6 : Option AV), ρ = [some .dr, some (.ol ((ns ++ [w]).map .str)), some (.ol ((rows ++ new).map Kp.d)), v3, some (.fz (.str w)), v5, v6] ∧ new.map Kp.k = ks.take j ∧ ∀ e ∈ new, e.n = w ∧ 1 ≤ e.st.length ∧ e.st.length ≤ 3) ⟨[], _, _, _, by rw [List.append_nil]; rfl, by simp, fun e he => by cases he⟩ ?_ ?_
    · rintro j k ρ K2 ek ⟨new, v3, v5, v6, rfl, e1, e2⟩ hK2
      have hj := (List.getElem?_eq_some_iff.mp ek).1
      have ln : new.length ≤ 2 := by
        have := congrArg List.length e1
        rw [List.length_map, List.length_take] at this
        omega
      walk_at "aw"
      refine w_draw (by omega) (by omega) fun t t0 t1 => ?_
      obtain ⟨t, rfl⟩ := Int.eq_ofNat_of_zero_le t0
      walk_at "aw"
      refine ⟨⟨by omega, by omega⟩, ?_⟩
      rw [show (1 + (t : Int)).toNat = t + 1 by omega]
      have lr : (rngD 0 (t + 1)).length = t + 1 := by unfold rngD; rw [List.length_map, List.length_range]
      refine comp_rel (fun _ y => ∃ v : Int, y = .int v ∧ True) (by rw [lr]; show 0 + _ ≤ _; omega) (fun d hd Q' kq => ?_) fun ys hys => ?_
      · walk_at "aw"
        refine w_draw (by omega) (by omega) fun v v0 v1 => ?_
        walk_at "aw"
        exact kq _ ⟨_, rfl, trivial⟩
      obtain ⟨vs, rfl, lv, _⟩ := paired_ints hys
      rw [lr] at lv
      rw [List.nil_append]
      walk_at "aw"
      refine ⟨by rw [List.length_map, List.length_append]; omega, hK2 _ ⟨new ++ [⟨w, k, vs⟩], _, _, _, by rw [← List.append_assoc, List.map_append (l₁ := rows ++ new)]; rfl, by rw [List.map_append, e1, List.take_add_one, ek]; rfl, fun e he => ?_⟩⟩
      rcases List.mem_append.mp he with he | he
      · exact e2 e he
      · rw [List.mem_singleton.mp he]
        refine ⟨rfl, ?_, ?_⟩
        · show 1 ≤ vs.length
          omega
        · show vs.length ≤ 3
          omega
    · rintro ρ ⟨new, v3, v5, v6, rfl, e1, e2⟩
      rw [List.take_of_length_le (Nat.le_refl _)] at e1
      have ln : new.length ≤ 2 := by
        have := congrArg List.length e1
        rw [List.length_map] at this
        omega
      walk_at "aw"
      exact hK _ ⟨_, _, _, _, _, _, rfl, ok.add hg hw knd k01 e1 e2, by rw [List.length_append, hn]; rfl, by rw [List.length_append]; omega⟩
  · rintro ρ ⟨rows, ns, v3, v4, v5, v6, rfl, ok, hn, hr⟩
    walk_at "aw"
    exact h rows ns ok (by omega) (by omega)
theorem noLs_ints : ∀ (xs : List Int), noLs (xs.map D.int) = true
  | [] => rfl
  | x :: xs => by
    show (true && noLs (xs.map D.int)) = true
    rw [noLs_ints xs]
    rfl
theorem noLs_va : ∀ (kps : List Kp), noLs (kps.map Kp.va) = true
  | [] => rfl
  | e :: kps => by
    show (noLs (e.st.map D.int) && noLs (kps.map Kp.va)) = true
    rw [noLs_ints, noLs_va kps]
    rfl
theorem un_tab {C dx : Addr} {v : V} (kps : List Kp) : unOk (.ob C dx ["starts"] [v] [.ot (kps.map Kp.ky) (kps.map Kp.va)]) = true := by
  show (noLs (kps.map Kp.va) && true) = true
  rw [noLs_va]
  rfl
theorem init_G (T : Tx K mg base) {kps : List Kp} {Q : AV → Prop} {X : Exn → Prop} {d : D} (hd : d = .lst (kps.map Kp.d) ∨ d = .tup (kps.map Kp.d)) (nd : (kps.map Kp.ky).Nodup) (hl : kps.length ≤ 1000) (h : ∀ dx v, Q (.ob T.c_Table dx ["starts"] [v] [.ot (kps.map Kp.ky) (kps.map Kp.va)])) : mkQ T.c_Table (A_Table_init T) Q X [.fz d] := fun dx => by
  refine A_Table_init_of T _ _ _ _ _ _ ?_
  unfold b_Table_init
  refine w_fldSetO ?_
  walk_at "aw"
  have rest : aCompT (gT 3 (gsCons (gN 2) (gsCons (gN 3) (gsCons (gN 4) gsNil)))) (aCons (aVar 2) (aCons (aVar 3) aNil)) (aVar 4) (wipeA [some (.ob T.c_Table dx [] [] []), some (.fz d), none, none, none] [2, 3, 4]) (fun x => X x) (kps.map Kp.d) [] [] fun ks es =>
      obQ [some (.ob T.c_Table dx [] [] []), some (.fz d), none, none, none] 0 T.c_Table fun dx_1 ns ws as => ns.contains (Str.ofString "starts") = false ∧ ns.length < 1000 ∧ ∀ (v : V), AV.fz D.non = AV.fz D.non ∧ headQ Q (mrg [AV.ob T.c_Table dx [] [] [], AV.fz d] (selM [true, false] [some (AV.ob T.c_Table dx_1 (ns ++ [Str.ofString "starts"]) (ws ++ [v]) (as ++ [AV.ot ks es])), some (AV.fz d), none, none, none])) := by
    refine compT_map (ky := Kp.ky) (va := Kp.va) (done := []) Kp.d nd (by show kps.length ≤ _; omega) (fun e he P hP => ?_) ?_
    · unfold Kp.d
      walk_at "aw"
      exact hP
    · unfold obQ
      refine ⟨rfl, rfl, Nat.le_of_ble_eq_true rfl, fun v => ⟨rfl, ?_⟩⟩
      exact h dx v
  rcases hd with rfl | rfl
  · exact rest
  · exact rest
def eqK (a b : List Kp) : Bool := decide (a.length = b.length) && dtHits (b.map Kp.ky) (b.map Kp.va) (a.map Kp.ky) (a.map Kp.va)
theorem okDs_va (kps : List Kp) : okDs 8 (kps.map Kp.va) = true := okDs_map fun e _ => okDs_ints 7 e.st
theorem eq_A (T : Tx K mg base) {a b : List Kp} {Q : D → Prop} {x : Exn → Prop} (h : Q (.bl (eqK a b))) : A_Table_eq T [.fz (tabD T.c_Table a), .fz (tabD T.c_Table b)] (blAV Q) x := by
  refine A_Table_eq_of T ?_
  unfold b_Table_eq tabD
  walk_at "aw"
  refine w_isCo ?_
  walk_at "aw"
  refine w_eqT (okDs_va _) (okDs_va _) ?_
  rw [List.length_map, List.length_map]
  exact h
theorem eqS_A (T : Tx K mg base) {a : List Kp} {s : Str} {Q : D → Prop} {x : Exn → Prop} (h : Q (.bl false)) : A_Table_eq T [.fz (tabD T.c_Table a), .fz (.str s)] (blAV Q) x := by
  refine A_Table_eq_of T ?_
  unfold b_Table_eq tabD
  walk_at "aw"
  refine w_isCs ?_
  walk_at "aw"
  exact h
theorem deqs_ints : ∀ (a b : List Int), deqs (a.map D.int) (b.map D.int) = decide (a = b)
  | [], [] => rfl
  | [], _ :: _ => rfl
  | _ :: _, [] => rfl
  | x :: a, y :: b => by
    show ((x == y) && deqs (a.map D.int) (b.map D.int)) = _
    rw [deqs_ints a b]
    by_cases h : x = y
    · by_cases k : a = b
      · rw [h, k]; simp
      · rw [decide_eq_false k, decide_eq_false fun z => k (List.cons.inj z).2, Bool.and_false]
    · rw [decide_eq_false fun z => h (List.cons.inj z).1, beq_eq_false_iff_ne.mpr h, Bool.false_and]
theorem deq_va (a b : Kp) : deq a.va b.va = decide (a.st = b.st) := deqs_ints a.st b.st
theorem hits_all {b : List Kp} (nb : (b.map Kp.ky).Nodup) : ∀ {a : List Kp}, (∀ e ∈ a, e ∈ b) → dtHits (b.map Kp.ky) (b.map Kp.va) (a.map Kp.ky) (a.map Kp.va) = true
  | [], _ => rfl
  | e :: a, h => by
    rw [List.map_cons, List.map_cons]
    unfold dtHits
    rw [gval_mem nb (h e List.mem_cons_self)]
    dsimp only
    rw [deq_va, decide_eq_true rfl, hits_all nb fun e' he => h e' (List.mem_cons_of_mem _ he)]
    rfl
theorem hits_not {b : List Kp} (nb : (b.map Kp.ky).Nodup) : ∀ {a : List Kp} {e e' : Kp}, e ∈ a → e' ∈ b → e.ky = e'.ky → e.st ≠ e'.st → dtHits (b.map Kp.ky) (b.map Kp.va) (a.map Kp.ky) (a.map Kp.va) = false
  | c :: a, e, e', he, hb, ek, es => by
    rw [List.map_cons, List.map_cons]
    unfold dtHits
    rcases List.mem_cons.mp he with rfl | he
    · rw [ek, gval_mem nb hb]
      dsimp only
      rw [deq_va, decide_eq_false es, Bool.false_and]
    · have ih := hits_not nb he hb ek es
      cases gval (b.map Kp.ky) (b.map Kp.va) c.ky with
      | none => rfl
      | some d => dsimp only; rw [ih, Bool.and_false]
theorem eqK_yes {a b : List Kp} (nb : (b.map Kp.ky).Nodup) (h : ∀ e ∈ a, e ∈ b) (l : a.length = b.length) : eqK a b = true := by
  unfold eqK
  rw [decide_eq_true l, hits_all nb h]
  rfl
theorem eqK_len {a b : List Kp} (l : a.length ≠ b.length) : eqK a b = false := by
  unfold eqK
  rw [decide_eq_false l, Bool.false_and]
theorem eqK_val {a b : List Kp} (nb : (b.map Kp.ky).Nodup) {e e' : Kp} (he : e ∈ a) (hb : e' ∈ b) (ek : e.ky = e'.ky) (es : e.st ≠ e'.st) : eqK a b = false := by
  unfold eqK
  rw [hits_not nb he hb ek es, Bool.and_false]
theorem of_X (T : Tx K mg base) {kps : List Kp} {n : Str} {k : Int} {q : AV → Prop} {x : Exn → Prop} (hk : ([.inr n, .inl k] : List Key) ∉ kps.map Kp.ky) (h : x ⟨T.c_NoName, ["name"], [.str n]⟩) : A_Table_of T [.fz (tabD T.c_Table kps), .fz (.str n), .fz (.int k)] q x := by
  refine A_Table_of_of T ?_
  unfold b_Table_of tabD
  walk_at "aw"
  rw [show keyT [D.str n, D.int k] = some [.inr n, .inl k] from rfl]
  refine w_someG ?_
  walk_at "aw"
  rw [decide_eq_false hk]
  walk_at "aw"
  exact h
theorem missing_A (T : Tx K mg base) {kps : List Kp} {n : Str} {k : Int} {q : AV → Prop} {x : Exn → Prop} (hk : ([.inr n, .inl k] : List Key) ∉ kps.map Kp.ky) (h : q (.fz (.str n))) : A_law_missing T [.fz (tabD T.c_Table kps), .fz (.str n), .fz (.int k)] q x := by
  have hx := (T.e_NoName).exmS
  refine A_law_missing_of T ?_
  unfold b_law_missing
  have et : tabD T.c_Table kps = D.obj T.c_Table ["starts"] [.dT (kps.map Kp.ky) (kps.map Kp.va)] := rfl
  rw [et]
  walk_at "aw"
  refine w_me ?_
  walk_at "aw"
  refine w_objQ rfl ?_
  walk_at "aw"
  rw [← et]
  refine of_X T hk ?_
  refine ⟨true, hx, fun _ a o => ?_, fun z => by cases z⟩
  walk_at "aw"
  refine w_xf rfl rfl rfl ?_
  walk_at "aw"
  refine w_endsN ?_
  walk_at "aw"
  exact h
theorem restK_nd {rows : List Kp} (p : Kp → Bool) (nd : (rows.map Kp.ky).Nodup) : ((rows.filter p).map Kp.ky).Nodup := (List.filter_sublist.map Kp.ky).nodup nd
def offK (e x : Kp) : Bool := !deq x.d e.d
theorem offK_self {ns : List Str} {rows : List Kp} (ok : RowsOk rows ns) {e : Kp} (he : e ∈ rows) : offK e e = false := by
  unfold offK
  rw [deq_refl 7 _ (ok_kd ok.gd e he)]
  rfl
theorem restK_lt {ns : List Str} {rows : List Kp} (ok : RowsOk rows ns) {e : Kp} (he : e ∈ rows) : (rows.filter (offK e)).length < rows.length := by
  rw [← List.countP_eq_length_filter]
  refine Nat.lt_of_le_of_ne List.countP_le_length fun z => ?_
  have := List.countP_eq_length.mp z e he
  rw [offK_self ok he] at this
  cases this
theorem restK_ky {ns : List Str} {rows : List Kp} (ok : RowsOk rows ns) {e : Kp} (he : e ∈ rows) : e.ky ∉ (rows.filter (offK e)).map Kp.ky := fun z => by
  obtain ⟨x, hx, ek⟩ := List.mem_map.mp z
  obtain ⟨h1, h2⟩ := List.mem_filter.mp hx
  cases nd_inj ok.nd h1 he ek
  rw [offK_self ok he] at h2
  cases h2
theorem okD_up {e : Kp} (g : GoodN e.n) : okD 8 e.d = true := by
  show (okD 7 (.str e.n) && (okD 7 (.int (e.k : Nat)) && (okDs 6 (e.st.map D.int) && true))) = true
  rw [okD_str g, okDs_ints]
  rfl
theorem init_F (T : Tx K mg base) {kps : List Kp} {Q : D → Prop} {X : Exn → Prop} {d : D} (hd : d = .lst (kps.map Kp.d) ∨ d = .tup (kps.map Kp.d)) (nd : (kps.map Kp.ky).Nodup) (hl : kps.length ≤ 1000) (h : Q (tabD T.c_Table kps)) : mkQ T.c_Table (A_Table_init T) (frzQ Q) X [.fz d] :=
  init_G T hd nd hl fun dx v => ⟨_, rfl, h⟩
theorem row_A (T : Tx K mg base) {rows : List Kp} {ns : List Str} (ok : RowsOk rows ns) (lr : rows.length ≤ 8) {e : Kp} (he : e ∈ rows) {Kn bk ct : Env → Prop} {rt : AV → Env → Prop} {ex : Exn → Env → Prop} {v0 v1 v2 v4 v5 v7 v8 v9 v13 v14 v15 : Option AV} (hK : ∀ v13 v14 v15 : Option AV, Kn [v0, v1, v2, some (.fz (.lst (rows.map Kp.d))), v4, v5, some (.fz (tabD T.c_Table rows)), v7, v8, v9, some (.fz (.str e.n)), some (.fz (.int (e.k : Nat))), some (.fz (.tup (e.st.map .int))), v13, v14, v15]) :
    b_law_1 T ⟨Kn, rt, bk, ct, ex⟩ [v0, v1, v2, some (.fz (.lst (rows.map Kp.d))), v4, v5, some (.fz (tabD T.c_Table rows)), v7, v8, v9, some (.fz (.str e.n)), some (.fz (.int (e.k : Nat))), some (.fz (.tup (e.st.map .int))), v13, v14, v15] := by
  have st := ok.st e he
  have oke := okD_up (ok.gd e he)
  unfold b_law_1
  walk_at "aw"
  refine comp_filter (fun d => !deq d e.d) id (by rw [List.length_map]; show 0 + _ ≤ _; omega) (fun d hd Q A hp hn => ?_) ?_
  · obtain ⟨x, hx, rfl⟩ := List.mem_map.mp hd
    walk_at "aw"
    refine w_neD (okD_up (ok.gd x hx)) oke ?_
    walk_at "aw"
    have e0 : deq x.d e.d = deq x.d (D.tup [D.str e.n, D.int (e.k : Nat), D.tup (e.st.map D.int)]) := rfl
    have hp' : (!deq x.d (D.tup [D.str e.n, D.int (e.k : Nat), D.tup (e.st.map D.int)])) = true → Q (id x.d) := hp
    have hn' : (!deq x.d (D.tup [D.str e.n, D.int (e.k : Nat), D.tup (e.st.map D.int)])) = false → A := hn
    refine join_c (R := True) (fun c _ => ?_) (fun c _ => ?_) trivial
    · walk_at "aw"
      exact hp' (by rw [c]; rfl)
    · exact hn' (by rw [c]; rfl)
  rw [List.nil_append, List.map_id, List.filter_map]
  have el := restK_lt ok he
  rw [show rows.filter ((fun d => !deq d e.d) ∘ Kp.d) = rows.filter (offK e) from rfl]
  have nd1 := restK_nd (offK e) ok.nd
  have nin := restK_ky ok he
  generalize rows.filter (offK e) = rest at el nd1 nin
  obtain ⟨pre, v, es⟩ : ∃ pre v, e.st = pre ++ [v] := by
    rcases List.eq_nil_or_concat e.st with z | ⟨p, v, z⟩
    · rw [z] at st; exact absurd st.1 (by decide)
    · exact ⟨p, v, by rw [z, List.concat_eq_append]⟩
  have ix : atI (e.st.map D.int) (-1) = some (.int v) := by
    rw [es, List.map_append]
    exact L2.atI_last _ _
  walk_at "aw"
  refine w_ixT ix ?_
  walk_at "aw"
  refine w_catT (by unfold cutD; simp; omega) ?_
  walk_at "aw"
  rw [cut_init, es, show (pre ++ [v]).take ((pre ++ [v]).length - 1) = pre by simp, show pre.map D.int ++ [D.int (v + 1)] = (pre ++ [v + 1]).map D.int by rw [List.map_append]; rfl]
  refine w_cat (by rw [List.length_map]; show _ + 1 ≤ _; omega) ?_
  walk_at "aw"
  rw [show rest.map Kp.d ++ [D.tup [D.str e.n, D.int (e.k : Nat), D.tup ((pre ++ [v + 1]).map D.int)]] = (rest ++ [(⟨e.n, e.k, pre ++ [v + 1]⟩ : Kp)]).map Kp.d by rw [List.map_append (f := Kp.d)]; rfl]
  refine w_ownEq ?_
  walk_at "aw"
  refine init_F T (.inl rfl) nd1 (by omega) ?_
  refine ⟨⟨rfl, rfl⟩, eq_A T ?_⟩
  rw [eqK_len (by omega)]
  walk_at "aw"
  refine w_ownEq ?_
  walk_at "aw"
  have nd2 : ((rest ++ [(⟨e.n, e.k, pre ++ [v + 1]⟩ : Kp)]).map Kp.ky).Nodup := by
    rw [List.map_append]
    refine List.nodup_append.mpr ⟨nd1, by simp, fun a ha b hb z => nin ?_⟩
    rw [List.map_singleton, List.mem_singleton] at hb
    rw [← show b = e.ky from hb, ← z]
    exact ha
  refine init_F T (.inl rfl) nd2 (by rw [List.length_append]; show _ + 1 ≤ _; omega) ?_
  refine ⟨⟨rfl, rfl⟩, eq_A T ?_⟩
  rw [eqK_val nd2 he (List.mem_append_right _ (List.mem_singleton.mpr rfl)) (rfl : e.ky = Kp.ky ⟨e.n, e.k, pre ++ [v + 1]⟩) (by
    show e.st ≠ pre ++ [v + 1]
    rw [es]
    intro z
    have := (List.append_inj' z rfl).2
    injection this with this _
    omega)]
  walk_at "aw"
  rw [← es]
  exact hK _ _ _
theorem law_math (T : Tx K mg base) : b_law T ⟨fun _ => False, fun av _ => av = .fz (.bl true), fun _ => False, fun _ => False, fun _ _ => False⟩ (none :: some .dr :: List.replicate 14 none) := by
  unfold b_law
  walk_at "aw"
  refine some_A T fun rows ns ok ln lr => ?_
  walk_at "aw"
  refine name_A T (by omega) fun other hg hn => ?_
  walk_at "aw"
  have okR : okD 8 (.lst (rows.map Kp.d)) = true := okD_lstmap (k := 7) (ok_kd ok.gd)
  have et : tabD T.c_Table rows = D.obj T.c_Table ["starts"] [.dT (rows.map Kp.ky) (rows.map Kp.va)] := rfl
  refine w_mkF0 rfl ?_
  refine init_G T (.inl rfl) ok.nd (by omega) fun dx v => ⟨un_tab rows, _, rfl, ?_⟩
  rw [← et]
  walk_at "aw"
  rw [← List.map_reverse]
  refine init_G T (kps := rows.reverse) (.inr rfl) (by rw [List.map_reverse]; exact (List.reverse_perm _).nodup_iff.mpr ok.nd) (by rw [List.length_reverse]; omega) fun dx v => ⟨_, rfl, ?_⟩
  rw [show D.obj T.c_Table ["starts"] [.dT (rows.reverse.map Kp.ky) (rows.reverse.map Kp.va)] = tabD T.c_Table rows.reverse from rfl]
  walk_at "aw"
  refine w_eqD okR okR ?_
  rw [deq_refl 8 _ okR]
  walk_at "aw"
  refine ⟨by rw [List.length_map]; omega, ?_⟩
  walk_at "aw"
  refine w_me0 ?_
  rw [et]
  walk_at "aw"
  refine w_objQ rfl ?_
  walk_at "aw"
  rw [← et]
  refine told_A T ok.nd ok.gd (by omega) ?_
  walk_at "aw"
  have ok8 : okDs 8 (rows.map Kp.d) = true := okDs_map fun e he => by
    show (okD 7 (.str e.n) && (okD 7 (.int (e.k : Nat)) && (okDs 6 (e.st.map D.int) && true))) = true
    rw [okD_str (ok.gd e he), okDs_ints]
    rfl
  have okB : okD 8 (.lst ((byK rows).map Kp.d)) = true := okD_lstmap (k := 7) fun e he => ok_kd ok.gd e (byK_mem.mp he)
  refine w_sortA ok8 (alike_kd _) (sortable_kd _) ?_
  rw [byK_d ok.nd]
  refine w_neD okB okB ?_
  rw [deq_refl 8 _ okB]
  walk_at "aw"
  refine ⟨rfl, len_A T (by omega) ?_⟩
  walk_at "aw"
  rw [List.length_map, decide_eq_true rfl]
  walk_at "aw"
  refine w_ownEq ?_
  walk_at "aw"
  refine ⟨⟨rfl, rfl⟩, eq_A T ?_⟩
  rw [eqK_yes (by rw [List.map_reverse]; exact (List.reverse_perm _).nodup_iff.mpr ok.nd) (fun e he => List.mem_reverse.mpr he) (List.length_reverse ..).symm]
  walk_at "aw"
  refine ⟨by rw [List.length_map, byK_len]; omega, ?_⟩
  walk_at "aw"
  refine w_me0 ?_
  rw [et]
  walk_at "aw"
  refine w_objQ rfl ?_
  walk_at "aw"
  rw [← et]
  refine told_A T ok.nd ok.gd (by omega) ?_
  walk_at "aw"
  refine w_sortA ok8 (alike_kd _) (sortable_kd _) ?_
  rw [byK_d ok.nd]
  refine w_neD okB okB ?_
  rw [deq_refl 8 _ okB]
  walk_at "aw"
  have nko : ∀ k : Int, ([.inr other, .inl k] : List Key) ∉ rows.map Kp.ky := fun k z => by
    obtain ⟨e, he, z1⟩ := List.mem_map.mp z
    have z1' : ([Sum.inr e.n, Sum.inl (Int.ofNat e.k)] : List Key) = [Sum.inr other, Sum.inl k] := z1
    injection z1' with z2 _
    injection z2 with z3
    exact hn (by rw [← z3]; exact ok.inn e he)
  refine missing_A T (nko 0) ?_
  walk_at "aw"
  rw [decide_eq_true rfl]
  walk_at "aw"
  refine w_ownEq ?_
  walk_at "aw"
  refine ⟨rfl, eqS_A T ?_⟩
  walk_at "aw"
  have okI : ∀ e ∈ rows, okD 8 (.tup (e.st.map D.int)) = true := fun e _ => okDs_ints 7 e.st
  refine loop_map (fun i ρ => ∃ v5 v7 v8 v9 v10 v11 v12 v13 v14 v15 : Option AV, ρ = [none, some .dr, some (.ol ((ns ++ [other]).map .str)), some (.fz (.lst (rows.map Kp.d))), some (.fz (.str other)), v5, some (.fz (tabD T.c_Table rows)), v7, v8, v9, v10, v11, v12, v13, v14, v15]) ⟨_, _, _, _, _, _, _, _, _, _, rfl⟩ ?_ ?_
  · rintro i e ρ K' ee ⟨v5, v7, v8, v9, v10, v11, v12, v13, v14, v15, rfl⟩ hK
    have he := List.mem_of_getElem? ee
    have st := ok.st e he
    have nk1 := ok.k1 e he
    rw [show Kp.d e = D.tup [.str e.n, .int (e.k : Nat), .tup (e.st.map .int)] from rfl]
    walk_at "aw"
    refine w_me0 ?_
    rw [et]
    walk_at "aw"
    refine w_objQ rfl ?_
    walk_at "aw"
    rw [← et]
    refine table_of_A T ok.nd he rfl rfl ?_
    walk_at "aw"
    refine w_neD (okI e he) (okI e he) ?_
    rw [deq_refl 8 _ (okI e he)]
    walk_at "aw"
    refine join_c (R := ?R) ?h2 ?h1 ?hr
    case h2 =>
      intro c hR
      walk_at "aw"
      exact hR
    case h1 =>
      intro c hR
      have c' : e.k = 0 := by
        have := of_decide_eq_true c
        omega
      refine w_test (w_op ?_)
      walk_at "aw"
      refine w_meD0 ?_
      rw [et]
      walk_at "aw"
      refine w_objQ rfl ?_
      walk_at "aw"
      rw [← et]
      refine table_of_A T (k := 0) ok.nd he rfl c'.symm ?_
      walk_at "aw"
      refine w_neD (okI e he) (okI e he) ?_
      rw [deq_refl 8 _ (okI e he)]
      walk_at "aw"
      exact hR
    case hr =>
      walk_at "aw"
      refine comp_mapA (fun x : Kp => .lst [.str x.n, .int (x.k : Nat)]) (by show 0 + _ ≤ _; omega) (fun x hx Q hQ => ?_) ?_
      · rw [show Kp.d x = D.tup [.str x.n, .int (x.k : Nat), .tup (x.st.map .int)] from rfl]
        walk_at "aw"
        refine w_ixT rfl ?_
        walk_at "aw"
        refine w_ixT rfl ?_
        walk_at "aw"
        exact hQ
      rw [List.nil_append]
      walk_at "aw"
      have okx : ∀ (n : Str) (k : Int), GoodN n → okD 8 (.lst [.str n, .int k]) = true := fun n k g => by
        show (okD 7 (.str n) && (okD 7 (.int k) && true)) = true
        rw [okD_str g]
        rfl
      have okx7 : ∀ x ∈ rows, okD 7 (.lst [.str x.n, .int (x.k : Nat)]) = true := fun x hx => by
        show (okD 6 (.str x.n) && (okD 6 (.int (x.k : Nat)) && true)) = true
        rw [okD_str (ok.gd x hx)]
        rfl
      refine w_ninD (okx _ _ (ok.gd e he)) (okDs_map okx7) ?_
      walk_at "aw"
      refine join_c (R := ?R2) ?h4 ?h3 ?hr2
      case h3 =>
        intro c hR
        walk_at "aw"
        exact hR
      case h4 =>
        intro c hR
        walk_at "aw"
        refine missing_A T (fun z => ?_) ?_
        · obtain ⟨x, hx, z1⟩ := List.mem_map.mp z
          have z1' : ([Sum.inr x.n, Sum.inl (Int.ofNat x.k)] : List Key) = [Sum.inr e.n, Sum.inl (1 - (e.k : Int))] := z1
          injection z1' with z2 z3
          injection z2 with z2
          injection z3 with z3 _
          injection z3 with z3
          have : inD (D.lst [D.str e.n, D.int (1 - (e.k : Int))]) (rows.map fun x : Kp => D.lst [.str x.n, .int (x.k : Nat)]) = true := List.any_eq_true.mpr ⟨_, List.mem_map.mpr ⟨x, hx, rfl⟩, by
            rw [z2, show ((x.k : Nat) : Int) = 1 - (e.k : Int) from z3]
            exact deq_refl 8 _ (okx _ _ (ok.gd e he))⟩
          rw [this] at c
          cases c
        · walk_at "aw"
          rw [decide_eq_true rfl]
          walk_at "aw"
          exact hR
      case hr2 =>
        exact row_A T ok lr he fun v13 v14 v15 => hK _ ⟨_, _, _, _, _, _, _, _, _, _, rfl⟩
  · rintro ρ ⟨v5, v7, v8, v9, v10, v11, v12, v13, v14, v15, rfl⟩
    walk_at "aw"
    refine w_ownEq ?_
    walk_at "aw"
    refine init_F T (.inl rfl) ok.nd (by omega) ?_
    refine ⟨⟨rfl, rfl⟩, eq_A T ?_⟩
    rw [eqK_yes ok.nd (fun e he => he) rfl]
    walk_at "aw"
    refine w_ownEq ?_
    walk_at "aw"
    refine w_cat (by rw [List.length_map]; show _ + 1 ≤ _; omega) ?_
    walk_at "aw"
    rw [show rows.map Kp.d ++ [D.tup [D.str other, D.int 0, D.tup [D.int 1]]] = (rows ++ [(⟨other, 0, [1]⟩ : Kp)]).map Kp.d by rw [List.map_append (f := Kp.d)]; rfl]
    have nd2 : ((rows ++ [(⟨other, 0, [1]⟩ : Kp)]).map Kp.ky).Nodup := by
      rw [List.map_append]
      refine List.nodup_append.mpr ⟨ok.nd, by simp, fun a ha b hb z => nko 0 ?_⟩
      rw [List.map_singleton, List.mem_singleton] at hb
      rw [← show b = [.inr other, .inl 0] from hb, ← z]
      exact ha
    refine init_F T (.inl rfl) nd2 (by rw [List.length_append]; show _ + 1 ≤ _; omega) ?_
    refine ⟨⟨rfl, rfl⟩, eq_A T ?_⟩
    rw [eqK_len (by rw [List.length_append]; show _ ≠ _ + 1; omega)]
    walk_at "aw"
    refine w_mkD0 ?_
    refine init_F T (kps := []) (.inr rfl) .nil (by decide) ?_
    refine ⟨rfl, len_A T (by decide) ?_⟩
    walk_at "aw"
    rfl
theorem ok_law (T : Tx K mg base) : FnOk P w K mg base CX0 5 T.f_law T.fd_law ["_law_script"] (spLaw K T.tb) := by
  refine T.F_law.ok sc_law (fun vs H Q E h => ?_) (fun cdv A outer s0 H vs Q E hr h => ?_)
  · obtain ⟨a, ns, rfl, _⟩ := h
    rfl
  · obtain ⟨a, ns, rfl, hS, hlen, hbits, htb, q⟩ := h
    obtain ⟨dq_Table_of_2, vq_Table_of_2, bq_Table_of_2⟩ := kbp_Table_of_2 T
    obtain ⟨dq_Table_init_1, vq_Table_init_1, bq_Table_init_1⟩ := kbp_Table_init_1 T
    have cl_Table := T.C_Table
    refine ⟨_, (pss_cons (ps_set (i := 1) sc_law.nd rfl (Or.inl rfl) (pe_call (ok_law_start T) (hr.mono (by decide)) (by rfl) T.g_law_start T.F_law_start.kp T.b_law_start .nil pass0 (pa_cons (pv 0) pa_nil)))
      (pss_cons (ps_set (i := 2) sc_law.nd rfl (Or.inl rfl) (pe_lst pa_nil))
      (pss_cons (ps_set (i := 3) sc_law.nd rfl (Or.inl rfl) (pe_call (ok_law_some T) (hr.mono (by decide)) (by rfl) T.g_law_some T.F_law_some.kp T.b_law_some .nil pass0 (pa_cons (pv 1) (pa_cons (pv 2) pa_nil))))
      (pss_cons (ps_set (i := 4) sc_law.nd rfl (Or.inl rfl) (pe_call (ok_law_name T) (hr.mono (by decide)) (by rfl) T.g_law_name T.F_law_name.kp T.b_law_name .nil pass0 (pa_cons (pv 1) (pa_cons (pv 2) pa_nil))))
      (pss_cons (ps_set (i := 5) sc_law.nd rfl (Or.inl rfl) (pe_callTy (call_listK (K := K) rfl) (by rfl) T.z_list bt_list (pa_cons (pv 3) pa_nil)))
      (pss_cons (ps_set (i := 6) sc_law.nd rfl (Or.inl rfl) (pe_mkS T.M_Table (ok_Table_init T) (hr.mono (by decide)) (by rfl) T.g_Table T.b_Table_init .nil (coldAt0 (E := fun _ _ _ _ => False)) (pa_cons (pv 5) pa_nil)))
      (pss_cons (ps_set (i := 7) sc_law.nd rfl (Or.inl rfl) (pe_mkS T.M_Table (ok_Table_init T) (hr.mono (by decide)) (by rfl) T.g_Table T.b_Table_init .nil (coldAt0 (E := fun _ _ _ _ => False)) (pa_cons (pe_callTy (call_tupleK (K := K) rfl) (by rfl) T.z_tuple bt_tuple (pa_cons (pe_revL (pv 3)) pa_nil)) pa_nil)))
      (pss_cons (ps_set (i := 8) sc_law.nd rfl (Or.inl rfl) (pe_cmpR (op_eqDK (K := K) rfl hr.units) (pv 5) (pv 3) (nomark _)))
      (pss_cons (ps_expr (pe_bm PySem.F.plainAttrs_list PySem.F.slot_list_append PySem.F.type_list_append mt_append (pv 5) (pa_cons (pe_tup (pa_cons (pv 4) (pa_cons pe_int (pa_cons (pe_tup (pa_cons pe_int pa_nil)) pa_nil)))) pa_nil)))
      (pss_cons (ps_set (i := 9) sc_law.nd rfl (Or.inl rfl) (pe_meth0 (pv 6) T.C_Table T.m_Table_told (ok_Table_told T) (hr.mono (by decide)) T.b_Table_told .nil pass0))
      (pss_cons (ps_if ((pw_or (pt_not (pt_val (pv 8))) (pw_or (pt_not (pt_val (pe_callB (call_isiKK (K := K) rfl) (by rfl) T.z_isinstance bt_isinstance (pa_cons (pv 9) (pa_cons (pe_bltn (v := .ty "list") (by rfl) T.z_list bt_list rfl) pa_nil))))) (pw_or (pt_cmpR (op_neDK (K := K) rfl hr.units) (pv 9) (pe_callB (cr_sortA (K := K) rfl (units65 hr)) (by rfl) T.z_sorted bt_sorted (pa_cons (pv 3) pa_nil)) (nomark _)) (pw_or (pt_cmpR op_ne (pe_callB (cr_lenOwn (ok_Table_len T) (hr.mono (by decide)) T.m_Table_len T.b_Table_len pass0) (by rfl) T.z_len bt_len (pa_cons (pv 6) pa_nil)) (pe_callB (call_lenK (K := K) rfl) (by rfl) T.z_len bt_len (pa_cons (pv 3) pa_nil)) (nomark _)) (pw_or1 (pt_not (pt_cmpR (op_ownEq (ok_Table_eq T) (hr.mono (by decide)) T.I_Table T.m_Table_eq T.b_Table_eq pass0) (pv 6) (pv 7) (by with_unfolding_all rfl))))))))).pt
      (pss_one (ps_ret pe_bl))
      pss_nil)
      (pss_cons (ps_expr (pe_bm PySem.F.plainAttrs_list PySem.F.slot_list_append PySem.F.type_list_append mt_append (pv 9) (pa_cons (pe_tup (pa_cons (pv 4) (pa_cons pe_int (pa_cons (pe_tup (pa_cons pe_int pa_nil)) pa_nil)))) pa_nil)))
      (pss_cons (ps_if ((pw_or (pt_cmpR (op_neDK (K := K) rfl hr.units) (pe_meth0 (pv 6) T.C_Table T.m_Table_told (ok_Table_told T) (hr.mono (by decide)) T.b_Table_told .nil pass0) (pe_callB (cr_sortA (K := K) rfl (units65 hr)) (by rfl) T.z_sorted bt_sorted (pa_cons (pv 3) pa_nil)) (nomark _)) (pw_or (pt_cmpR op_ne (pe_call (ok_law_missing T) (hr.mono (by decide)) (by rfl) T.g_law_missing T.F_law_missing.kp T.b_law_missing .nil pass0 (pa_cons (pv 6) (pa_cons (pv 4) (pa_cons pe_int pa_nil)))) (pv 4) (nomark _)) (pw_or1 (pt_cmpR (op_ownEq (ok_Table_eq T) (hr.mono (by decide)) T.I_Table T.m_Table_eq T.b_Table_eq pass0) (pv 6) pe_str (by with_unfolding_all rfl)))))).pt
      (pss_one (ps_ret pe_bl))
      pss_nil)
      (pss_cons (ps_for PassesOwn.never rfl (pi_listK (K := K) rfl (pv 3)) (pg_tupK (K := K) (n := 3) rfl (by rfl) (pgs_cons (pg_name (i := 10) sc_law.nd rfl (Or.inr rfl)) (pgs_cons (pg_name (i := 11) sc_law.nd rfl (Or.inr rfl)) (pgs_cons (pg_name (i := 12) sc_law.nd rfl (Or.inr rfl)) pgs_nil))))
      (pss_cons (ps_if ((pw_or (pt_cmpR (op_neDK (K := K) rfl hr.units) (pe_meS (pv 6) T.C_Table T.m_Table_of (ok_Table_of T) (hr.mono (by decide)) T.b_Table_of .nil coldAt (pa_cons (pv 10) (pa_cons (pv 11) pa_nil))) (pv 12) (nomark _)) (pw_or1 ((pw_and (pt_cmpR op_eq (pv 11) pe_int (nomark _)) (pw_and1 (pt_cmpR (op_neDK (K := K) rfl hr.units) (pe_meS (pv 6) T.C_Table T.m_Table_of (ok_Table_of T) (hr.mono (by decide)) bq_Table_of_2 vq_Table_of_2 coldAt (pa_cons (pv 10) pa_nil)) (pv 12) (nomark _))))).pt))).pt
      (pss_one (ps_ret pe_bl))
      pss_nil)
      (pss_cons (ps_if (pt_cmpR (op_notInDK (K := K) rfl (units65 hr)) (pe_lst (pa_cons (pv 10) (pa_cons (pe_op op_sub pe_int (pv 11)) pa_nil))) (pe_lc (own := [("_law_row", 15)]) (by rfl) sc_law.nd (pi_listK (K := K) rfl (pv 3)) (blkOk_by (own := [("_law_row", 15)]) (N := ["_law_script", "_law_s", "_law_names", "_law_rows", "_law_other", "_law_handed", "_law_table", "_law_again", "_law_good", "_law_told", "_law_name_here", "_law_way", "_law_starts", "_law_rest", "_law_changed", "_law_row"]) (sc := defScope s_law) (by decide +kernel)) (fun _ _ _ _ _ => (pg_name (i := 15) sc_law.nd rfl (Or.inl rfl))) (fun _ _ _ _ _ => pts_nil) (fun _ _ _ _ _ => (pe_lst (pa_cons (pe_ix (ix_tupK (K := K) rfl) (pv 15) pe_int (fun _ _ => rfl)) (pa_cons (pe_ix (ix_tupK (K := K) rfl) (pv 15) pe_int (fun _ _ => rfl)) pa_nil))))) (by with_unfolding_all rfl))
      (pss_one (ps_if (pt_cmpR op_ne (pe_call (ok_law_missing T) (hr.mono (by decide)) (by rfl) T.g_law_missing T.F_law_missing.kp T.b_law_missing .nil pass0 (pa_cons (pv 6) (pa_cons (pv 10) (pa_cons (pe_op op_sub pe_int (pv 11)) pa_nil)))) (pv 10) (nomark _))
      (pss_one (ps_ret pe_bl))
      pss_nil))
      pss_nil)
      (pss_cons (ps_setLc (i := 13) (own := [("_law_row", 15)]) (by rfl) sc_law.nd rfl rfl (sw_true rfl rfl rfl (by decide +kernel)) (pi_listK (K := K) rfl (pv 3)) (blkOk_by (own := [("_law_row", 15)]) (N := ["_law_script", "_law_s", "_law_names", "_law_rows", "_law_other", "_law_handed", "_law_table", "_law_again", "_law_good", "_law_told", "_law_name_here", "_law_way", "_law_starts", "_law_rest", "_law_changed", "_law_row"]) (sc := defScope s_law) (by decide +kernel)) (fun _ _ _ _ _ => (pg_name (i := 15) sc_law.nd rfl (Or.inl rfl))) (fun _ _ _ _ _ => (pts_one (pt_cmpR (op_neDK (K := K) rfl hr.units) (pv 15) (pe_tup (pa_cons (pv 10) (pa_cons (pv 11) (pa_cons (pv 12) pa_nil)))) (nomark _)))) (fun _ _ _ _ _ => (pv 15)))
      (pss_cons (ps_set (i := 14) sc_law.nd rfl (Or.inl rfl) (pe_op op_cat (pv 13) (pe_lst (pa_cons (pe_tup (pa_cons (pv 10) (pa_cons (pv 11) (pa_cons (pe_op (op_catAK (K := K) rfl) (pe_slice (sl_tupAK (K := K) rfl) (pv 12) po_none (po_some (pe_un un_neg pe_int))) (pe_tup (pa_cons (pe_op op_add (pe_ix (ix_tupK (K := K) rfl) (pv 12) (pe_un un_neg pe_int) (fun _ _ => rfl)) pe_int) pa_nil))) pa_nil)))) pa_nil))))
      (pss_one (ps_if ((pw_or (pt_cmpR (op_ownEq (ok_Table_eq T) (hr.mono (by decide)) T.I_Table T.m_Table_eq T.b_Table_eq pass0) (pv 6) (pe_mkS T.M_Table (ok_Table_init T) (hr.mono (by decide)) (by rfl) T.g_Table T.b_Table_init .nil (coldAt0 (E := fun _ _ _ _ => False)) (pa_cons (pv 13) pa_nil)) (by with_unfolding_all rfl)) (pw_or1 (pt_cmpR (op_ownEq (ok_Table_eq T) (hr.mono (by decide)) T.I_Table T.m_Table_eq T.b_Table_eq pass0) (pv 6) (pe_mkS T.M_Table (ok_Table_init T) (hr.mono (by decide)) (by rfl) T.g_Table T.b_Table_init .nil (coldAt0 (E := fun _ _ _ _ => False)) (pa_cons (pv 14) pa_nil)) (by with_unfolding_all rfl))))).pt
      (pss_one (ps_ret pe_bl))
      pss_nil)))))))
      (pss_one (ps_ret (pe_and (pe_cmpR (op_ownEq (ok_Table_eq T) (hr.mono (by decide)) T.I_Table T.m_Table_eq T.b_Table_eq pass0) (pv 6) (pe_mkS T.M_Table (ok_Table_init T) (hr.mono (by decide)) (by rfl) T.g_Table T.b_Table_init .nil (coldAt0 (E := fun _ _ _ _ => False)) (pa_cons (pv 3) pa_nil)) (by with_unfolding_all rfl)) (pe_and (pe_not (pe_cmpR (op_ownEq (ok_Table_eq T) (hr.mono (by decide)) T.I_Table T.m_Table_eq T.b_Table_eq pass0) (pv 6) (pe_mkS T.M_Table (ok_Table_init T) (hr.mono (by decide)) (by rfl) T.g_Table T.b_Table_init .nil (coldAt0 (E := fun _ _ _ _ => False)) (pa_cons (pe_op op_cat (pv 3) (pe_lst (pa_cons (pe_tup (pa_cons (pv 4) (pa_cons pe_int (pa_cons (pe_tup (pa_cons pe_int pa_nil)) pa_nil)))) pa_nil))) pa_nil)) (by with_unfolding_all rfl))) (pe_one (pe_cmpR op_eq (pe_callB (cr_lenOwn (ok_Table_len T) (hr.mono (by decide)) T.m_Table_len T.b_Table_len pass0) (by rfl) T.z_len bt_len (pa_cons (pe_mkS0 T.M_Table (ok_Table_init T) (hr.mono (by decide)) (by rfl) T.g_Table bq_Table_init_1 vq_Table_init_1 (coldAt0 (E := fun _ _ _ _ => False))) pa_nil)) pe_int (nomark _))))))))))))))))))))), ?_⟩
    refine i_seq (i_set (i_call (i_cons (i_var rfl (i_nil ?_)))))
    refine ⟨a, ns, fun _ => none, rfl, hS, fun _ _ z => (nomatch z), fun s U H1 g D n0 => ?_⟩
    refine law_run (K := K) (nl := 14) (x := a) (U := fun _ => none) ⟨htb, fun _ _ z => (by cases z)⟩ g D n0 q (fun U0 H0 X E => ?_) (law_math T)
    unfold b_law b_law_1
    exact (sim_seq (sim_setO rfl (sim_lst sim_nil))
    (sim_seq (simM_set rfl (simM_fz (simM_call (sim_slot (sim_slotO sim_args)))))
    (sim_seq (simM_set rfl (simM_fz (simM_call (sim_slot (sim_slotO sim_args)))))
    (sim_seq (sim_setO rfl (sim_cbO bu_list (sim_consW (SimE.w sim_var) sim_nilW)))
    (sim_seq (sim_set rfl (sim_fz sim_mkF0))
    (sim_seq (sim_set rfl (sim_fz (sim_mkA0 (sim_cons (sim_cb bu_tuple (sim_consW (SimE.w (sim_fz (sim_rev (SimE.w sim_var)))) sim_nilW)) sim_nil))))
    (sim_seq (sim_set rfl (sim_op op_eqDD sim_varW (SimE.w sim_var)))
    (sim_seq (sim_app (sim_tup (sim_cons sim_var (sim_cons sim_int (sim_cons (sim_tup (sim_cons sim_int sim_nil)) sim_nil)))))
    (sim_seq (sim_setO rfl (sim_me0 sim_var sim_args))
    (sim_seq (sim_if (sim_or (sim_not (sim_test (SimE.w sim_var))) (sim_or (sim_not (sim_test (SimE.w (sim_cb bu_isi (sim_consW sim_varW (sim_consW (SimE.w sim_ty) sim_nilW)))))) (sim_or (sim_test (SimE.w (sim_op op_neDD sim_varW (SimE.w (sim_fz (sim_cbO bu_sortA (sim_consW (SimE.w sim_var) sim_nilW))))))) (sim_or (sim_test (SimE.w (sim_op op_neS (SimE.w (sim_lenO sim_var)) (SimE.w (sim_cb bu_len (sim_consW (SimE.w sim_var) sim_nilW)))))) (sim_not (sim_test (SimE.w (sim_ownEq sim_var sim_var))))))))
    (sim_ret sim_bl)
    sim_next)
    (sim_seq (sim_app (sim_tup (sim_cons sim_var (sim_cons sim_int (sim_cons (sim_tup (sim_cons sim_int sim_nil)) sim_nil)))))
    (sim_seq (sim_if (sim_or (sim_test (SimE.w (sim_op op_neDD (SimE.w (sim_fz (sim_me0 sim_var sim_args))) (SimE.w (sim_fz (sim_cbO bu_sortA (sim_consW (SimE.w sim_var) sim_nilW))))))) (sim_or (sim_test (SimE.w (sim_op op_neS (SimE.w (sim_fz (sim_call (sim_arg sim_var (sim_arg sim_var (sim_arg sim_int sim_args)))))) (SimE.w sim_var)))) (sim_test (SimE.w (sim_ownEq sim_var sim_str)))))
    (sim_ret sim_bl)
    sim_next)
    (sim_seq (sim_for (sim_itL sim_var) (sim_gT (sim_gsCons (sim_gN rfl) (sim_gsCons (sim_gN rfl) (sim_gsCons (sim_gN rfl) sim_gsNil))))
    (sim_seq (sim_if (sim_or (sim_test (SimE.w (sim_op op_neDD (SimE.w (sim_fz (sim_meS0 sim_var (sim_arg sim_var (sim_arg sim_var sim_args))))) (SimE.w sim_var)))) (sim_and (sim_test (SimE.w (sim_op op_eqS (SimE.w sim_var) (SimE.w sim_int)))) (sim_test (SimE.w (sim_op op_neDD (SimE.w (sim_fz (sim_meD0 rfl sim_var (sim_arg sim_var sim_args)))) (SimE.w sim_var))))))
    (sim_ret sim_bl)
    sim_next)
    (sim_seq (sim_if (sim_test (SimE.w (sim_op op_notInDD (SimE.w (sim_fz (sim_lst (sim_cons sim_var (sim_cons (sim_op (op_i0 (fun _ _ _ => rfl)) (SimE.w sim_int) (SimE.w sim_var)) sim_nil))))) (SimE.w (sim_fz (sim_lc (sim_itLW (SimE.w sim_var)) (sim_gN rfl) sim_yes (sim_fz (sim_lst (sim_cons (sim_op op_ixT (SimE.w sim_var) (SimE.w sim_int)) (sim_cons (sim_op op_ixT (SimE.w sim_var) (SimE.w sim_int)) sim_nil)))) rfl rfl))))))
    (sim_if (sim_test (SimE.w (sim_op op_neS (SimE.w (sim_fz (sim_call (sim_arg sim_var (sim_arg sim_var (sim_arg (sim_op (op_i0 (fun _ _ _ => rfl)) (SimE.w sim_int) (SimE.w sim_var)) sim_args)))))) (SimE.w sim_var))))
    (sim_ret sim_bl)
    sim_next)
    sim_next)
    (sim_seq (sim_set rfl (sim_fz (sim_lc (sim_itLW (SimE.w sim_var)) (sim_gN rfl) (sim_test (SimE.w (sim_op op_neDD (SimE.w sim_var) (SimE.w (sim_tup (sim_cons sim_var (sim_cons sim_var (sim_cons sim_var sim_nil)))))))) sim_var rfl rfl)))
    (sim_seq (sim_set rfl (sim_fz (sim_opO op_catD (SimE.w sim_var) (SimE.w (sim_fz (sim_lst (sim_cons (sim_tup (sim_cons sim_var (sim_cons sim_var (sim_cons (sim_op op_catTD (SimE.w (sim_sl sl_tD (SimE.w sim_var) sim_noPart (sim_part (SimE.w (sim_un (un_i fun _ _ => rfl) (SimE.w sim_int)))))) (SimE.w (sim_tup (sim_cons (sim_op (op_i0 (fun _ _ _ => rfl)) (SimE.w (sim_op op_ixT (SimE.w sim_var) (SimE.w (sim_un (un_i fun _ _ => rfl) (SimE.w sim_int))))) (SimE.w sim_int)) sim_nil)))) sim_nil)))) sim_nil)))))))
    (sim_if (sim_or (sim_test (SimE.w (sim_ownEq sim_var (sim_fz (sim_mkA0 (sim_cons sim_var sim_nil)))))) (sim_test (SimE.w (sim_ownEq sim_var (sim_fz (sim_mkA0 (sim_cons sim_var sim_nil)))))))
    (sim_ret sim_bl)
    sim_next))))))
    (sim_ret (sim_andV (SimE.w (sim_ownEq sim_var (sim_fz (sim_mkA0 (sim_cons sim_var sim_nil))))) (sim_andV (SimE.w (sim_notV (SimE.w (sim_ownEq sim_var (sim_fz (sim_mkA0 (sim_cons (sim_fz (sim_opO op_catD (SimE.w sim_var) (SimE.w (sim_fz (sim_lst (sim_cons (sim_tup (sim_cons sim_var (sim_cons sim_int (sim_cons (sim_tup (sim_cons sim_int sim_nil)) sim_nil)))) sim_nil)))))) sim_nil))))))) (sim_op op_eqS (SimE.w (sim_lenO (sim_fz (sim_mkD0 T.q_Table_init_rows)))) (SimE.w sim_int))))))))))))))))))
end
theorem all_mk {l : PySem.W.OpenLaw} {w : World} {K : PySem.W.Frag} {h : Heap} {mg : Str → Option Value} {fa : Addr} (X : K.In h) (G : h.Ns mainGlobals mg) (hfa : mg "law" = some (.ref fa))
    {oc_Table : Addr}
    {f0 : Addr} {od0 an0 : Option Addr} {sl0 : Array (Option Value)} {oc0 kV0 dc0 pm0 cd0 ct0 : Value}
    {f1 : Addr} {od1 an1 : Option Addr} {sl1 : Array (Option Value)} {oc1 kV1 dc1 pm1 cd1 ct1 : Value} {DP1 : Addr} {dpo1 : Option Addr} {dpn1 : Nat} {dps1 : Array (Option Value)} {ep1_0 : Addr} {eq1_0 : Option Addr} {er1_0 : Nat} {es1_0 : Array (Option Value)}
    {f2 : Addr} {od2 an2 : Option Addr} {sl2 : Array (Option Value)} {oc2 kV2 dc2 pm2 cd2 ct2 : Value}
    {f3 : Addr} {od3 an3 : Option Addr} {sl3 : Array (Option Value)} {oc3 kV3 dc3 pm3 cd3 ct3 : Value} {DP3 : Addr} {dpo3 : Option Addr} {dpn3 : Nat} {dps3 : Array (Option Value)} {tp3_0 : Tok}
    {f4 : Addr} {od4 an4 : Option Addr} {sl4 : Array (Option Value)} {oc4 kV4 dc4 pm4 cd4 ct4 : Value}
    {f5 : Addr} {od5 an5 : Option Addr} {sl5 : Array (Option Value)} {oc5 kV5 dc5 pm5 cd5 ct5 : Value}
    {f6 : Addr} {od6 an6 : Option Addr} {sl6 : Array (Option Value)} {oc6 kV6 dc6 pm6 cd6 ct6 : Value}
    {f7 : Addr} {od7 an7 : Option Addr} {sl7 : Array (Option Value)} {oc7 kV7 dc7 pm7 cd7 ct7 : Value}
    {f8 : Addr} {od8 an8 : Option Addr} {sl8 : Array (Option Value)} {oc8 kV8 dc8 pm8 cd8 ct8 : Value}
    {f9 : Addr} {od9 an9 : Option Addr} {sl9 : Array (Option Value)} {oc9 kV9 dc9 pm9 cd9 ct9 : Value}
    {f10 : Addr} {od10 an10 : Option Addr} {sl10 : Array (Option Value)} {oc10 kV10 dc10 pm10 cd10 ct10 : Value}
    {f11 : Addr} {od11 an11 : Option Addr} {sl11 : Array (Option Value)} {oc11 kV11 dc11 pm11 cd11 ct11 : Value}
    {ec_NetError : Addr} {ec_NoName : Addr}
    {on_NoName oq_NoName : Str} {oN_NoName : Addr} {ob_NoName : List Value} {os_NoName : List Str} {ou_NoName : List Value} {oa_NoName : Bool} {ol_NoName : Option Bool} {od_NoName : Option Addr} {oA_NoName oB_NoName oC_NoName oD_NoName oE_NoName : Option Value}
    (oa_Table : PySem.W.nsIn K mainGlobals "Table" = some (some (.ref oc_Table))) (opg_Table : PySem.W.plainGet K oc_Table Str.empty = true) (ohd_Table : PySem.W.hasDictIn K oc_Table = true) (opo_Table : PySem.W.plainOver K oc_Table = true) (osa_Table : PySem.W.findIn K (.ref oc_Table) "__setattr__" = some (some (.builtin "object.__setattr__")))
    (on_Table_starts : PySem.W.findIn K (.ref oc_Table) "starts" = some none)
    (iA_Table : PySem.W.kitCls K (.type "str") (.ref oc_Table) = some false) (iB_Table : PySem.W.findIn K (.ref oc_Table) "__class__" = some (some (.builtin "object.__class__"))) (iC_Table : PySem.W.specialIn K (.builtin "object.__class__") "__get__" = some (some (.builtin "getset_descriptor.__get__"))) (iD_Table : PySem.W.takesIn K (.builtin "object.__class__") = some true) (iE_Table : PySem.W.mroIn K oc_Table (.type "object") = some true) (iF_Table : PySem.W.subIn K (.type "str") (.ref oc_Table) = some false)
    (omk_Table : PySem.W.makesIn K oc_Table = true) (okp_Table : PySem.W.keepIn K (.ref oc_Table) = true)
    (a0 : PySem.W.findIn K (.ref ec_NoName) "__init__" = some (some (.ref f0))) (i0 : PySem.W.typeIn K (.ref f0) = some (.type "function")) (l0 : K.lookup f0 = some ⟨oc0, od0, .func (PySem.W.fnOf "__init__" "NoName.__init__" (defArgs s_NoName_init) (defBody s_NoName_init) (defScope s_NoName_init) .none kV0 dc0 pm0 an0 cd0 ct0), sl0⟩) (c0 : PySem.W.codeIn K cd0 "NoName.__init__" = true) (k0 : PySem.W.keepIn K (.ref f0) = true)
    (a1 : PySem.W.findIn K (.ref oc_Table) "__init__" = some (some (.ref f1))) (i1 : PySem.W.isFn K (.ref f1) = true) (l1 : K.lookup f1 = some ⟨oc1, od1, .func (PySem.W.fnOf "__init__" "Table.__init__" (defArgs s_Table_init) (defBody s_Table_init) (defScope s_Table_init) (.ref DP1) kV1 dc1 pm1 an1 cd1 ct1), sl1⟩) (c1 : PySem.W.codeIn K cd1 "Table.__init__" = true) (k1 : PySem.W.keepIn K (.ref f1) = true)
    (ldp1 : K.lookup DP1 = some ⟨.type "tuple", dpo1, .seq #[.ref ep1_0] dpn1, dps1⟩)
    (yp1_0 : K.lookup ep1_0 = some ⟨.type "tuple", eq1_0, .seq #[] er1_0, es1_0⟩)
    (a2 : PySem.W.findIn K (.ref oc_Table) "told" = some (some (.ref f2))) (i2 : PySem.W.isFn K (.ref f2) = true) (l2 : K.lookup f2 = some ⟨oc2, od2, .func (PySem.W.fnOf "told" "Table.told" (defArgs s_Table_told) (defBody s_Table_told) (defScope s_Table_told) .none kV2 dc2 pm2 an2 cd2 ct2), sl2⟩) (c2 : PySem.W.codeIn K cd2 "Table.told" = true) (k2 : PySem.W.keepIn K (.ref f2) = true)
    (a3 : PySem.W.findIn K (.ref oc_Table) "of" = some (some (.ref f3))) (i3 : PySem.W.isFn K (.ref f3) = true) (l3 : K.lookup f3 = some ⟨oc3, od3, .func (PySem.W.fnOf "of" "Table.of" (defArgs s_Table_of) (defBody s_Table_of) (defScope s_Table_of) (.ref DP3) kV3 dc3 pm3 an3 cd3 ct3), sl3⟩) (c3 : PySem.W.codeIn K cd3 "Table.of" = true) (k3 : PySem.W.keepIn K (.ref f3) = true)
    (ldp3 : K.lookup DP3 = some ⟨.type "tuple", dpo3, .seq #[.int 0 tp3_0] dpn3, dps3⟩)
    (a4 : PySem.W.findIn K (.ref oc_Table) "__eq__" = some (some (.ref f4))) (i4 : PySem.W.isFn K (.ref f4) = true) (l4 : K.lookup f4 = some ⟨oc4, od4, .func (PySem.W.fnOf "__eq__" "Table.__eq__" (defArgs s_Table_eq) (defBody s_Table_eq) (defScope s_Table_eq) .none kV4 dc4 pm4 an4 cd4 ct4), sl4⟩) (c4 : PySem.W.codeIn K cd4 "Table.__eq__" = true) (k4 : PySem.W.keepIn K (.ref f4) = true)
    (a5 : PySem.W.findIn K (.ref oc_Table) "__len__" = some (some (.ref f5))) (i5 : PySem.W.isFn K (.ref f5) = true) (l5 : K.lookup f5 = some ⟨oc5, od5, .func (PySem.W.fnOf "__len__" "Table.__len__" (defArgs s_Table_len) (defBody s_Table_len) (defScope s_Table_len) .none kV5 dc5 pm5 an5 cd5 ct5), sl5⟩) (c5 : PySem.W.codeIn K cd5 "Table.__len__" = true) (k5 : PySem.W.keepIn K (.ref f5) = true)
    (a6 : PySem.W.nsIn K mainGlobals "_law_start" = some (some (.ref f6))) (l6 : K.lookup f6 = some ⟨oc6, od6, .func (PySem.W.fnOf "_law_start" "_law_start" (defArgs s_law_start) (defBody s_law_start) (defScope s_law_start) .none kV6 dc6 pm6 an6 cd6 ct6), sl6⟩) (c6 : PySem.W.codeIn K cd6 "_law_start" = true) (k6 : PySem.W.keepIn K (.ref f6) = true)
    (a7 : PySem.W.nsIn K mainGlobals "_law_draw" = some (some (.ref f7))) (l7 : K.lookup f7 = some ⟨oc7, od7, .func (PySem.W.fnOf "_law_draw" "_law_draw" (defArgs s_law_draw) (defBody s_law_draw) (defScope s_law_draw) .none kV7 dc7 pm7 an7 cd7 ct7), sl7⟩) (c7 : PySem.W.codeIn K cd7 "_law_draw" = true) (k7 : PySem.W.keepIn K (.ref f7) = true)
    (a8 : PySem.W.nsIn K mainGlobals "_law_missing" = some (some (.ref f8))) (l8 : K.lookup f8 = some ⟨oc8, od8, .func (PySem.W.fnOf "_law_missing" "_law_missing" (defArgs s_law_missing) (defBody s_law_missing) (defScope s_law_missing) .none kV8 dc8 pm8 an8 cd8 ct8), sl8⟩) (c8 : PySem.W.codeIn K cd8 "_law_missing" = true) (k8 : PySem.W.keepIn K (.ref f8) = true)
    (a9 : PySem.W.nsIn K mainGlobals "_law_name" = some (some (.ref f9))) (l9 : K.lookup f9 = some ⟨oc9, od9, .func (PySem.W.fnOf "_law_name" "_law_name" (defArgs s_law_name) (defBody s_law_name) (defScope s_law_name) .none kV9 dc9 pm9 an9 cd9 ct9), sl9⟩) (c9 : PySem.W.codeIn K cd9 "_law_name" = true) (k9 : PySem.W.keepIn K (.ref f9) = true)
    (a10 : PySem.W.nsIn K mainGlobals "_law_some" = some (some (.ref f10))) (l10 : K.lookup f10 = some ⟨oc10, od10, .func (PySem.W.fnOf "_law_some" "_law_some" (defArgs s_law_some) (defBody s_law_some) (defScope s_law_some) .none kV10 dc10 pm10 an10 cd10 ct10), sl10⟩) (c10 : PySem.W.codeIn K cd10 "_law_some" = true) (k10 : PySem.W.keepIn K (.ref f10) = true)
    (a11 : PySem.W.nsIn K mainGlobals "law" = some (some (.ref f11))) (l11 : K.lookup f11 = some ⟨oc11, od11, .func (PySem.W.fnOf "law" "law" (defArgs s_law) (defBody s_law) (defScope s_law) .none kV11 dc11 pm11 an11 cd11 ct11), sl11⟩) (c11 : PySem.W.codeIn K cd11 "law" = true) (k11 : PySem.W.keepIn K (.ref f11) = true)
    (z_abs : PySem.W.nsIn K mainGlobals "abs" = some none)
    (z_isinstance : PySem.W.nsIn K mainGlobals "isinstance" = some none)
    (z_len : PySem.W.nsIn K mainGlobals "len" = some none)
    (z_list : PySem.W.nsIn K mainGlobals "list" = some none)
    (z_range : PySem.W.nsIn K mainGlobals "range" = some none)
    (z_sorted : PySem.W.nsIn K mainGlobals "sorted" = some none)
    (z_tuple : PySem.W.nsIn K mainGlobals "tuple" = some none)
    (ea_NetError : PySem.W.nsIn K mainGlobals "NetError" = some (some (.ref ec_NetError))) (eb_base : PySem.W.subIn K (.ref ec_NetError) (.type "BaseException") = some true) (eb_dict : PySem.W.hasDictIn K ec_NetError = true) (eb_type : PySem.W.typeIn K (.ref ec_NetError) = some (.type "type")) (eb_get : PySem.W.specialIn K (.builtin "object.__class__") "__get__" = some (some (.builtin "getset_descriptor.__get__"))) (eb_tak : PySem.W.takesIn K (.builtin "object.__class__") = some true)
    (ea_NoName : PySem.W.nsIn K mainGlobals "NoName" = some (some (.ref ec_NoName))) (ee_NoName : errB K ec_NoName ec_NetError = true)
    (xl_NoName : K.lookup ec_NoName = some (excClassObj on_NoName oq_NoName ec_NoName oN_NoName ob_NoName [.ref ec_NetError, .type "ValueError", .type "Exception", .type "BaseException", .type "object"] true os_NoName ou_NoName oa_NoName ol_NoName od_NoName oA_NoName oB_NoName oC_NoName oD_NoName oE_NoName "ValueError.__new__")) (xr_NoName : PySem.HandSPX.refsVE [.ref ec_NetError, .type "ValueError", .type "Exception", .type "BaseException", .type "object"] = true) (xs_NoName : PySem.W.findIn K (.ref ec_NoName) "__setattr__" = some (some (.builtin "object.__setattr__")))
    (xn_NoName_name : PySem.W.findIn K (.ref ec_NoName) "name" = some none)
    (e_nd : [ec_NetError, ec_NoName].Nodup) :
    ∃ fd : FuncData, (∀ (s : Shared) (v : Value), BindsTo s fd ⟨[v], []⟩ [("_law_script", v)]) ∧ ∀ base : Heap, K.In base → base.Ns mainGlobals mg → FnOk l.prog w K mg base CX0 5 fa fd ["_law_script"] (spLaw K []) := by
  have e := hfa.symm.trans (PySem.W.mg_of X G a11)
  cases e
  have F0 := fun_mk (st := s_NoName_init) l0 c0 k0
  have b0 := F0.binds (ps := ["self", "name"]) fun _ _ _ _ _ _ us hl => match us, hl with | [_, _], _ => rfl
  have D1 : FunD K "__init__" "Table.__init__" (defArgs s_Table_init) (defBody s_Table_init) (defScope s_Table_init) [V.ref ep1_0] [] f1 _ := ⟨⟨_, _, _, _, _, _, _, _, _, _, rfl, l1, c1, .inr ⟨(by intro z; cases z), _, _, [.ref ep1_0], _, rfl, ldp1, rfl, (.cons rfl .nil)⟩, .inl rfl⟩, k1⟩
  obtain ⟨dz1, vz1, b1⟩ := D1.binds1 (ps := ["self", "rows"]) 2 1 (by intro z; cases z) rfl (fun T kV doc pm an cdv ct us its h1 h2 => by
      match us, h1, its, h2 with
      | [_, _], _, [_], _ => exact ⟨_, rfl, rfl⟩)
  cases vz1
  have F2 := fun_mk (st := s_Table_told) l2 c2 k2
  have b2 := F2.binds (ps := ["self"]) fun _ _ _ _ _ _ us hl => match us, hl with | [_], _ => rfl
  have D3 : FunD K "of" "Table.of" (defArgs s_Table_of) (defBody s_Table_of) (defScope s_Table_of) [V.int 0] [] f3 _ := ⟨⟨_, _, _, _, _, _, _, _, _, _, rfl, l3, c3, .inr ⟨(by intro z; cases z), _, _, [.int 0 tp3_0], _, rfl, ldp3, rfl, (.cons ⟨_, rfl⟩ .nil)⟩, .inl rfl⟩, k3⟩
  obtain ⟨dz3, vz3, b3⟩ := D3.binds1 (ps := ["self", "name", "way"]) 3 1 (by intro z; cases z) rfl (fun T kV doc pm an cdv ct us its h1 h2 => by
      match us, h1, its, h2 with
      | [_, _, _], _, [_], _ => exact ⟨_, rfl, rfl⟩)
  cases vz3
  have F4 := fun_mk (st := s_Table_eq) l4 c4 k4
  have b4 := F4.binds (ps := ["self", "other"]) fun _ _ _ _ _ _ us hl => match us, hl with | [_, _], _ => rfl
  have F5 := fun_mk (st := s_Table_len) l5 c5 k5
  have b5 := F5.binds (ps := ["self"]) fun _ _ _ _ _ _ us hl => match us, hl with | [_], _ => rfl
  have F6 := fun_mk (st := s_law_start) l6 c6 k6
  have b6 := F6.binds (ps := ["_law_script"]) fun _ _ _ _ _ _ us hl => match us, hl with | [_], _ => rfl
  have F7 := fun_mk (st := s_law_draw) l7 c7 k7
  have b7 := F7.binds (ps := ["_law_s", "_law_many"]) fun _ _ _ _ _ _ us hl => match us, hl with | [_, _], _ => rfl
  have F8 := fun_mk (st := s_law_missing) l8 c8 k8
  have b8 := F8.binds (ps := ["_law_table", "_law_name_here", "_law_way"]) fun _ _ _ _ _ _ us hl => match us, hl with | [_, _, _], _ => rfl
  have F9 := fun_mk (st := s_law_name) l9 c9 k9
  have b9 := F9.binds (ps := ["_law_s", "_law_names"]) fun _ _ _ _ _ _ us hl => match us, hl with | [_, _], _ => rfl
  have F10 := fun_mk (st := s_law_some) l10 c10 k10
  have b10 := F10.binds (ps := ["_law_s", "_law_names"]) fun _ _ _ _ _ _ us hl => match us, hl with | [_, _], _ => rfl
  have F11 := fun_mk (st := s_law) l11 c11 k11
  have b11 := F11.binds (ps := ["_law_script"]) fun _ _ _ _ _ _ us hl => match us, hl with | [_], _ => rfl
  refine ⟨PySem.W.fnOf "law" "law" (defArgs s_law) (defBody s_law) (defScope s_law) .none kV11 dc11 pm11 an11 cd11 ct11, fun s v => .of_eq rfl, fun base _ _ => ?_⟩
  exact ok_law (T := ({ c_Table := oc_Table, g_Table := PySem.W.mg_of X G oa_Table, C_Table := ⟨opg_Table, ohd_Table, opo_Table, osa_Table⟩, N_Table_starts := on_Table_starts, I_Table := ⟨iA_Table, iB_Table, iC_Table, iD_Table, iE_Table, iF_Table⟩, f_NoName_init := f0, fd_NoName_init := _, F_NoName_init := F0, b_NoName_init := b0, XI_NoName := a0, XT_NoName := i0, e_Table_init_rows := ep1_0, q_Table_init_rows := fun _ => .inr ⟨_, _, _, yp1_0, rfl, rfl, (by show 0 ≤ sizeLine; decide), .nil⟩, f_Table_init := f1, fd_Table_init := _, P_Table_init := D1, b_Table_init := b1, m_Table_init := ⟨a1, i1, k1⟩, M_Table := ⟨omk_Table, a1, i1, okp_Table⟩, f_Table_told := f2, fd_Table_told := _, F_Table_told := F2, b_Table_told := b2, m_Table_told := ⟨a2, i2, k2⟩, f_Table_of := f3, fd_Table_of := _, P_Table_of := D3, b_Table_of := b3, m_Table_of := ⟨a3, i3, k3⟩, f_Table_eq := f4, fd_Table_eq := _, F_Table_eq := F4, b_Table_eq := b4, m_Table_eq := ⟨a4, i4, k4⟩, f_Table_len := f5, fd_Table_len := _, F_Table_len := F5, b_Table_len := b5, m_Table_len := ⟨a5, i5, k5⟩, f_law_start := f6, fd_law_start := _, F_law_start := F6, b_law_start := b6, g_law_start := PySem.W.mg_of X G a6, f_law_draw := f7, fd_law_draw := _, F_law_draw := F7, b_law_draw := b7, g_law_draw := PySem.W.mg_of X G a7, f_law_missing := f8, fd_law_missing := _, F_law_missing := F8, b_law_missing := b8, g_law_missing := PySem.W.mg_of X G a8, f_law_name := f9, fd_law_name := _, F_law_name := F9, b_law_name := b9, g_law_name := PySem.W.mg_of X G a9, f_law_some := f10, fd_law_some := _, F_law_some := F10, b_law_some := b10, g_law_some := PySem.W.mg_of X G a10, f_law := fa, fd_law := _, F_law := F11, b_law := b11, g_law := PySem.W.mg_of X G a11, z_abs := PySem.W.mg_none_of X G z_abs, z_isinstance := PySem.W.mg_none_of X G z_isinstance, z_len := PySem.W.mg_none_of X G z_len, z_list := PySem.W.mg_none_of X G z_list, z_range := PySem.W.mg_none_of X G z_range, z_sorted := PySem.W.mg_none_of X G z_sorted, z_tuple := PySem.W.mg_none_of X G z_tuple, c_NetError := ec_NetError, g_NetError := PySem.W.mg_of X G ea_NetError, k_base := eb_base, k_dict := eb_dict, k_type := eb_type, k_get := eb_get, k_tak := eb_tak, c_NoName := ec_NoName, g_NoName := PySem.W.mg_of X G ea_NoName, e_NoName := errC_of ee_NoName, OX_NoName := ⟨⟨_, _, _, _, _, _, _, _, _, _, _, _, _, _, _, xl_NoName, xr_NoName⟩, xs_NoName, (errC_of ee_NoName).base, (errC_of ee_NoName).ty, (errC_of ee_NoName).kp⟩, XN_NoName_name := xn_NoName_name, XF_NoName := ⟨(errC_of ee_NoName).ga, (errC_of ee_NoName).gt, (errC_of ee_NoName).base, (errC_of ee_NoName).hd⟩, k_nd := e_nd, tb := [] } : Tx K mg base))
end SW
open PySem PySem.W PyProof.Rows
set_option maxRecDepth 100000 in
set_option maxHeartbeats 0 in
theorem PySem.Challenge.cw_slotwright_k27_table_told_holds : PySem.Challenge.rw_slotwright_k27_table_told.Holds := by
  w_on; o_law; k_head; (case hw => w_witness2)
  k_fill
  letI : SW.QN := SW.qnc ("-")
  refine L2.walk_ofB (l := PySem.Challenge.rw_slotwright_k27_table_told) (n := 63) (k := 5) (x := "_law_script") (CX := fun _ => L2.CX0) (sp := fun w => SW.spLaw _ []) rfl (by decide) rfl ⟨rfl, by decide, by decide⟩ (fun w h Y => PySem.W.kIn_of Y) ?F (fun _ _ a ns hl hb _ hS => ⟨a, ns, rfl, hS, hl, hb, (fun _ h => nomatch h), fun _ => rfl⟩) (fun _ _ _ _ _ h => h)
  case F =>
    intro w mg fa h KX G hmg
    letI : SW.QN := SW.qnc ("-")
    refine' SW.all_mk KX G hmg ?oa_Table ?opg_Table ?ohd_Table ?opo_Table ?osa_Table ?on_Table_starts ?iA_Table ?iB_Table ?iC_Table ?iD_Table ?iE_Table ?iF_Table ?omk_Table ?okp_Table ?a0 ?i0 ?l0 ?c0 ?k0 ?a1 ?i1 ?l1 ?c1 ?k1 ?ldp1 ?yp1_0 ?a2 ?i2 ?l2 ?c2 ?k2 ?a3 ?i3 ?l3 ?c3 ?k3 ?ldp3 ?a4 ?i4 ?l4 ?c4 ?k4 ?a5 ?i5 ?l5 ?c5 ?k5 ?a6 ?l6 ?c6 ?k6 ?a7 ?l7 ?c7 ?k7 ?a8 ?l8 ?c8 ?k8 ?a9 ?l9 ?c9 ?k9 ?a10 ?l10 ?c10 ?k10 ?a11 ?l11 ?c11 ?k11 ?z_abs ?z_isinstance ?z_len ?z_list ?z_range ?z_sorted ?z_tuple ?ea_NetError ?eb_base ?eb_dict ?eb_type ?eb_get ?eb_tak ?ea_NoName ?ee_NoName ?xl_NoName ?xr_NoName ?xs_NoName ?xn_NoName_name ?e_nd
    (case ea_NetError => k_is)
    (case ea_NoName => k_is)
    (case oa_Table => k_is)
    (case opg_Table => k_is)
    (case ohd_Table => k_is)
    (case opo_Table => k_is)
    (case osa_Table => k_is)
    (case on_Table_starts => k_is)
    (case iA_Table => kernel_rfl)
    (case iB_Table => k_is)
    (case iC_Table => k_is)
    (case iD_Table => k_is)
    (case iE_Table => k_is)
    (case iF_Table => k_is)
    (case omk_Table => k_is)
    (case okp_Table => k_is)
    (case a0 => k_is)
    (case i0 => k_is)
    (case l0 => k_is)
    (case c0 => k_is)
    (case k0 => k_is)
    (case a1 => k_is)
    (case i1 => k_is)
    (case l1 => k_is)
    (case c1 => k_is)
    (case k1 => k_is)
    (case ldp1 => k_is)
    (case yp1_0 => k_is)
    (case a2 => k_is)
    (case i2 => k_is)
    (case l2 => k_is)
    (case c2 => k_is)
    (case k2 => k_is)
    (case a3 => k_is)
    (case i3 => k_is)
    (case l3 => k_is)
    (case c3 => k_is)
    (case k3 => k_is)
    (case ldp3 => k_is)
    (case a4 => k_is)
    (case i4 => k_is)
    (case l4 => k_is)
    (case c4 => k_is)
    (case k4 => k_is)
    (case a5 => k_is)
    (case i5 => k_is)
    (case l5 => k_is)
    (case c5 => k_is)
    (case k5 => k_is)
    (case a6 => k_is)
    (case l6 => k_is)
    (case c6 => k_is)
    (case k6 => k_is)
    (case a7 => k_is)
    (case l7 => k_is)
    (case c7 => k_is)
    (case k7 => k_is)
    (case a8 => k_is)
    (case l8 => k_is)
    (case c8 => k_is)
    (case k8 => k_is)
    (case a9 => k_is)
    (case l9 => k_is)
    (case c9 => k_is)
    (case k9 => k_is)
    (case a10 => k_is)
    (case l10 => k_is)
    (case c10 => k_is)
    (case k10 => k_is)
    (case a11 => k_is)
    (case l11 => k_is)
    (case c11 => k_is)
    (case k11 => k_is)
    (case z_abs => k_is)
    (case z_isinstance => k_is)
    (case z_len => k_is)
    (case z_list => k_is)
    (case z_range => k_is)
    (case z_sorted => k_is)
    (case z_tuple => k_is)
    (case eb_base => k_is)
    (case eb_dict => k_is)
    (case eb_type => k_is)
    (case eb_get => k_is)
    (case eb_tak => k_is)
    (case ee_NoName => kernel_rfl)
    (case xl_NoName => k_is)
    (case xr_NoName => decide +kernel)
    (case xs_NoName => k_is)
    (case xn_NoName_name => k_is)
    (case e_nd => decide +kernel)
#print axioms PySem.Challenge.cw_slotwright_k27_table_told_holds
