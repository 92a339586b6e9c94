import PyProof.Rows.All
import Wide.All
import OpenK.AllK
import Wide.FinOn
import HandS.ForMost
import HandS.Wide
import HandS.IsInst
import HandS.EndBits
import HandS.Flow
import HandS.Defaults
import HandS.MakeKwOnly
import KE.KStateDown
import Lean
import HandS.Head0
import HandS.Head1
import HandS.Head2
import HandS.Exc
import HandS.ExcOwn
import HandS.WordsExc
import HandS.TryOnly
import HandS.HotCalls
import HandS.Small
import HandS.ExcField
import KE.KExcIs
import HandS.ExcIs
import HandS.CallSlots
import HandS.MakeKw
import HandS.Walk
import HandS.Style
import HandS.TupAny
import HandS.Deep
import HandS.Strs
import HandS.Set
import HandS.Zip
import HandS.Text
import HandS.Codes
import HandS.Steps
import PyProof.Rows.SortShellAny
import HandS.Sort
import HandS.TryOnly
import KE.KDictSum
import HandS.ExcValue
import HandS.WordsDict
import KE.GoesMore
import KE.SortKeyHeap
import HandS.Lambda
import HandS.SortKw
import HandS.EndOwn
import KE.KNestM
import HandS.DictComp
import HandS.TupLen
import KE.KDictCopyH
import KE.DataMinMax
import HandS.ExcInit
import PyProof.TwoTypesSub
import PyProof.IsRules
import HandS.DictComp
import HandS.Conv
import KE.SortData
import PyProof.ZipIter
import KE.KEqDict
import HandS.FStr
import HandS.Text
import HandS.TryOnly
import KE.KCallOwn
import KE.KUnpackStar
import PySem.Challenge.RW_slotwright_k11_frames_written_and_read
set_option Elab.async false
set_option linter.all false
set_option maxRecDepth 100000
set_option maxHeartbeats 4000000
namespace SW
class Stp (G : Prop) (G' : outParam Prop) : Prop where
  go : G' → G
class St1 {β : outParam Type} (G : Prop) (c g : outParam (β → Prop)) : Prop where
  go : ∀ d : β, c d → g d → G
class St2 {β γ : outParam Type} (G : Prop) (c c' g : outParam (β → γ → Prop)) : Prop where
  go : ∀ (d : β) (e : γ), c d e → c' d e → g d e → G
class St0 (G : Prop) (c g : outParam Prop) : Prop where
  go : c → g → G
open PySem L2
theorem same_new {U : Hp} {p : Addr} {o : HO} (h : U p = none) : Same U (upd U p o) := fun b x e => by
  rw [upd_ne (ne_of_none e h)]
  exact e
theorem same_mut {U H : Hp} {p : Addr} {o : HO} (e : Same U H) (h : U p = none) : Same U (upd H p o) := fun a u ha => by
  rw [upd_ne (ne_of_none ha h)]
  exact e a u ha
theorem upd_get {H : Hp} {p a : Addr} {o x : HO} (n : H p = none) (h : H a = some x) : upd H p o a = some x := by
  rw [upd_ne (ne_of_none h n)]
  exact h
/-- neither a table of codes nor a code -/
def plO : HO → Bool
  | .tbl _ => false
  | .ext _ => false
  | _ => true
def Pl (H : Hp) (p : Addr) : Prop := ∃ o, H p = some o ∧ plO o = true
theorem ntb {o : HO} (h : plO o = true) : ∀ ps, o ≠ .tbl ps := fun ps z => by
  subst z
  cases h
theorem Pl.ne {H : Hp} {p : Addr} (h : Pl H p) : H p ≠ none := by
  obtain ⟨o, e, _⟩ := h
  rw [e]
  intro z
  cases z
theorem Pl.of {H : Hp} {p : Addr} {o : HO} (h : H p = some o) (k : plO o = true) : Pl H p := ⟨o, h, k⟩
/-- a view without tables -/
def NT (U : Hp) : Prop := ∀ a ps, U a ≠ some (.tbl ps)
theorem nt_upd {U : Hp} {p : Addr} {o : HO} (h : NT U) (n : ∀ ps, o ≠ .tbl ps) : NT (upd U p o) := fun a ps z => by
  by_cases e : a = p
  · subst e
    rw [upd_same] at z
    exact n ps (Option.some.inj z)
  · rw [upd_ne e] at z
    exact h a ps z
/-- a table of codes stands on where it and its codes do -/
theorem tab_keep {H H' : Hp} {P : Addr} {q : Str} (h : LamX.TabS H P q) (k : ∀ b o, H b = some o → plO o = false → H' b = some o) : LamX.TabS H' P q := by
  obtain ⟨ps, h1, h2, h3⟩ := h
  refine ⟨ps, k _ _ h1 rfl, h2, fun pos cv hc => ?_⟩
  obtain ⟨c, e1, e2⟩ := h3 pos cv hc
  exact ⟨c, e1, k _ _ e2 rfl⟩
theorem tab_mut {H : Hp} {p P : Addr} {q : Str} {o : HO} (h : LamX.TabS H P q) (old : ∀ x, H p = some x → plO x = true) : LamX.TabS (upd H p o) P q := tab_keep h fun b x e n => by
  rw [upd_ne fun z => by
    subst z
    rw [old x e] at n
    cases n]
  exact e
/-- the name of the codes that a table holds -/
class QN where
  qn : Addr → Str
variable [QN]
structure Gr (M : List Addr) (U H U' H' : Hp) : Prop where
  vv : Same U U'
  vh : Same U' H'
  hh : ∀ a o, a ∉ M → (∀ ps, o ≠ .tbl ps) → H a = some o → H' a = some o
  dom : ∀ a, H a ≠ none → H' a ≠ none
  fr : ∀ a, U a = none → H a ≠ none → U' a = none
  tb : ∀ P, LamX.TabS H P (QN.qn P) → LamX.TabS H' P (QN.qn P)
  nt : NT U → NT U'
theorem Gr.refl {M : List Addr} {U H : Hp} (e : Same U H) : Gr M U H U H := ⟨Same.refl _, e, fun _ _ _ _ h => h, fun _ h => h, fun _ h _ => h, fun _ h => h, id⟩
theorem Gr.trans {M : List Addr} {U0 H0 U1 H1 U2 H2 : Hp} (a : Gr M U0 H0 U1 H1) (b : Gr M U1 H1 U2 H2) : Gr M U0 H0 U2 H2 :=
  ⟨a.vv.trans b.vv, b.vh, fun x o m n h => b.hh x o m n (a.hh x o m n h), fun x h => b.dom x (a.dom x h), fun x h k => b.fr x (a.fr x h k) (a.dom x k), fun P h => b.tb P (a.tb P h), fun h => b.nt (a.nt h)⟩
theorem Gr.weak {M N : List Addr} {U0 H0 U1 H1 : Hp} (a : Gr M U0 H0 U1 H1) (s : ∀ x, x ∈ M → x ∈ N) : Gr N U0 H0 U1 H1 :=
  ⟨a.vv, a.vh, fun x o m n h => a.hh x o (fun z => m (s x z)) n h, a.dom, a.fr, a.tb, a.nt⟩
theorem Gr.any {N : List Addr} {U0 H0 U1 H1 : Hp} (a : Gr [] U0 H0 U1 H1) : Gr N U0 H0 U1 H1 := a.weak fun _ h => nomatch h
theorem Gr.at {M : List Addr} {U0 H0 U1 H1 : Hp} {p : Addr} (a : Gr M U0 H0 U1 H1) (m : p ∉ M) (h : Pl H0 p) : H1 p = H0 p := by
  obtain ⟨o, e, n⟩ := h
  rw [e, a.hh p o m (ntb n) e]
/-- a new object that never changes -/
theorem Gr.new {M : List Addr} {U0 H0 U H : Hp} {p : Addr} {o : HO} (g : Gr M U0 H0 U H) (n : H p = none) (no : ∀ ps, o ≠ .tbl ps := by intro _ z; cases z) : Gr M U0 H0 (upd U p o) (upd H p o) := by
  have nu : U p = none := g.vh.free n
  have n0 : H0 p = none := by
    cases e : H0 p with
    | none => rfl
    | some x => exact absurd n (g.dom p (by rw [e]; intro z; cases z))
  refine ⟨g.vv.trans (same_new nu), fun a x h => ?_, fun a x m nn h => ?_, fun a h => ?_, fun a h k => ?_, fun P h => tab_mut (g.tb P h) (fun x e => by rw [n] at e; cases e), fun h => nt_upd (g.nt h) no⟩
  · by_cases e : a = p
    · subst e
      rw [upd_same] at h ⊢
      exact h
    · rw [upd_ne e] at h ⊢
      exact g.vh a x h
  · rw [upd_ne (ne_of_none h n0)]
    exact g.hh a x m nn h
  · by_cases e : a = p
    · subst e
      rw [upd_same]
      intro z
      cases z
    · rw [upd_ne e]
      exact g.dom a h
  · have e : a ≠ p := fun z => by
      subst z
      exact k n0
    rw [upd_ne e]
    exact g.fr a h k
/-- a new object that will change -/
theorem Gr.newM {M : List Addr} {U0 H0 U H : Hp} {p : Addr} {o : HO} (g : Gr M U0 H0 U H) (n : H p = none) : Gr M U0 H0 U (upd H p o) := by
  have nu : U p = none := g.vh.free n
  refine ⟨g.vv, same_mut g.vh nu, fun a x m nn h => ?_, fun a h => ?_, g.fr, fun P h => tab_mut (g.tb P h) (fun x e => by rw [n] at e; cases e), g.nt⟩
  · rw [upd_ne (ne_of_none (g.hh a x m nn h) n)]
    exact g.hh a x m nn h
  · by_cases e : a = p
    · subst e
      rw [upd_same]
      intro z
      cases z
    · rw [upd_ne e]
      exact g.dom a h
/-- an object outside of the view changes: one of M, or one that is newer than H0 -/
theorem Gr.mut {M : List Addr} {U0 H0 U H : Hp} {p : Addr} {o : HO} (g : Gr M U0 H0 U H) (nu : U p = none) (n0 : p ∈ M ∨ H0 p = none) (old : Pl H p) : Gr M U0 H0 U (upd H p o) := by
  refine ⟨g.vv, same_mut g.vh nu, fun a x m nn h => ?_, fun a h => ?_, g.fr, fun P h => tab_mut (g.tb P h) (fun x e => by
    obtain ⟨y, e1, e2⟩ := old
    rw [e1] at e
    cases e
    exact e2), g.nt⟩
  · have e : a ≠ p := fun z => by
      subst z
      rcases n0 with n0 | n0
      · exact m n0
      · rw [n0] at h
        cases h
    rw [upd_ne e]
    exact g.hh a x m nn h
  · by_cases e : a = p
    · subst e
      rw [upd_same]
      intro z
      cases z
    · rw [upd_ne e]
      exact g.dom a h
theorem Gr.fresh {M : List Addr} {U0 H0 U H : Hp} {p : Addr} (g : Gr M U0 H0 U H) (n : H p = none) : H0 p = none := by
  cases e : H0 p with
  | none => rfl
  | some x => exact absurd n (g.dom p (by rw [e]; intro z; cases z))
section
variable {X : Cx} {K : PySem.W.Frag}
theorem ix_listK (h : X.K = K) : IxR X (rIxL K) := by subst h; exact ix_list
theorem ix_tupK (h : X.K = K) : IxR X (rIxT K) := by subst h; exact ix_tup
theorem sl_listK (h : X.K = K) : SlR X (rSlL K) := by subst h; exact sl_list
theorem op_inK (h : X.K = K) : OpR X (compareOp .In) (rIn K false) := by subst h; exact op_in_seq
theorem op_notInK (h : X.K = K) : OpR X (compareOp .NotIn) (rIn K true) := by subst h; exact op_notIn_seq
theorem op_eqDK (h : X.K = K) (hu : X.A.units + 64 < cLine) : OpR X (compareOp .Eq) (rEqD K) := by subst h; exact op_eqD hu
theorem op_neDK (h : X.K = K) (hu : X.A.units + 64 < cLine) : OpR X (compareOp .NotEq) (rNeD K) := by subst h; exact op_neD hu
def rLenK (K : PySem.W.Frag) : List V → Hp → VK → Prop := fun xs H Q => ∃ p ys, xs = [.ref p] ∧ (SqL K H p ys ∨ SqT K H p ys) ∧ Q (.int ys.length) H
def rListK (K : PySem.W.Frag) : List V → Hp → VK → Prop := fun xs H Q => ∃ p ys, xs = [.ref p] ∧ (SqL K H p ys ∨ SqT K H p ys) ∧ ∀ l, H l = none → Q (.ref l) (upd H l (.lst ys))
def rTupleK (K : PySem.W.Frag) : List V → Hp → VK → Prop := fun xs H Q => ∃ p ys, xs = [.ref p] ∧ ((SqL K H p ys ∧ ∀ l, H l = none → Q (.ref l) (upd H l (.tup ys))) ∨ (SqT K H p ys ∧ Q (.ref p) H))
theorem call_lenK (h : X.K = K) : CallR X (.builtin "len") (rLenK K) := by subst h; exact call_len_seq
theorem call_listK (h : X.K = K) : CallR X (.type "list") (rListK K) := by subst h; exact call_list_of
theorem call_tupleK (h : X.K = K) : CallR X (.type "tuple") (rTupleK K) := by subst h; exact call_tuple_of
theorem cr_allK (h : X.K = K) (hc : X.calm = true) : CallR X (.builtin "all") (rAll K) := by subst h; exact cr_all hc
theorem cr_anyK (h : X.K = K) (hc : X.calm = true) : CallR X (.builtin "any") (rAny K) := by subst h; exact cr_any hc
theorem call_isiKK (h : X.K = K) : CallR X (.builtin "isinstance") (rIsi K) := by subst h; exact call_isi
theorem pi_listK {tg e : Expr} {te : TE} (h : X.K = K) (he : PE X e te) : PI X tg e (iList K te) := by subst h; exact pi_list he
theorem pi_tupK {tg e : Expr} {te : TE} (h : X.K = K) (he : PE X e te) : PI X tg e (iTup K te) := by subst h; exact pi_tup he
theorem pg_tupK {pos : Pos} {es : List Expr} {k : Nat} {t : TGs} {n : Nat} (h : X.K = K) (hc : X.calm = true) (hh : PGs X es t) (hn : (assignEach es X.env).length = n := by rfl) (hst : (assignEach es X.env).findIdx? (·.1) = none := by rfl) : PG X (.Tuple es k pos) (gTup K n t) := by subst h; exact pg_tup hc hh hn hst
theorem pe_fldK {pos : Pos} {e : Expr} {ta : TE} {f : Str} (h : X.K = K) (he : PE X e ta) (hb : attributeBase e f X.env (eval e X.env) = eval e X.env) : PE X (.Attribute e f pos) (tFld K ta f) := by subst h; exact pe_fld he hb
end
section
variable {σ : L2.St} {H : Hp} {Q : VK} {te ta tb tc : TE} {i : Nat} {v x y : V} {K : PySem.W.Frag} {n bk ct : L2.St → Hp → Prop} {rt : VK} {t u : TS} {g : TG}
theorem i_var (h : σ[i]? = some (some v)) (q : Q v H) : tVar i σ H Q := ⟨v, h, q⟩
theorem i_c (q : Q v H) : tC v σ H Q := q
theorem i_op {r : R2} (q : ta σ H (fun x H1 => tb σ H1 fun y H2 => r x y H2 Q)) : tOp r ta tb σ H Q := q
theorem i_un {r : V → Hp → VK → Prop} (q : ta σ H (fun x H1 => r x H1 Q)) : tUn r ta σ H Q := q
theorem i_rI0 {f : Int → Int → V} {a b : Int} (q : Q (f a b) H) : rI0 f (.int a) (.int b) H Q := ⟨a, b, rfl, rfl, q⟩
theorem i_rI {C : Int → Int → Prop} {f : Int → Int → V} {a b : Int} (c : C a b) (q : Q (f a b) H) : rI C f (.int a) (.int b) H Q := ⟨a, b, rfl, rfl, c, q⟩
theorem i_rU {f : Int → V} {a : Int} (q : Q (f a) H) : rU f (.int a) H Q := ⟨a, rfl, q⟩
theorem i_eqI {a b : Int} (q : Q (.bl (decide (a = b))) H) : rEq (.int a) (.int b) H Q := ⟨rfl, by
  have e : decide (V.int a = V.int b) = decide (a = b) := by
    by_cases h : a = b
    · rw [decide_eq_true h, decide_eq_true (congrArg V.int h)]
    · rw [decide_eq_false h, decide_eq_false (fun z => h (V.int.inj z))]
  show Q (.bl (decide (V.int a = V.int b))) H
  rw [e]
  exact q⟩
theorem i_neI {a b : Int} (q : Q (.bl (!decide (a = b))) H) : rNe (.int a) (.int b) H Q := ⟨rfl, by
  have e : decide (V.int a = V.int b) = decide (a = b) := by
    by_cases h : a = b
    · rw [decide_eq_true h, decide_eq_true (congrArg V.int h)]
    · rw [decide_eq_false h, decide_eq_false (fun z => h (V.int.inj z))]
  show Q (.bl (!decide (V.int a = V.int b))) H
  rw [e]
  exact q⟩
theorem i_eqS {a b : Str} (q : Q (.bl (decide (a = b))) H) : rEq (.str a) (.str b) H Q := ⟨rfl, by
  have e : decide (V.str a = V.str b) = decide (a = b) := by
    by_cases h : a = b
    · rw [decide_eq_true h, decide_eq_true (congrArg V.str h)]
    · rw [decide_eq_false h, decide_eq_false (fun z => h (V.str.inj z))]
  show Q (.bl (decide (V.str a = V.str b))) H
  rw [e]
  exact q⟩
theorem i_neS {a b : Str} (q : Q (.bl (!decide (a = b))) H) : rNe (.str a) (.str b) H Q := ⟨rfl, by
  have e : decide (V.str a = V.str b) = decide (a = b) := by
    by_cases h : a = b
    · rw [decide_eq_true h, decide_eq_true (congrArg V.str h)]
    · rw [decide_eq_false h, decide_eq_false (fun z => h (V.str.inj z))]
  show Q (.bl (!decide (V.str a = V.str b))) H
  rw [e]
  exact q⟩
theorem i_nil {R : List V → Hp → Prop} (q : R [] H) : tNil σ H R := q
theorem i_cons {R : List V → Hp → Prop} {tr : TA} (q : ta σ H (fun x H1 => tr σ H1 fun xs H2 => R (x :: xs) H2)) : tCons ta tr σ H R := q
theorem i_cb {r : List V → Hp → VK → Prop} {tr : TA} (q : tr σ H (fun vs H1 => r vs H1 Q)) : tCB r tr σ H Q := q
theorem i_call {sp : Sp} {dvs : List V} {E : XK} {tr : TA} (q : tr σ H (fun vs H1 => sp (vs ++ dvs) H1 Q E)) : tCall sp dvs E tr σ H Q := q
theorem i_callN {k m : Nat} {sp : Sp} {gV : List V → List V → List V} {E : XK} {tr tk : TA} (q : tr σ H fun vs H1 => tk σ H1 fun zs H2 => vs.length = k ∧ zs.length = m ∧ sp (gV vs zs) H2 Q E) : tCallN k m sp gV E tr tk σ H Q := q
theorem i_seq (q : t ⟨u ⟨n, rt, bk, ct⟩, rt, bk, ct⟩ σ H) : tSeq t u ⟨n, rt, bk, ct⟩ σ H := q
theorem i_next (q : n σ H) : tNext ⟨n, rt, bk, ct⟩ σ H := q
theorem i_brk (q : bk σ H) : tBreak ⟨n, rt, bk, ct⟩ σ H := q
theorem i_cont (q : ct σ H) : tCont ⟨n, rt, bk, ct⟩ σ H := q
theorem i_set (q : te σ H (fun x H1 => n (σ.set i (some x)) H1)) : tAsg te (gName i) ⟨n, rt, bk, ct⟩ σ H := q
theorem i_asg (q : te σ H (fun x H1 => g x σ H1 n)) : tAsg te g ⟨n, rt, bk, ct⟩ σ H := q
theorem i_drop (q : te σ H (fun _ H1 => n σ H1)) : tDrop te ⟨n, rt, bk, ct⟩ σ H := q
theorem i_ret (q : te σ H rt) : tRet te ⟨n, rt, bk, ct⟩ σ H := q
theorem i_retN (q : rt .non H) : tRetN ⟨n, rt, bk, ct⟩ σ H := q
theorem i_if {c : TT} (q : c σ H (fun b H1 => if b = true then t ⟨n, rt, bk, ct⟩ σ H1 else u ⟨n, rt, bk, ct⟩ σ H1)) : tIfS c t u ⟨n, rt, bk, ct⟩ σ H := q
theorem i_test {R : Bool → Hp → Prop} (q : te σ H (fun x H1 => ∃ k, x = .bl k ∧ R k H1)) : tTest te σ H R := q
theorem i_B {R : Bool → Hp → Prop} (q : te σ H (fun x H1 => ∃ k, x = .bl k ∧ R k H1)) : tB te σ H R := q
theorem i_bl {b : Bool} {R : Bool → Hp → Prop} (q : R b H) : ∃ k, V.bl b = .bl k ∧ R k H := ⟨b, rfl, q⟩
theorem i_not {c : TT} {R : Bool → Hp → Prop} (q : c σ H (fun b H1 => R (!b) H1)) : tNot c σ H R := q
theorem i_and {c d : TT} {R : Bool → Hp → Prop} (q : c σ H (fun b H1 => if b = true then d σ H1 R else R false H1)) : tAnd c d σ H R := q
theorem i_or {c d : TT} {R : Bool → Hp → Prop} (q : c σ H (fun b H1 => if b = true then R true H1 else d σ H1 R)) : tOr c d σ H R := q
theorem i_andV (q : ta σ H (fun x H1 => ∃ c, x = .bl c ∧ if c = true then tb σ H1 Q else Q (.bl false) H1)) : tAndV ta tb σ H Q := q
theorem i_orV (q : ta σ H (fun x H1 => ∃ c, x = .bl c ∧ if c = true then Q (.bl true) H1 else tb σ H1 Q)) : tOrV ta tb σ H Q := q
theorem i_notV (q : ta σ H (fun x H1 => ∃ c, x = .bl c ∧ Q (.bl (!c)) H1)) : tNotV ta σ H Q := q
theorem i_blV {b : Bool} {R : Bool → Prop} (q : R b) : ∃ k, V.bl b = .bl k ∧ R k := ⟨b, rfl, q⟩
theorem i_ifE {c : TT} (q : c σ H (fun b H1 => if b = true then ta σ H1 Q else tb σ H1 Q)) : tIf c ta tb σ H Q := q
theorem i_chain {r r' : R2} (q : ta σ H fun x H1 => tb σ H1 fun y H2 => r x y H2 fun z H3 => ∃ k, z = .bl k ∧ (if k = true then tc σ H3 fun w' H4 => r' y w' H4 Q else Q (.bl false) H3)) : tChain r r' ta tb tc σ H Q := q
theorem i_itT {A B : Prop} (q : A) : if true = true then A else B := by rw [if_pos rfl]; exact q
theorem i_itF {A B : Prop} (q : B) : if false = true then A else B := by rw [if_neg Bool.false_ne_true]; exact q
theorem i_ite {p : Prop} [Decidable p] {A B : Prop} (h1 : p → A) (h2 : ¬ p → B) : if decide p = true then A else B := by
  by_cases h : p
  · rw [decide_eq_true h, if_pos rfl]; exact h1 h
  · rw [decide_eq_false h, if_neg Bool.false_ne_true]; exact h2 h
theorem i_iteNT {A B : Prop} (q : B) : if (!true) = true then A else B := i_itF q
theorem i_iteNF {A B : Prop} (q : A) : if (!false) = true then A else B := i_itT q
theorem i_iteNN {b : Bool} {A B : Prop} (q : if b = true then A else B) : if (!!b) = true then A else B := by rw [Bool.not_not]; exact q
theorem i_ixL {p : Addr} {xs : List V} {k : Int} (h : H p = some (.lst xs)) (ha : atI xs k = some v) (q : Q v H) : rIxL K (.ref p) (.int k) H Q := ⟨p, xs, k, v, rfl, rfl, SqL.of h, ha, q⟩
theorem i_ixT {p : Addr} {xs : List V} {k : Int} (h : H p = some (.tup xs)) (ha : atI xs k = some v) (q : Q v H) : rIxT K (.ref p) (.int k) H Q := ⟨p, xs, k, v, rfl, rfl, SqT.of h, ha, q⟩
theorem i_sub {to ti : TE} {s : TSet} {R : L2.St → Hp → Prop} (q : to σ H fun o H1 => ti σ H1 fun j H2 => s o j v H2 fun H3 => R σ H3) : gSub to ti s v σ H R := q
theorem i_setL {p : Addr} {xs : List V} {k : Int} {j : Nat} {R : Hp → Prop} (h : H p = some (.lst xs)) (hk : ixN xs.length k = some j) (q : R (upd H p (.lst (xs.set j v)))) : rSetL (.ref p) (.int k) v H R := ⟨p, xs, k, j, rfl, rfl, h, hk, q⟩
theorem i_lst {tr : TA} (q : tr σ H fun xs H1 => xs.length ≤ sizeLine ∧ ∀ p, H1 p = none → Q (.ref p) (upd H1 p (.lst xs))) : tLst tr σ H Q := q
theorem i_tup {tr : TA} (q : tr σ H fun xs H1 => xs.length ≤ sizeLine ∧ ∀ p, H1 p = none → Q (.ref p) (upd H1 p (.tup xs))) : tTup tr σ H Q := q
theorem i_sl {r : V → Option Int → Option Int → Hp → VK → Prop} {tl th : TO} (q : te σ H fun x H1 => tl σ H1 fun l H2 => th σ H2 fun u H3 => r x l u H3 Q) : tSl r te tl th σ H Q := q
theorem i_nopart {R : Option Int → Hp → Prop} (q : R none H) : tNoPart σ H R := q
theorem i_part {R : Option Int → Hp → Prop} (q : te σ H fun x H1 => ∃ i, x = .int i ∧ R (some i) H1) : tPart te σ H R := q
theorem i_partE {k : Int} {R : Int → Prop} (q : R k) : ∃ i, V.int k = .int i ∧ R i := ⟨k, rfl, q⟩
theorem i_slL {a : Addr} {xs : List V} {lo hi : Option Int} (h : H a = some (.lst xs)) (q : ∀ p, H p = none → Q (.ref p) (upd H p (.lst (cutV xs lo hi)))) : rSlL K (.ref a) lo hi H Q := ⟨a, xs, rfl, SqL.of h, q⟩
theorem i_lenL {p : Addr} {xs : List V} (h : H p = some (.lst xs)) (q : Q (.int xs.length) H) : rLenK K [.ref p] H Q := ⟨p, xs, rfl, .inl (SqL.of h), q⟩
theorem i_lenT {p : Addr} {xs : List V} (h : H p = some (.tup xs)) (q : Q (.int xs.length) H) : rLenK K [.ref p] H Q := ⟨p, xs, rfl, .inr (SqT.of h), q⟩
theorem i_listL {p : Addr} {xs : List V} (h : H p = some (.lst xs)) (q : ∀ l, H l = none → Q (.ref l) (upd H l (.lst xs))) : rListK K [.ref p] H Q := ⟨p, xs, rfl, .inl (SqL.of h), q⟩
theorem i_listT {p : Addr} {xs : List V} (h : H p = some (.tup xs)) (q : ∀ l, H l = none → Q (.ref l) (upd H l (.lst xs))) : rListK K [.ref p] H Q := ⟨p, xs, rfl, .inr (SqT.of h), q⟩
theorem i_tupleL {p : Addr} {xs : List V} (h : H p = some (.lst xs)) (q : ∀ l, H l = none → Q (.ref l) (upd H l (.tup xs))) : rTupleK K [.ref p] H Q := ⟨p, xs, rfl, .inl ⟨SqL.of h, q⟩⟩
theorem i_tupleT {p : Addr} {xs : List V} (h : H p = some (.tup xs)) (q : Q (.ref p) H) : rTupleK K [.ref p] H Q := ⟨p, xs, rfl, .inr ⟨SqT.of h, q⟩⟩
theorem i_bm {Ty : String} {r : V → List V → Hp → VK → Prop} {to : TE} {t : TA} (q : to σ H fun x H1 => tyV K Ty x H1 ∧ t σ H1 fun xs H2 => r x xs H2 Q) : tBM K Ty r to t σ H Q := q
theorem i_bm0 {Ty : String} {r : V → List V → Hp → VK → Prop} {to : TE} (q : to σ H fun x H1 => tyV K Ty x H1 ∧ r x [] H1 Q) : tBM0 K Ty r to σ H Q := q
theorem i_tyL {p : Addr} {xs : List V} {R : Prop} (h : H p = some (.lst xs)) (q : R) : tyV K "list" (.ref p) H ∧ R := ⟨.inl ⟨rfl, _, SqL.of h⟩, q⟩
theorem i_app {p : Addr} {xs : List V} {y : V} (h : H p = some (.lst xs)) (hl : xs.length ≤ 1000) (q : Q .non (upd H p (.lst (xs ++ [y])))) : rAppend (.ref p) [y] H Q := ⟨p, xs, y, rfl, rfl, h, small1000 hl, q⟩
end
def LOOP (J : It) (g : TG) (tb : TS) (D : Ends) (σ : L2.St) (H : Hp) : Prop := ∃ W : Nat → Nat → L2.St → Hp → Prop, (∃ m, W 0 m σ H) ∧ ∀ i m σ H, W i m σ H →
  (J.stop i H ∧ D.nx σ H) ∨ (J.go i H ∧ ∃ N : L2.St → Hp → Prop, (∀ σ' H', N σ' H' → ∃ m', m' < m ∧ W (i + 1) m' σ' H') ∧ ∀ x H', J.yld i H x H' → g x σ H' fun σ2 H2 => tb { D with nx := N, ct := N, bk := D.nx } σ2 H2)
section
variable {σ : L2.St} {H : Hp} {K : PySem.W.Frag} {n bk ct : L2.St → Hp → Prop} {rt : VK} {tb : TS} {g : TG} {te : TE} {ta : TA}
theorem i_for1 (q : ta σ H fun vs H1 => ∃ j : Int, vs = [.int j] ∧ -(2 ^ 62) ≤ j ∧ j < 2 ^ 62 ∧ LOOP (Itr 0 j.toNat) g tb ⟨n, rt, bk, ct⟩ σ H1) : tFor (iRng1 ta) g tb ⟨n, rt, bk, ct⟩ σ H := q
theorem i_for2 (q : ta σ H fun vs H1 => ∃ i j : Int, vs = [.int i, .int j] ∧ (-(2 ^ 62) ≤ i ∧ i < 2 ^ 62 ∧ -(2 ^ 62) ≤ j ∧ j < 2 ^ 62) ∧ LOOP (Itr i (j - i).toNat) g tb ⟨n, rt, bk, ct⟩ σ H1) : tFor (iRng2 ta) g tb ⟨n, rt, bk, ct⟩ σ H := q
theorem i_for3 (q : ta σ H fun vs H1 => ∃ (i j c : Int) (m : Nat), vs = [.int i, .int j, .int c] ∧ RgC i j c m ∧ LOOP (Itc i c m) g tb ⟨n, rt, bk, ct⟩ σ H1) : tFor (iRng3 ta) g tb ⟨n, rt, bk, ct⟩ σ H := q
theorem i_forL (q : te σ H fun x H1 => ∃ a, x = .ref a ∧ (∃ xs, SqL K H1 a xs) ∧ LOOP (Itl K a) g tb ⟨n, rt, bk, ct⟩ σ H1) : tFor (iList K te) g tb ⟨n, rt, bk, ct⟩ σ H := q
theorem i_forT (q : te σ H fun x H1 => ∃ a, x = .ref a ∧ (∃ xs, SqT K H1 a xs) ∧ LOOP (Itt K a) g tb ⟨n, rt, bk, ct⟩ σ H1) : tFor (iTup K te) g tb ⟨n, rt, bk, ct⟩ σ H := q
theorem i_par {i j : Nat} (q : ta σ H fun vs H1 => ∃ v w, vs = [v, w] ∧ n ((σ.set i (some v)).set j (some w)) H1) : tPar i j ta ⟨n, rt, bk, ct⟩ σ H := q
theorem i_parE {x y : V} {R : V → V → Prop} (q : R x y) : ∃ v w, [x, y] = [v, w] ∧ R v w := ⟨x, y, rfl, q⟩
theorem i_aug {i : Nat} {ti : TIp} {x : V} (h : σ[i]? = some (some x)) (q : te σ H fun y H1 => ti x y H1 fun z H2 => n (σ.set i (some z)) H2) : tAug i te ti ⟨n, rt, bk, ct⟩ σ H := ⟨_, h, q⟩
theorem i_ipI {f : Int → Int → Int} {a b : Int} {Q : VK} (q : Q (.int (f a b)) H) : ipI f (.int a) (.int b) H Q := ⟨a, b, rfl, rfl, q⟩
theorem i_asg2 {g1 g2 : TG} (q : te σ H fun x H1 => g1 x σ H1 fun σ1 H2 => g2 x σ1 H2 n) : tAsg2 te g1 g2 ⟨n, rt, bk, ct⟩ σ H := q
theorem i_gtup {a : Addr} {xs : List V} {k : Nat} {tg : TGs} {R : L2.St → Hp → Prop} (h : H a = some (.tup xs)) (hl : xs.length = k) (q : tg xs σ H R) : gTup K k tg (.ref a) σ H R := ⟨a, xs, rfl, SqT.of h, hl, q⟩
theorem i_gcons {v : V} {r : List V} {tg : TGs} {R : L2.St → Hp → Prop} (q : g v σ H fun σ' H' => tg r σ' H' R) : gCons g tg (v :: r) σ H R := ⟨v, r, rfl, q⟩
theorem i_gnil {R : L2.St → Hp → Prop} (q : R σ H) : gNil [] σ H R := ⟨rfl, q⟩
theorem i_gname {i : Nat} {x : V} {R : L2.St → Hp → Prop} (q : R (σ.set i (some x)) H) : gName i x σ H R := q
end
def COMP (J : It) (g : TG) (tt : TT) (te : TE) (vs : List Nat) (σ : L2.St) (H1 : Hp) (D : Addr) (Q : VK) : Prop := ∃ W : Nat → Nat → Hp → Prop, (∃ m, W 0 m (upd H1 D (.lst []))) ∧ ∀ i m H, W i m H →
  (J.stop i H ∧ Q (.ref D) H) ∨ (J.go i H ∧ ∃ Nx : Hp → Prop, (∀ H', Nx H' → ∃ m', m' < m ∧ W (i + 1) m' H') ∧ ∀ x H', J.yld i H x H' → g x (wipe σ vs) H' fun σ2 H2 => wipe σ2 vs = wipe σ vs ∧ tt σ2 H2 fun b H3 =>
    if b = true then te σ2 H3 fun y H4 => ∃ acc, H4 D = some (.lst acc) ∧ acc.length < sizeLine ∧ Nx (upd H4 D (.lst (acc ++ [y]))) else Nx H3)
section
variable {σ : L2.St} {H : Hp} {K : PySem.W.Frag} {Q : VK} {g : TG} {tt : TT} {te tl : TE} {ta : TA} {vs : List Nat}
theorem i_lc1 (q : ta σ H fun us H1 => ∃ j : Int, us = [.int j] ∧ -(2 ^ 62) ≤ j ∧ j < 2 ^ 62 ∧ ∀ D, H1 D = none → COMP (Itr 0 j.toNat) g tt te vs σ H1 D Q) : tLc (iRng1 ta) g tt te vs σ H Q := q
theorem i_lc2 (q : ta σ H fun us H1 => ∃ i j : Int, us = [.int i, .int j] ∧ (-(2 ^ 62) ≤ i ∧ i < 2 ^ 62 ∧ -(2 ^ 62) ≤ j ∧ j < 2 ^ 62) ∧ ∀ D, H1 D = none → COMP (Itr i (j - i).toNat) g tt te vs σ H1 D Q) : tLc (iRng2 ta) g tt te vs σ H Q := q
theorem i_lcL (q : tl σ H fun x H1 => ∃ a, x = .ref a ∧ (∃ xs, SqL K H1 a xs) ∧ ∀ D, H1 D = none → COMP (Itl K a) g tt te vs σ H1 D Q) : tLc (iList K tl) g tt te vs σ H Q := q
theorem i_lcT (q : tl σ H fun x H1 => ∃ a, x = .ref a ∧ (∃ xs, SqT K H1 a xs) ∧ ∀ D, H1 D = none → COMP (Itt K a) g tt te vs σ H1 D Q) : tLc (iTup K tl) g tt te vs σ H Q := q
theorem i_yes {R : Bool → Hp → Prop} (q : R true H) : tYes σ H R := q
end
def LT (U : Hp) (p : Addr) (rows : List (List V)) : Prop := ∃ as : List Addr, U p = some (.lst (as.map V.ref)) ∧ Paired (fun a r => U a = some (.tup r)) as rows
theorem Paired.imp {α β : Type} {F G : α → β → Prop} (h : ∀ a b, F a b → G a b) : ∀ {xs : List α} {ys : List β}, Paired F xs ys → Paired G xs ys
  | _, _, .nil => .nil
  | _, _, .cons a t => .cons (h _ _ a) (Paired.imp h t)
theorem Paired.at {α β : Type} {F : α → β → Prop} : ∀ {xs : List α} {ys : List β}, Paired F xs ys → ∀ (i : Nat) (y : β), ys[i]? = some y → ∃ x, xs[i]? = some x ∧ F x y
  | _, _, .nil, i, y, e => by simp at e
  | _, _, .cons a t, 0, y, e => by
    have e' := Option.some.inj e
    subst e'
    exact ⟨_, rfl, a⟩
  | _, _, .cons a t, i + 1, y, e => Paired.at t i y e
theorem Paired.at' {α β : Type} {F : α → β → Prop} : ∀ {xs : List α} {ys : List β}, Paired F xs ys → ∀ (i : Nat) (x : α), xs[i]? = some x → ∃ y, ys[i]? = some y ∧ F x y
  | _, _, .nil, i, y, e => by simp at e
  | _, _, .cons a t, 0, y, e => by
    have e' := Option.some.inj e
    subst e'
    exact ⟨_, rfl, a⟩
  | _, _, .cons a t, i + 1, y, e => Paired.at' t i y e
theorem Paired.len {α β : Type} {F : α → β → Prop} : ∀ {xs : List α} {ys : List β}, Paired F xs ys → xs.length = ys.length
  | _, _, .nil => rfl
  | _, _, .cons _ t => congrArg (· + 1) (Paired.len t)
theorem Paired.mp {α β γ : Type} {F : α → γ → Prop} {f : β → γ} : ∀ {xs : List α} {ys : List β}, Paired (fun a b => F a (f b)) xs ys → Paired F xs (ys.map f)
  | _, _, .nil => .nil
  | _, _, .cons a t => .cons a (Paired.mp t)
theorem LT.mono {U U' : Hp} {p : Addr} {rows : List (List V)} (e : Same U U') (h : LT U p rows) : LT U' p rows := by
  obtain ⟨as, h1, h2⟩ := h
  exact ⟨as, e _ _ h1, Paired.imp (fun a r x => e _ _ x) h2⟩
section
variable {σ : L2.St} {H U : Hp} {K : PySem.W.Frag} {n bk ct : L2.St → Hp → Prop} {rt : VK} {tb : TS} {g : TG} {te : TE} {ta : TA} {p : Addr} {rows : List (List V)}
theorem LT.len (h : LT U p rows) : ∃ xs : List V, U p = some (.lst xs) ∧ xs.length = rows.length := by
  obtain ⟨as, h1, h2⟩ := h
  exact ⟨_, h1, by rw [List.length_map, Paired.len h2]⟩
theorem LT.get (h : LT U p rows) : ∃ xs : List V, U p = some (.lst xs) ∧ xs.length = rows.length ∧ ∀ (i : Nat) (r : List V), rows[i]? = some r → ∃ a : Addr, xs[i]? = some (V.ref a) ∧ U a = some (.tup r) := by
  obtain ⟨as, h1, h2⟩ := h
  refine ⟨_, h1, by rw [List.length_map, Paired.len h2], fun i r e => ?_⟩
  obtain ⟨a, e1, e2⟩ := Paired.at h2 i r e
  exact ⟨a, by rw [List.getElem?_map, e1]; rfl, e2⟩
end
def Lay (n : Nat) (d : PyData) : Prop := d.canLay0 = true ∧ d.depth ≤ n
theorem lay_int {n : Nat} {i : Int} : Lay n (.int i) := ⟨rfl, Nat.zero_le _⟩
theorem lay_none {n : Nat} : Lay n .none := ⟨rfl, Nat.zero_le _⟩
theorem lay_bool {n : Nat} {b : Bool} : Lay n (.bool b) := ⟨rfl, Nat.zero_le _⟩
theorem Lay.shaped {n : Nat} {d : PyData} (h : Lay n d) (hn : n ≤ 64) : SeqAt.shaped d = true := by
  unfold SeqAt.shaped
  rw [h.1, decide_eq_true (Nat.le_trans h.2 hn)]
  rfl
theorem bt_len : bootBuiltins "len" = some (.builtin "len") := by decide +kernel
theorem bt_abs : bootBuiltins "abs" = some (.builtin "abs") := by decide +kernel
theorem bt_max : bootBuiltins "max" = some (.builtin "max") := by decide +kernel
theorem bt_min : bootBuiltins "min" = some (.builtin "min") := by decide +kernel
theorem bt_all : bootBuiltins "all" = some (.builtin "all") := by decide +kernel
theorem bt_any : bootBuiltins "any" = some (.builtin "any") := by decide +kernel
theorem bt_isinstance : bootBuiltins "isinstance" = some (.builtin "isinstance") := by decide +kernel
theorem bt_list : bootBuiltins "list" = some (.type "list") := by decide +kernel
theorem bt_tuple : bootBuiltins "tuple" = some (.type "tuple") := by decide +kernel
theorem bt_str : bootBuiltins "str" = some (.type "str") := by decide +kernel
theorem bt_int : bootBuiltins "int" = some (.type "int") := by decide +kernel
theorem bt_bool : bootBuiltins "bool" = some (.type "bool") := by decide +kernel
section
variable {K : PySem.W.Frag} {H : Hp} {Q : VK}
theorem i_isI {i : Int} (q : Q (.bl true) H) : rIsi K [.int i, .ty "int"] H Q := ⟨.int i, .ty "int", .type "int", .type "int", true, rfl, .ty _, .base (.int _), kit_ty (by decide +kernel), q⟩
theorem i_isB {i : Int} (q : Q (.bl false) H) : rIsi K [.int i, .ty "bool"] H Q := ⟨.int i, .ty "bool", .type "int", .type "bool", false, rfl, .ty _, .base (.int _), kit_ty (by decide +kernel), q⟩
theorem i_isBB {b : Bool} (q : Q (.bl true) H) : rIsi K [.bl b, .ty "bool"] H Q := ⟨.bl b, .ty "bool", .type "bool", .type "bool", true, rfl, .ty _, .base (.bl _), kit_ty (by decide +kernel), q⟩
theorem i_isL {p : Addr} {xs : List V} (h : H p = some (.lst xs)) (q : Q (.bl true) H) : rIsi K [.ref p, .ty "list"] H Q := ⟨.ref p, .ty "list", .type "list", .type "list", true, rfl, .ty _, .base (.lst h), kit_ty (by decide +kernel), q⟩
theorem i_isT {p : Addr} {xs : List V} (h : H p = some (.tup xs)) (q : Q (.bl true) H) : rIsi K [.ref p, .ty "tuple"] H Q := ⟨.ref p, .ty "tuple", .type "tuple", .type "tuple", true, rfl, .ty _, .base (.tup h), kit_ty (by decide +kernel), q⟩
end
structure Dr (U H : Hp) (s : Addr) : Prop where
  ex : ∃ (l : Addr) (ns : List Int) (i b e : Int), H s = some (.lst [.ref l, .int i, .int b, .int e]) ∧ U l = some (.lst (ns.map V.int)) ∧ 0 ≤ i ∧ i ≤ ns.length ∧ 0 ≤ b
  out : U s = none
def spStart (K : PySem.W.Frag) : Sp := fun vs H Q _ => ∃ (a : Addr) (ns : List Int) (U : Hp), vs = [.ref a] ∧ SqL K H a (ns.map V.int) ∧ Same U H ∧
  ∀ s U' H', Gr [] U H U' H' → Dr U' H' s → H s = none → Q (.ref s) H'
def spDraw : Sp := fun vs H Q _ => ∃ (s : Addr) (many : Int) (U : Hp), vs = [.ref s, .int many] ∧ 0 < many ∧ many < 2 ^ 200 ∧ Same U H ∧ Dr U H s ∧
  ∀ r H', 0 ≤ r → r < many → Same U H' → Dr U H' s → (∀ a, a ≠ s → H' a = H a) → Q (.int r) H'
theorem cut63 (ns : List Int) : ∃ ms : List Int, cutV (ns.map V.int) none (some 63) = ms.map V.int := by
  unfold cutV
  exact ⟨(ns.drop _).take _, by rw [List.map_take, List.map_drop]⟩
theorem Dr.mono {U U' H H' : Hp} {s : Addr} (d : Dr U H s) (e : Same U U') (h : H' s = H s) (n : U' s = none) : Dr U' H' s := by
  obtain ⟨⟨l, ns, i, b, e', h1, h2, h3⟩, _⟩ := d
  exact ⟨⟨l, ns, i, b, e', by rw [h]; exact h1, e _ _ h2, h3⟩, n⟩
theorem Dr.pl {U H : Hp} {s : Addr} (d : Dr U H s) : Pl H s := by
  obtain ⟨⟨l, ns, i, b, e', h1, _⟩, _⟩ := d
  exact .of h1 rfl
theorem Dr.some {U H : Hp} {s : Addr} (d : Dr U H s) : H s ≠ none := by
  obtain ⟨⟨l, ns, i, b, e', h1, _⟩, _⟩ := d
  rw [h1]
  intro z
  cases z
/-- a new thing that never changes; a new one that will -/
theorem Dr.new {U H : Hp} {s p : Addr} {o : HO} (d : Dr U H s) (n : H p = none) (e : Same U H) : Dr (upd U p o) (upd H p o) s := by
  have ne : s ≠ p := fun z => by
    subst z
    exact d.some n
  exact d.mono (same_new (e.free n)) (upd_ne ne) (by rw [upd_ne ne]; exact d.out)
theorem Dr.newM {U H : Hp} {s p : Addr} {o : HO} (d : Dr U H s) (n : H p = none) : Dr U (upd H p o) s := by
  have ne : s ≠ p := fun z => by
    subst z
    exact d.some n
  exact d.mono (Same.refl _) (upd_ne ne) d.out
theorem Dr.mut {U H : Hp} {s p : Addr} {o : HO} (d : Dr U H s) (ne : s ≠ p) : Dr U (upd H p o) s := d.mono (Same.refl _) (upd_ne ne) d.out
/-- behind a call that leaves all as it was -/
theorem Dr.gr {M : List Addr} {U U' H H' : Hp} {s : Addr} (d : Dr U H s) (g : Gr M U H U' H') (m : s ∉ M) : Dr U' H' s := by
  obtain ⟨⟨l, ns, i, b, e', h1, h2, h3⟩, n⟩ := d
  exact ⟨⟨l, ns, i, b, e', g.hh _ _ m (ntb rfl) h1, g.vv _ _ h2, h3⟩, g.fr s n (by rw [h1]; intro z; cases z)⟩
abbrev Tups (U : Hp) (as : List Addr) (rows : List (List V)) : Prop := Paired (fun a r => U a = some (.tup r)) as rows
theorem Tups.mono {U U' : Hp} {as : List Addr} {rows : List (List V)} (e : Same U U') (h : Tups U as rows) : Tups U' as rows := Paired.imp (fun _ _ x => e _ _ x) h
theorem Paired.setAt {α β : Type} {F : α → β → Prop} {a : α} {b : β} (h : F a b) : ∀ {xs : List α} {ys : List β} (i : Nat), Paired F xs ys → Paired F (xs.set i a) (ys.set i b)
  | _, _, _, .nil => .nil
  | _, _, 0, .cons _ t => .cons h t
  | _, _, i + 1, .cons x t => .cons x (Paired.setAt h i t)
theorem Paired.erase {α β : Type} {F : α → β → Prop} : ∀ {xs : List α} {ys : List β} (i : Nat), Paired F xs ys → Paired F (xs.eraseIdx i) (ys.eraseIdx i)
  | _, _, _, .nil => .nil
  | _, _, 0, .cons _ t => t
  | _, _, i + 1, .cons x t => .cons x (Paired.erase i t)
theorem Tups.erase {U : Hp} {as : List Addr} {rows : List (List V)} (i : Nat) (hT : Tups U as rows) : Tups U (as.eraseIdx i) (rows.eraseIdx i) := Paired.erase i hT
theorem Tups.snoc {U : Hp} {as : List Addr} {rows : List (List V)} {a : Addr} {r : List V} (h : U a = some (.tup r)) (hT : Tups U as rows) : Tups U (as ++ [a]) (rows ++ [r]) := Paired.snoc hT h
theorem ixN_of {n j : Nat} {k : Int} (e : k = (j : Int)) (h : j < n) : ixN n k = some j := by
  unfold ixN
  rw [e, if_pos (by omega), if_pos (by omega), Int.toNat_natCast]
theorem Tups.get {U : Hp} {as : List Addr} {rows : List (List V)} (h : Tups U as rows) {i : Nat} {r : List V} (e : rows[i]? = some r) : ∃ a, as[i]? = some a ∧ (as.map V.ref)[i]? = some (.ref a) ∧ U a = some (.tup r) := by
  obtain ⟨a, e1, e2⟩ := Paired.at h i r e
  exact ⟨a, e1, by rw [List.getElem?_map, e1]; rfl, e2⟩
end SW
namespace SWS
open PySem PySem.Spec PyProof.Rows SS
/-- how many unlike ones -/
inductive DCnt : List Str → Nat → Prop
  | nil : DCnt [] 0
  | old {xs : List Str} {c : Nat} {x : Str} : DCnt xs c → x ∈ xs → DCnt (xs ++ [x]) c
  | new {xs : List Str} {c : Nat} {x : Str} : DCnt xs c → x ∉ xs → DCnt (xs ++ [x]) (c + 1)
theorem DCnt.le {xs : List Str} {c : Nat} (h : DCnt xs c) : c ≤ xs.length ∧ (c = xs.length ↔ xs.Nodup) := by
  induction h with
  | nil => exact ⟨Nat.le_refl _, by simp⟩
  | @old xs c x h hx ih =>
    obtain ⟨i1, i2⟩ := ih
    rw [List.length_append, List.length_singleton]
    refine ⟨by omega, ⟨fun e => by omega, fun n => ?_⟩⟩
    exact absurd rfl ((List.nodup_append.mp n).2.2 x hx x (List.mem_singleton.mpr rfl))
  | @new xs c x h hx ih =>
    obtain ⟨i1, i2⟩ := ih
    rw [List.length_append, List.length_singleton]
    refine ⟨by omega, ⟨fun e => ?_, fun n => ?_⟩⟩
    · refine List.nodup_append.mpr ⟨i2.mp (by omega), by simp, fun a ha b hb z => ?_⟩
      rw [List.mem_singleton.mp hb] at z
      exact hx (z ▸ ha)
    · have := i2.mpr (List.nodup_append.mp n).1
      omega
section
variable {prog : Program} {w : World} {A : Around} {R : Result → Shared → Prop} {I : Addr} {fp wr : List Addr} {G : Array GenState → Array GenState → Prop} {n : Nat} {P : Nat → Value → Prop} {St : Nat → Shared → Prop}
theorem loopS (W : WalksS prog w A.in1 I fp wr G n P St) (S : Addr) (hSf : S ∉ fp) (xs : List Str) (hsz : xs.length = n) (hb : n + 1 < scanBound)
    (hval : ∀ i v, P i v → ∃ t, v = .str (xs.getD i Str.empty) t) :
    ∀ (k i : Nat) (s : Shared), n - i = k → i ≤ n → St i s →
      (∃ c, DCnt (xs.take i) c ∧ s.heap.SetOf (PySem.strKind prog w) S (fun k' => (xs.take i).any (· == k')) c) →
      (∀ s' c, Moved (S :: wr) G s s' → DCnt xs c → s'.heap.SetOf (PySem.strKind prog w) S (fun k' => xs.any (· == k')) c → R (.ok (.ret .none)) s') →
      codeAny (model prog w) A (.builtin "set.update.loop" ⟨[.ref S, .ref I], []⟩) R s := by
  have hSw : S ∉ wr := fun h => hSf (W.sub _ h)
  have hsub : ∀ b ∈ wr, b ∈ S :: wr := fun b hb => List.mem_cons_of_mem _ hb
  intro k
  induction k with
  | zero =>
    intro i s hk hi hst ⟨c, hc, hS⟩ hR
    have hin : i = n := by omega
    subst hin
    refine codeAny_builtin PyProof.Rows.F.entry_set_update_loop ?_
    rw [Around.under_plainId PyProof.Rows.F.plain_set_update_loop _]
    show wpAny _ A.in1 (pyNext (.ref I) >>= _) _ _ s
    refine wpAny_bind (W.done s _ _ hst fun s' hm => ?_)
    show wpAny _ A.in1 (ret Value.none) _ _ s'
    have e : xs.take i = xs := List.take_of_length_le (by omega)
    rw [e] at hc hS
    exact wpAny_pure (hR s' c (hm.mono hsub) hc (by
      obtain ⟨o, es, ep, t, ho, rest⟩ := hS
      exact ⟨o, es, ep, t, hm.heap S _ hSw ho, rest⟩))
  | succ k ih =>
    intro i s hk hi hst ⟨c, hc, hS⟩ hR
    have hlt : i < n := by omega
    have hcn : c ≤ i := by
      have := hc.le.1
      rw [List.length_take] at this
      omega
    refine codeAny_builtin PyProof.Rows.F.entry_set_update_loop ?_
    rw [Around.under_plainId PyProof.Rows.F.plain_set_update_loop _]
    show wpAny _ A.in1 (pyNext (.ref I) >>= _) _ _ s
    refine wpAny_bind (W.item i s _ _ hlt hst fun v s' hP hst' hm => ?_)
    obtain ⟨t, rfl⟩ := hval i v hP
    have hS' : s'.heap.SetOf (PySem.strKind prog w) S (fun k' => (xs.take i).any (· == k')) c := by
      obtain ⟨o, es, ep, tb, ho, rest⟩ := hS
      exact ⟨o, es, ep, tb, hm.heap S _ hSw ho, rest⟩
    show wpAny _ A.in1 (holding [Value.str (xs.getD i Str.empty) t] (setAdd S (.str (xs.getD i Str.empty) t)) >>= _) _ _ s'
    refine wpAny_bind (wpAny_holding ?_)
    unfold setAdd
    refine wpAny_holding ?_
    refine wpAny_bind ((PySem.strKind prog w).pyHash (k := xs.getD i Str.empty) (strKind_is _ _ _ _) ?_)
    refine wpAny_setAddHashed_of (knd := PySem.strKind prog w) (s := { s' with toks := s'.toks + 1 }) (strKind_is _ _ _ _) rfl hS' (by omega) fun h' hsb hS2 => ?_
    have hi' : i < xs.length := by omega
    have ex : xs.getD i Str.empty = xs[i] := by rw [List.getD_eq_getElem?_getD, List.getElem?_eq_getElem hi']; rfl
    have et : xs.take (i + 1) = xs.take i ++ [xs[i]] := by rw [List.take_add_one, List.getElem?_eq_getElem hi']; rfl
    rw [ex] at hS2
    have hSi : ∃ c', DCnt (xs.take (i + 1)) c' ∧ h'.SetOf (PySem.strKind prog w) S (fun k' => (xs.take (i + 1)).any (· == k')) c' := by
      have hcg : ∀ k' : Str, ((xs.take i).any (· == k') || decide (k' = xs[i])) = (xs.take (i + 1)).any (· == k') := fun k' => by
        rw [et, List.any_append]
        congr 1
        by_cases e : k' = xs[i]
        · subst e; simp
        · have hb : (xs[i] == k') = false := by simpa [beq_iff_eq] using (fun h' : xs[i] = k' => e h'.symm)
          simp [hb, e]
      have hm : (xs.take i).any (· == xs[i]) = true ↔ xs[i] ∈ xs.take i := by
        rw [List.any_eq_true]
        exact ⟨fun ⟨y, h1, h2⟩ => (eq_of_beq h2) ▸ h1, fun h => ⟨_, h, beq_self_eq_true _⟩⟩
      rw [et]
      by_cases hz : xs[i] ∈ xs.take i
      · rw [if_pos (hm.mpr hz)] at hS2
        exact ⟨c, .old hc hz, SetOf_congr hS2 (by rw [← et]; exact hcg) rfl⟩
      · rw [if_neg fun z => hz (hm.mp z)] at hS2
        exact ⟨c + 1, .new hc hz, SetOf_congr hS2 (by rw [← et]; exact hcg) rfl⟩
    refine wpAny_pure ⟨plainId_quiet PyProof.Rows.F.plain_set_update_loop _, ih (i + 1) _ (by omega) hlt (W.frame _ s' _ _ hst' (Nat.le_succ _) fun b hb o e => ?_) hSi fun s'' c'' hm'' hc'' hS'' => ?_⟩
    · rw [hsb.2 b (fun h : b = S => hSf (by rw [← h]; exact hb))]; exact e
    · refine hR s'' c'' (Moved.trans W.gtrans ((hm.mono hsub).then_heap (Nat.le_succ _) fun b o hb e => ?_) hm'') hc'' hS''
      rw [hsb.2 b (fun h : b = S => hb (by rw [h]; exact List.mem_cons_self))]; exact e
end
section
variable {prog : Program} {w : World} {A : Around} {E : Value → Shared → Prop} {s : Shared}
abbrev setO (led : Bool) : Obj := { cls := .type "set", dict := none, data := .set #[] 0 (.fresh 0 0 led) }
theorem set_list {l : Addr} {items : Array Value} {xs : List Str} {Q : Value → Shared → Prop}
    (hh : A.handled = none) (hl : s.heap.IsList l items) (hi : PyProof.Rows.StrsAre items.toList xs) (hb : xs.length + 1 < scanBound)
    (h : ∀ (h' : Heap) (tk c : Nat), DCnt xs c → h'.SetOf (PySem.strKind prog w) s.heap.objs.size (fun k' => xs.any (· == k')) c →
      (∀ b o, b < s.heap.objs.size → s.heap.get? b = some o → h'.get? b = some o) → Q (.ref s.heap.objs.size) { s with heap := h', toks := tk }) :
    wpAny (model prog w) A (call (.type "set") [.ref l]) Q E s := by
  obtain ⟨c, tl, hmro⟩ := PySem.F.called_set.mro
  have hmade := PySem.F.called_set.made
  have hsub := PySem.F.called_set.sub
  refine wpAny_call (codeAny_of_tree ?_)
  show wpAny _ _ (callAny (.type "set") _) _ _ _
  refine wpAny_pure ⟨Code.quiet_builtin _ (by decide +kernel), codeAny_builtin PySem.F.entry_type_call ?_⟩
  rw [Around.under_plain (weight_type_call_type "set" [.ref l] []) rfl]
  have h1 := PySem.F.called_set.notType
  have h2 := PySem.F.called_set.canCreate
  have hct := PySem.F.typeCall_set_1 (.ref l)
  repeat (any_goals (first | assumption | wp_step))

  refine codeAny_mono (code_set_new_1 (.ref l) (E := E) (Q₁ := fun obj s₁ => ∃ led : Bool, obj = .ref s.heap.objs.size ∧ s₁ = { s with heap := s.heap.push (setO led) }) fun led => ⟨led, rfl, rfl⟩) fun r s₁ hr => ?_
  cases r with
  | error e => exact hr
  | ok fl =>
    cases fl with
    | ret obj =>
      obtain ⟨led, rfl, rfl⟩ := hr
      have hS : (s.heap.push (setO led)).get? s.heap.objs.size = some (setO led) := Heap.get?_push_size _ rfl
      have hT : Shared.TypeIs { s with heap := s.heap.push (setO led) } (.ref s.heap.objs.size) "set" := ⟨_, hS, rfl⟩
      have hli := PySem.F.called_set.init.lookup
      have hbi := PySem.F.called_set.init.bind (.ref s.heap.objs.size)
      repeat (any_goals (first | assumption | wp_step))

      refine codeAny_mono (codeAny_call_builtin (R := wants (fun r s₂ => r = .none ∧ ∃ h' tk c, s₂ = { s with heap := h', toks := tk } ∧ DCnt xs c ∧
          h'.SetOf (PySem.strKind prog w) s.heap.objs.size (fun k' => xs.any (· == k')) c ∧
          (∀ b o, b < s.heap.objs.size → s.heap.get? b = some o → h'.get? b = some o)) E) PySem.F.called_set.init.plain PySem.F.entry_set_init (check_set_init_1 hT ?_)) fun r₂ s₂ hr₂ => ?_
      · obtain ⟨ol, hol, hcl, nl, hdl⟩ := hl
        obtain ⟨ocls, odict, odata, oslots⟩ := ol
        simp only at hcl hdl
        subst hcl; subst hdl
        have hol' : (s.heap.push (setO led)).get? l = some { cls := .type "list", dict := odict, data := .seq items nl, slots := oslots } := Heap.get?_push_of_some _ hol
        have hsls := PySem.F.sub_list_set
        have hslf := PySem.F.sub_list_frozenset
        have hne : (Value.type "list" == Value.type "dict") = false := by decide
        have hl1 : (s.heap.push (setO led)).IsList l items := ⟨_, hol', rfl, nl, rfl⟩
        unfold Builtin.«set.__init__» noKeywords Builtin.Frozenset.updateFrom
        generalize hPI : pyIter = PI
        with_reducible refine wpAny_bind ?_
        ((with_reducible apply wpAny_ite_true); focus (rfl))
        with_reducible refine wpAny_pure ?_
        wp_delta
        with_reducible refine wpAny_bind ?_
        wp_delta
        with_reducible refine wpAny_bind ?_
        wp_delta
        with_reducible refine wpAny_bind ?_
        with_reducible refine wpAny_typeOf (by assumption) ?_
        ((with_reducible apply wpAny_ite_false); focus (rfl))
        with_reducible refine wpAny_pure ?_
        wp_delta
        wp_delta
        with_reducible refine wpAny_pure ?_
        with_reducible refine wpAny_bind ?_
        wp_delta
        ((with_reducible apply wpAny_ite_false); focus (rfl))
        ((with_reducible apply wpAny_ite_false); focus (rfl))
        ((with_reducible apply wpAny_ite_false); focus (rfl))
        with_reducible refine wpAny_pure ?_
        with_reducible refine wpAny_bind ?_
        wp_delta
        with_reducible refine wpAny_pure ?_
        with_reducible refine wpAny_bind ?_
        wp_delta
        with_reducible refine wpAny_bind ?_
        wp_delta
        with_reducible refine wpAny_bind ?_
        ((with_reducible apply wpAny_load'); focus (heap_get))
        ((with_reducible apply wpAny_ite_false); focus (rfl))
        with_reducible refine wpAny_pure ?_
        with_reducible refine wpAny_pure ?_
        ((with_reducible apply wpAny_ite_false); focus (rfl))
        wp_delta
        with_reducible refine wpAny_bind ?_
        with_reducible refine wpAny_bind ?_
        wp_delta
        wp_delta
        with_reducible refine wpAny_bind ?_
        wp_delta
        with_reducible refine wpAny_bind ?_
        wp_delta
        with_reducible refine wpAny_bind ?_
        ((with_reducible apply wpAny_loadPart'); focus (heap_get))
        with_reducible refine wpAny_pure ?_
        with_reducible refine wpAny_of_eq (by assumption) ?_
        wp_delta
        wp_delta
        with_reducible refine wpAny_bind ?_
        wp_delta
        with_reducible refine wpAny_bind ?_
        ((with_reducible apply wpAny_loadPart'); focus (heap_get))
        with_reducible refine wpAny_pure ?_
        with_reducible refine wpAny_of_eq (by assumption) ?_
        ((with_reducible apply wpAny_ite_false); focus (rfl))
        with_reducible refine wpAny_bind ?_
        wp_delta
        with_reducible refine wpAny_bind ?_
        ((with_reducible apply wpAny_loadPart'); focus (heap_get))
        with_reducible refine wpAny_pure ?_
        ((with_reducible apply wpAny_ite_false); focus (rfl))
        with_reducible refine wpAny_bind ?_
        subst hPI

        refine wpAny_pyIter_list hl1 ?_
        refine wpAny_bind (wpAny_runValue ?_)
        have hlS : l < s.heap.objs.size := Heap.lt_size hol
        have hh3 : A.in1.in1.in1.handled = none := by simp [hh]
        have hneI : l ≠ (s.heap.push (setO led)).objs.size := by
          rw [Heap.size_push]; exact Nat.ne_of_lt (Nat.lt_succ_of_lt hlS)
        have hSf : s.heap.objs.size ∉ [(s.heap.push (setO led)).objs.size, l] := by
          rw [Heap.size_push]; simp only [List.mem_cons, List.mem_singleton, List.not_mem_nil, or_false, not_or]
          exact ⟨Nat.ne_of_lt (Nat.lt_succ_self _), Nat.ne_of_gt hlS⟩
        have hsz : xs.length = items.size := by rw [← StrsAre.len_eq hi, Array.length_toList]
        have hval : ∀ (i : Nat) (v : Value), items[i]? = some v → ∃ t, v = .str (xs.getD i Str.empty) t := fun i v hv => strs_at hi i v (by rw [Array.getElem?_toList]; exact hv)
        refine loopS ((Walks.list hh3 _ l hneI items).toS) s.heap.objs.size
          hSf xs hsz (by rw [← hsz]; exact hb) hval (items.size - 0) 0 _ (by omega) (Nat.zero_le _)
          ⟨⟨_, Heap.get?_push_size _ rfl, rfl, rfl⟩, (hl1.push _)⟩ ?hS0 ?hR
        case hS0 =>
          have hget : ((s.heap.push (setO led)).push { cls := .type "list_iterator", data := .fields #[.ref l, .int 0 0] }).get? s.heap.objs.size
              = some (setO led) := Heap.get?_push_of_some _ hS
          exact ⟨0, .nil, PyProof.Rows.SetOf_congr ((PyProof.Rows.setObjOf_fresh (knd := PySem.strKind prog w) led).setOf hget (by unfold scanBound; omega)) (fun _ => rfl) rfl⟩
        case hR =>
          intro s' c' hm hc' hS'
          obtain ⟨h', g', d', tk', os'⟩ := s'
          have eg : g' = s.gens := hm.gens
          have ed : d' = s.drawn := hm.drawn
          have eo : os' = s.os := hm.os
          subst eg; subst ed; subst eo
          show wpAny _ _ _ _ _ _
          refine wpAny_pure ?_
          show wpAny _ _ (ret Value.none) _ _ _
          refine wpAny_pure ⟨rfl, h', tk', c', rfl, hc', hS', fun b o hb e => ?_⟩
          have hb1 : b ≠ s.heap.objs.size := Nat.ne_of_lt hb
          have hb2 : b ≠ (s.heap.push (setO led)).objs.size := by
            rw [Heap.size_push]; exact Nat.ne_of_lt (Nat.lt_succ_of_lt hb)
          exact hm.heap b o (by simp only [List.mem_cons, List.mem_singleton, List.not_mem_nil, or_false, not_or]; exact ⟨hb1, hb2⟩) (Heap.get?_push_of_some _ (Heap.get?_push_of_some _ e))

      · cases r₂ with
        | error e => exact hr₂
        | ok fl₂ =>
          cases fl₂ with
          | ret r =>
            obtain ⟨rfl, h', tk, c', rfl, hc', hS', hk'⟩ := hr₂
            repeat (any_goals (first | assumption | wp_step))
            exact h _ _ _ hc' hS' hk'
          | _ => exact hr₂.elim
    | _ => exact hr.elim
theorem set_tuple {l : Addr} {items : Array Value} {xs : List Str} {Q : Value → Shared → Prop}
    (hh : A.handled = none) (hl : s.heap.IsTuple l items) (hi : PyProof.Rows.StrsAre items.toList xs) (hb : xs.length + 1 < scanBound)
    (h : ∀ (h' : Heap) (tk c : Nat), DCnt xs c → h'.SetOf (PySem.strKind prog w) s.heap.objs.size (fun k' => xs.any (· == k')) c →
      (∀ b o, b < s.heap.objs.size → s.heap.get? b = some o → h'.get? b = some o) → Q (.ref s.heap.objs.size) { s with heap := h', toks := tk }) :
    wpAny (model prog w) A (call (.type "set") [.ref l]) Q E s := by
  obtain ⟨c, tl, hmro⟩ := PySem.F.called_set.mro
  have hmade := PySem.F.called_set.made
  have hsub := PySem.F.called_set.sub
  refine wpAny_call (codeAny_of_tree ?_)
  show wpAny _ _ (callAny (.type "set") _) _ _ _
  refine wpAny_pure ⟨Code.quiet_builtin _ (by decide +kernel), codeAny_builtin PySem.F.entry_type_call ?_⟩
  rw [Around.under_plain (weight_type_call_type "set" [.ref l] []) rfl]
  have h1 := PySem.F.called_set.notType
  have h2 := PySem.F.called_set.canCreate
  have hct := PySem.F.typeCall_set_1 (.ref l)
  repeat (any_goals (first | assumption | wp_step))

  refine codeAny_mono (code_set_new_1 (.ref l) (E := E) (Q₁ := fun obj s₁ => ∃ led : Bool, obj = .ref s.heap.objs.size ∧ s₁ = { s with heap := s.heap.push (setO led) }) fun led => ⟨led, rfl, rfl⟩) fun r s₁ hr => ?_
  cases r with
  | error e => exact hr
  | ok fl =>
    cases fl with
    | ret obj =>
      obtain ⟨led, rfl, rfl⟩ := hr
      have hS : (s.heap.push (setO led)).get? s.heap.objs.size = some (setO led) := Heap.get?_push_size _ rfl
      have hT : Shared.TypeIs { s with heap := s.heap.push (setO led) } (.ref s.heap.objs.size) "set" := ⟨_, hS, rfl⟩
      have hli := PySem.F.called_set.init.lookup
      have hbi := PySem.F.called_set.init.bind (.ref s.heap.objs.size)
      repeat (any_goals (first | assumption | wp_step))

      refine codeAny_mono (codeAny_call_builtin (R := wants (fun r s₂ => r = .none ∧ ∃ h' tk c, s₂ = { s with heap := h', toks := tk } ∧ DCnt xs c ∧
          h'.SetOf (PySem.strKind prog w) s.heap.objs.size (fun k' => xs.any (· == k')) c ∧
          (∀ b o, b < s.heap.objs.size → s.heap.get? b = some o → h'.get? b = some o)) E) PySem.F.called_set.init.plain PySem.F.entry_set_init (check_set_init_1 hT ?_)) fun r₂ s₂ hr₂ => ?_
      · obtain ⟨ol, hol, hcl, nl, hdl⟩ := hl
        obtain ⟨ocls, odict, odata, oslots⟩ := ol
        simp only at hcl hdl
        subst hcl; subst hdl
        have hol' : (s.heap.push (setO led)).get? l = some { cls := .type "tuple", dict := odict, data := .seq items nl, slots := oslots } := Heap.get?_push_of_some _ hol
        have hsls := PySem.F.sub_tuple_set
        have hslf := PySem.F.sub_tuple_frozenset
        have hne : (Value.type "tuple" == Value.type "dict") = false := by decide
        have hl1 : (s.heap.push (setO led)).IsTuple l items := ⟨_, hol', rfl, nl, rfl⟩
        unfold Builtin.«set.__init__» noKeywords Builtin.Frozenset.updateFrom
        generalize hPI : pyIter = PI
        with_reducible refine wpAny_bind ?_
        ((with_reducible apply wpAny_ite_true); focus (rfl))
        with_reducible refine wpAny_pure ?_
        wp_delta
        with_reducible refine wpAny_bind ?_
        wp_delta
        with_reducible refine wpAny_bind ?_
        wp_delta
        with_reducible refine wpAny_bind ?_
        with_reducible refine wpAny_typeOf (by assumption) ?_
        ((with_reducible apply wpAny_ite_false); focus (rfl))
        with_reducible refine wpAny_pure ?_
        wp_delta
        wp_delta
        with_reducible refine wpAny_pure ?_
        with_reducible refine wpAny_bind ?_
        wp_delta
        ((with_reducible apply wpAny_ite_false); focus (rfl))
        ((with_reducible apply wpAny_ite_false); focus (rfl))
        ((with_reducible apply wpAny_ite_false); focus (rfl))
        with_reducible refine wpAny_pure ?_
        with_reducible refine wpAny_bind ?_
        wp_delta
        with_reducible refine wpAny_pure ?_
        with_reducible refine wpAny_bind ?_
        wp_delta
        with_reducible refine wpAny_bind ?_
        wp_delta
        with_reducible refine wpAny_bind ?_
        ((with_reducible apply wpAny_load'); focus (heap_get))
        ((with_reducible apply wpAny_ite_false); focus (rfl))
        with_reducible refine wpAny_pure ?_
        with_reducible refine wpAny_pure ?_
        ((with_reducible apply wpAny_ite_false); focus (rfl))
        wp_delta
        with_reducible refine wpAny_bind ?_
        with_reducible refine wpAny_bind ?_
        wp_delta
        wp_delta
        with_reducible refine wpAny_bind ?_
        wp_delta
        with_reducible refine wpAny_bind ?_
        wp_delta
        with_reducible refine wpAny_bind ?_
        ((with_reducible apply wpAny_loadPart'); focus (heap_get))
        with_reducible refine wpAny_pure ?_
        with_reducible refine wpAny_of_eq (by assumption) ?_
        wp_delta
        wp_delta
        with_reducible refine wpAny_bind ?_
        wp_delta
        with_reducible refine wpAny_bind ?_
        ((with_reducible apply wpAny_loadPart'); focus (heap_get))
        with_reducible refine wpAny_pure ?_
        with_reducible refine wpAny_of_eq (by assumption) ?_
        ((with_reducible apply wpAny_ite_false); focus (rfl))
        with_reducible refine wpAny_bind ?_
        wp_delta
        with_reducible refine wpAny_bind ?_
        ((with_reducible apply wpAny_loadPart'); focus (heap_get))
        with_reducible refine wpAny_pure ?_
        ((with_reducible apply wpAny_ite_false); focus (rfl))
        with_reducible refine wpAny_bind ?_
        subst hPI

        refine wpAny_pyIter_tuple hl1 ?_
        refine wpAny_bind (wpAny_runValue ?_)
        have hlS : l < s.heap.objs.size := Heap.lt_size hol
        have hh3 : A.in1.in1.in1.handled = none := by simp [hh]
        have hneI : l ≠ (s.heap.push (setO led)).objs.size := by
          rw [Heap.size_push]; exact Nat.ne_of_lt (Nat.lt_succ_of_lt hlS)
        have hSf : s.heap.objs.size ∉ [(s.heap.push (setO led)).objs.size, l] := by
          rw [Heap.size_push]; simp only [List.mem_cons, List.mem_singleton, List.not_mem_nil, or_false, not_or]
          exact ⟨Nat.ne_of_lt (Nat.lt_succ_self _), Nat.ne_of_gt hlS⟩
        have hsz : xs.length = items.size := by rw [← StrsAre.len_eq hi, Array.length_toList]
        have hval : ∀ (i : Nat) (v : Value), items[i]? = some v → ∃ t, v = .str (xs.getD i Str.empty) t := fun i v hv => strs_at hi i v (by rw [Array.getElem?_toList]; exact hv)
        refine loopS ((Walks.tuple hh3 _ l hneI items).toS) s.heap.objs.size
          hSf xs hsz (by rw [← hsz]; exact hb) hval (items.size - 0) 0 _ (by omega) (Nat.zero_le _)
          ⟨⟨_, Heap.get?_push_size _ rfl, rfl, rfl⟩, (hl1.push _)⟩ ?hS0 ?hR
        case hS0 =>
          have hget : ((s.heap.push (setO led)).push { cls := .type "tuple_iterator", data := .fields #[.ref l, .int 0 0] }).get? s.heap.objs.size
              = some (setO led) := Heap.get?_push_of_some _ hS
          exact ⟨0, .nil, PyProof.Rows.SetOf_congr ((PyProof.Rows.setObjOf_fresh (knd := PySem.strKind prog w) led).setOf hget (by unfold scanBound; omega)) (fun _ => rfl) rfl⟩
        case hR =>
          intro s' c' hm hc' hS'
          obtain ⟨h', g', d', tk', os'⟩ := s'
          have eg : g' = s.gens := hm.gens
          have ed : d' = s.drawn := hm.drawn
          have eo : os' = s.os := hm.os
          subst eg; subst ed; subst eo
          show wpAny _ _ _ _ _ _
          refine wpAny_pure ?_
          show wpAny _ _ (ret Value.none) _ _ _
          refine wpAny_pure ⟨rfl, h', tk', c', rfl, hc', hS', fun b o hb e => ?_⟩
          have hb1 : b ≠ s.heap.objs.size := Nat.ne_of_lt hb
          have hb2 : b ≠ (s.heap.push (setO led)).objs.size := by
            rw [Heap.size_push]; exact Nat.ne_of_lt (Nat.lt_succ_of_lt hb)
          exact hm.heap b o (by simp only [List.mem_cons, List.mem_singleton, List.not_mem_nil, or_false, not_or]; exact ⟨hb1, hb2⟩) (Heap.get?_push_of_some _ (Heap.get?_push_of_some _ e))

      · cases r₂ with
        | error e => exact hr₂
        | ok fl₂ =>
          cases fl₂ with
          | ret r =>
            obtain ⟨rfl, h', tk, c', rfl, hc', hS', hk'⟩ := hr₂
            repeat (any_goals (first | assumption | wp_step))
            exact h _ _ _ hc' hS' hk'
          | _ => exact hr₂.elim
    | _ => exact hr.elim
end
end SWS
namespace SW
open PySem PySem.Spec PyProof.Rows L2 SWS
/-- len(set(xs)) of texts -/
def tLenSetS (K : PySem.W.Frag) (ta : TE) : TE := fun σ H Q => ta σ H fun x H1 => ∃ l, ∃ xs : List Str, x = .ref l ∧ (SqL K H1 l (xs.map V.str) ∨ SqT K H1 l (xs.map V.str)) ∧ xs.length ≤ 1000 ∧ ∀ c, DCnt xs c → Q (.int (c : Nat)) H1
theorem pe_lenSetS {X : Cx} {a : Expr} {ta : TE} {p p2 q pos : Pos} (hc : X.calm = true) (hg : Gl X "len") (hm : X.mg "len" = none) (hg2 : Gl X "set") (hm2 : X.mg "set" = none) (ha : PE X a ta)
    (na : starEach [a] X.env = (false, eval a X.env) :: starEach [] X.env := by rfl) : PE X (.Call (.Name "len" p) [.Call (.Name "set" p2) [a] [] q] [] pos) (tLenSetS X.K ta) := by
  refine ⟨fun pins s σ H Q I h => ?_⟩
  refine Call_ (ld_blt I hg hm boot_len ?_)
  refine PyProof.Rows.callWith_builtin1 (PyProof.Rows.args_cons ?_ rfl) rfl rfl
  refine Call_ (ld_blt I hg2 hm2 boot_set ?_)
  refine PyProof.Rows.callWith_type1 (PyProof.Rows.args_cons (thn (ha.run pins s σ H _ I h) fun v s1 ⟨x, H1, I1, r1, q1⟩ => PyProof.Rows.args_nil ?_) na) na rfl
  obtain ⟨l, xs, rfl, hq, h1, q1⟩ := q1
  cases r1
  have fin : ∀ (h' : Heap) (tk c : Nat), DCnt xs c → h'.SetOf (PySem.strKind X.prog X.w) s1.heap.objs.size (fun k' => xs.any (· == k')) c →
      (∀ b o, b < s1.heap.objs.size → s1.heap.get? b = some o → h'.get? b = some o) →
      wpAny (model X.prog X.w) X.A (spliced (backTo pos (starEach [] X.env))) (fun vs s₂ => wpAny (model X.prog X.w) X.A (call (.builtin "len") (Value.ref s1.heap.objs.size :: vs)) (EP X pins σ Q) X.xe s₂) X.xe { s1 with heap := h', toks := tk } := fun h' tk c hc' hS hk => by
    refine PyProof.Rows.args_nil ?_
    have hle := hc'.le.1
    obtain ⟨o, es, ep, t, ho, hex, hd, _, _, _, hf, hn⟩ := hS
    have I2 : Inv X pins σ H1 { s1 with heap := h', toks := tk } := I1.kept fun b o e => hk b o (Heap.lt_size e) e
    refine call_len_set ho hex hd hf (by rw [hn]; omega) ⟨.int c, H1, I2.tok _, ⟨_, by rw [hn]⟩, q1 c hc'⟩
  rcases hq with hq | hq
  · obtain ⟨its, r, pl, hz⟩ := I1.list hq
    exact set_list (I1.ok.hd hc) pl.isList (by simpa using strsAre_of r) (by unfold scanBound; omega) fun h' tk c hc' hS hk => fin h' tk c hc' hS hk
  · obtain ⟨its, r, pl, hz⟩ := I1.tuple hq
    exact set_tuple (I1.ok.hd hc) pl (by simpa using strsAre_of r) (by unfold scanBound; omega) fun h' tk c hc' hS hk => fin h' tk c hc' hS hk
end SW
namespace SW
open PySem PySem.Spec PyProof.Rows L2
variable [QN]
theorem pmk_own0 {X : Cx} {C : Addr} {bmB : List Value} {B newId initId : String} {x : Str} {p pos : Pos} (F : ExcBaseFacts B newId initId bmB) (q : PySem.W.excIn X.K C bmB newId = true) (gC : X.mg x = some (.ref C))
    (kC : PySem.W.keepIn X.K (.ref C) = true) (r : Raises X (.ref C)) (hg : Gl X x) (hdb : (x == ("__debug__" : Str)) = false := by decide) :
    PMk X (.Call (.Name x p) [] [] pos) (fun _ H Q => Q (.ref C) none H) := by
  intro pins s σ H Q I h
  refine wpAny_Call_Name_kw (ld_glob I hg gC ?_ hdb)
  refine PySem.W.callWith_K0 I.kIn kC ?_
  show wpAny _ _ (call (.ref C) []) _ _ _
  obtain ⟨bm, N, nm, qn, bs, hdct, sn, sub, ab, col, dd, k0, k1, k2, k3, k5, mN, hC, hN, hni, T⟩ := exc_obj I.kIn q
  exact wpAny_call_exc_subT F T hC hN hni (fun h' e hm => mk_of I hm r h (I.hok.gone hm.new)) (Nat.zero_le _)
def errMro (C N : Addr) : List Value := [.ref C, .ref N, .type "ValueError", .type "Exception", .type "BaseException", .type "object"]
def errB (K : PySem.W.Frag) (C N : Addr) : Bool :=
  ((PySem.W.clsIn K C).any fun cd => cd.mro == errMro C N) && (PySem.W.typeIn K (.ref C) == some (.type "type")) && PySem.W.keepIn K (.ref C) && (PySem.W.findIn K (.ref C) "__getattribute__" == some (some (.builtin "BaseException.__getattribute__"))) &&
    (PySem.W.findIn K (.ref C) "__getattr__" == some none) && (PySem.W.findIn K (.ref C) "__class__" == some (some (.builtin "object.__class__"))) && PySem.W.hasDictIn K C
structure ErrC (K : PySem.W.Frag) (C N : Addr) : Prop where
  mro : ∃ cd, PySem.W.clsIn K C = some cd ∧ cd.mro = errMro C N
  ty : PySem.W.typeIn K (.ref C) = some (.type "type")
  kp : PySem.W.keepIn K (.ref C) = true
  ga : PySem.W.findIn K (.ref C) "__getattribute__" = some (some (.builtin "BaseException.__getattribute__"))
  gt : PySem.W.findIn K (.ref C) "__getattr__" = some none
  cl : PySem.W.findIn K (.ref C) "__class__" = some (some (.builtin "object.__class__"))
  hd : PySem.W.hasDictIn K C = true
theorem errC_of {K : PySem.W.Frag} {C N : Addr} (h : errB K C N = true) : ErrC K C N := by
  unfold errB at h
  simp only [Bool.and_eq_true, beq_iff_eq] at h
  obtain ⟨⟨⟨⟨⟨⟨h1, h2⟩, h3⟩, h4⟩, h5⟩, h6⟩, h7⟩ := h
  refine ⟨?_, h2, h3, h4, h5, h6, h7⟩
  cases e : PySem.W.clsIn K C with
  | none =>
    rw [e] at h1
    cases h1
  | some cd =>
    rw [e] at h1
    exact ⟨cd, rfl, beq_iff_eq.mp h1⟩
theorem ErrC.sub {K : PySem.W.Frag} {C N : Addr} (h : ErrC K C N) (b : Value) : PySem.W.subIn K (.ref C) b = some ((errMro C N).contains b) := by
  obtain ⟨cd, e, m⟩ := h.mro
  show PySem.W.mroIn K C b = _
  unfold PySem.W.mroIn
  rw [e, Option.bind_some, m]
  rfl
theorem ErrC.base {K : PySem.W.Frag} {C N : Addr} (h : ErrC K C N) : PySem.W.subIn K (.ref C) (.type "BaseException") = some true := by
  rw [h.sub]
  rfl
theorem ErrC.raises {X : Cx} {C N : Addr} (h : ErrC X.K C N) : Raises X (.ref C) := raises_own h.base h.ty
abbrev SpW := Addr → Value → Option Addr → Sp
def tCallW (sp : SpW) (a : Addr) (cls : Value) (d : Option Addr) (t : TA) : TE := fun σ H Q => t σ H fun vs H1 => sp a cls d vs H1 Q E0
theorem i_callW {σ : L2.St} {H : Hp} {Q : VK} {sp : SpW} {a : Addr} {cls : Value} {d : Option Addr} {t : TA} (q : t σ H fun vs H1 => sp a cls d vs H1 Q E0) : tCallW sp a cls d t σ H Q := q
theorem i_callS {σ : L2.St} {H : Hp} {Q : VK} {sp : Sp} {E : L2.St → XK} {t : TA} (q : t σ H fun vs H1 => sp vs H1 Q (E σ)) : tCallS sp E t σ H Q := q
end SW
namespace SW
open PySem PySem.Spec PyProof.Rows L2
variable [QN]
theorem coldAt {X : Cx} (σ : L2.St) : PassesAt (L2.CX X.prog X.w) X σ ((fun _ => E0 : L2.St → XK) σ) := fun pins H s e s' I c => passL pins σ H s e s' I c
section
variable {X : Cx} {CX : CXT} {k n : Nat} {f C : Addr} {fd : FuncData} {ps ks : List Str} {sp : Sp} {dvs : List V} {ds : List Value} {E : L2.St → XK} {x m : Str} {p pos apos : Pos} {e o : Expr} {es : List Expr} {kws : List Keyword} {ta : TE} {t tk : TA} {g : List Value → List Value → List Value} {gV : List V → List V → List V}
def tMeS (C : Addr) (m : Str) (sp : Sp) (dvs : List V) (E : L2.St → XK) (ta : TE) (t : TA) : TE := fun σ H Q => ta σ H fun x H1 => ∃ a dx fs, x = .ref a ∧ H1 a = some (.ins C dx fs) ∧ fs.lookup m = none ∧
  t σ H1 fun vs H2 => sp (x :: (vs ++ dvs)) H2 Q (E σ)
def tMkS (C : Addr) (sp : Sp) (dvs : List V) (E : L2.St → XK) (t : TA) : TE := fun σ H Q => t σ H fun vs H1 => ∀ x dx, H1 x = none → H1 dx = none → dx ≠ x →
  sp (.ref x :: (vs ++ dvs)) (upd (upd H1 dx (.own x)) x (.ins C dx [])) (fun v H2 => v = .non ∧ Q (.ref x) H2) (E σ)
def tMkNS (C : Addr) (n m : Nat) (sp : Sp) (gV : List V → List V → List V) (E : L2.St → XK) (t tk : TA) : TE := fun σ H Q => t σ H fun vs H1 => tk σ H1 fun zs H2 => vs.length = n ∧ zs.length = m ∧
  ∀ x dx, H2 x = none → H2 dx = none → dx ≠ x → sp (gV (.ref x :: vs) zs) (upd (upd H2 dx (.own x)) x (.ins C dx [])) (fun v H3 => v = .non ∧ Q (.ref x) H3) (E σ)
theorem run_mkNS {pins : List (Addr × Obj)} {σ : L2.St} {H : Hp} {s : Shared} {Q : VK} {us ws : List Value} {vs zs : List V} (M : Mk X.K C f) (F : FnOk X.prog X.w X.K X.mg X.base CX k f fd ps sp) (hr : Room (k + 1) X.A) (hb : KBn X.K fd ps (n + 1) ks g gV)
    (hx : PassesAt CX X σ (E σ)) (I : Inv X pins σ H s) (r : Vals vs us) (rz : Vals zs ws) (l1 : vs.length = n) (l2 : zs.length = ks.length)
    (h : ∀ x dx, H x = none → H dx = none → dx ≠ x → sp (gV (.ref x :: vs) zs) (upd (upd H dx (.own x)) x (.ins C dx [])) (fun v H2 => v = .non ∧ Q (.ref x) H2) (E σ)) :
    wpAny (model X.prog X.w) X.A (call (.ref C) us (ks.zip ws)) (EP X pins σ Q) X.xe s := by
  have hq := h (s.heap.objs.size + 1) s.heap.objs.size (I.hok.fresh (Nat.le_succ _)) (I.hok.fresh (Nat.le_refl _)) (Nat.ne_of_lt (Nat.lt_succ_self _))
  have I2 := Inv.made (C := C) I
  have r1 : Vals (V.ref (s.heap.objs.size + 1) :: vs) (Value.ref (s.heap.objs.size + 1) :: us) := .cons rfl r
  have r2 := hb.rel r1 rz
  have e1 : (Value.ref (s.heap.objs.size + 1) :: us).length = n + 1 := r1.length.symm.trans (congrArg Nat.succ l1)
  have e2 : ws.length = ks.length := rz.length.symm.trans l2
  refine wpAny_call (make_map (f := f) I.kIn M.makes M.init (beq_iff_eq.mp M.fn) (codeAny_mono (F.run _ X.stack _ _ ⟨Value.ref (s.heap.objs.size + 1) :: us, ks.zip ws⟩ (g (Value.ref (s.heap.objs.size + 1) :: us) ws) _ _ (E σ) (hr.make C us (ks.zip ws))
    (I2.env0.make C us (ks.zip ws)) (hb.to _ (Value.ref (s.heap.objs.size + 1) :: us) ws I2.kIn e1 e2) r2 hq) fun r s' hq' => ?_))
  cases r with
  | error e => exact hx pins _ _ e s' I2 hq'
  | ok fl =>
    cases fl with
    | ret u =>
      obtain ⟨v, H', I3, rv, ev, q3⟩ := I2.after hq'
      subst ev
      exact ⟨rv, ⟨V.ref (s.heap.objs.size + 1), H', I3, rfl, q3⟩⟩
    | next => exact False.elim hq'
    | brk => exact False.elim hq'
    | cont => exact False.elim hq'
theorem pe_mkNS (M : Mk X.K C f) (F : FnOk X.prog X.w X.K X.mg X.base CX k f fd ps sp) (hr : Room (k + 1) X.A) (hg : Gl X x) (hm : X.mg x = some (.ref C)) (hb : KBn X.K fd ps (n + 1) ks g gV) (hx : ∀ σ, PassesAt CX X σ (E σ))
    (ha : PA X (e :: es) t) (hkw : PK X kws tk) (hall : (backToKw pos (keywordEach kws X.env)).all (·.1.isSome) = true := by rfl) (hks : (backToKw pos (keywordEach kws X.env)).filterMap (·.1) = ks := by rfl)
    (hdb : (x == ("__debug__" : Str)) = false := by decide) (he : starEach (e :: es) X.env = (false, eval e X.env) :: starEach es X.env := by rfl)
    (hpl : ((backTo pos (starEach (e :: es) X.env)).any (·.1) || (backToKw pos (keywordEach kws X.env)).any (·.1.isNone)) = false := by rfl) :
    PE X (.Call (.Name x p) (e :: es) kws pos) (tMkNS C n ks.length sp gV E t tk) := by
  refine ⟨fun pins s σ H Q I h => ?_⟩
  refine wpAny_Call_Name_kw (ld_glob I hg hm ?_ hdb)
  refine PySem.W.callWith_KW (h₀ := X.base) I.ok.mod.kin M.kp hall (thn (ha.run pos pins s σ H _ I h) fun us s1 ⟨vs, H1, I1, r, q⟩ => ?_) hpl he
  refine thn (hkw.run pos pins s1 σ H1 _ I1 q) fun ws s2 ⟨zs, H2, I2, rz, l1, l2, q2⟩ => ⟨I2.kIn, ?_⟩
  rw [hks]
  exact run_mkNS M F hr hb (hx σ) I2 r rz l1 l2 q2
def tCallNS (n m : Nat) (sp : Sp) (gV : List V → List V → List V) (E : L2.St → XK) (t tk : TA) : TE := fun σ H Q => t σ H fun vs H1 => tk σ H1 fun zs H2 => vs.length = n ∧ zs.length = m ∧ sp (gV vs zs) H2 Q (E σ)
end
section
variable {K : PySem.W.Frag} {σ : L2.St} {H : Hp} {Q : VK} {n bk ct : L2.St → Hp → Prop} {rt : VK} {C a dx : Addr} {fs : List (Str × V)} {f m : Str} {v x y : V} {ta tv : TE} {t tk : TA} {sp : Sp} {E : L2.St → XK} {dvs : List V}
theorem ps_fldK {X : Cx} {o value : Expr} {pos pos' : Pos} (hK : X.K = K) (ha : PE X o ta) (hv : PE X value tv) (hs : swapsWith value (some (.Attribute o f pos')) pos.line X.env = pure false) : PS X (.Assign [.Attribute o f pos'] value pos) (sFld K ta tv f) := by
  subst hK
  exact ps_fld ha hv hs
def rFld (K : PySem.W.Frag) (f : Str) : V → Hp → VK → Prop := fun x H Q => ∃ a C dx fs v, x = .ref a ∧ H a = some (.ins C dx fs) ∧ Cls K C ∧ NoAttr K C f ∧ fs.lookup f = some v ∧ Q v H
theorem i_fld (q : ta σ H fun x H1 => rFld K f x H1 Q) : tFld K ta f σ H Q := q
theorem i_fldI (h : H a = some (.ins C dx fs)) (c : Cls K C) (n : NoAttr K C f) (l : fs.lookup f = some v) (q : Q v H) : rFld K f (.ref a) H Q := ⟨a, C, dx, fs, v, rfl, h, c, n, l, q⟩
theorem i_sfld (q : tv σ H fun y H1 => ta σ H1 fun x H2 => ∃ a C dx fs, x = .ref a ∧ H2 a = some (.ins C dx fs) ∧ Cls K C ∧ NoAttr K C f ∧ fs.length < 1000 ∧ n σ (upd H2 a (.ins C dx (putF f y fs)))) : sFld K ta tv f ⟨n, rt, bk, ct⟩ σ H := q
theorem i_sfldI {fs' : List (Str × V)} {R : Hp → Prop} (h : H a = some (.ins C dx fs)) (c : Cls K C) (n : NoAttr K C f) (e : putF f y fs = fs') (l : fs.length < 1000) (q : R (upd H a (.ins C dx fs'))) :
    ∃ a' C dx fs, V.ref a = .ref a' ∧ H a' = some (.ins C dx fs) ∧ Cls K C ∧ NoAttr K C f ∧ fs.length < 1000 ∧ R (upd H a' (.ins C dx (putF f y fs))) := ⟨a, C, dx, fs, rfl, h, c, n, l, by rw [e]; exact q⟩
theorem i_meS (q : ta σ H fun x H1 => ∃ a dx fs, x = .ref a ∧ H1 a = some (.ins C dx fs) ∧ fs.lookup m = none ∧ t σ H1 fun vs H2 => sp (x :: (vs ++ dvs)) H2 Q (E σ)) : tMeS C m sp dvs E ta t σ H Q := q
theorem i_recv {R : Prop} (h : H a = some (.ins C dx fs)) (l : fs.lookup m = none) (q : R) : ∃ a' dx fs, V.ref a = .ref a' ∧ H a' = some (.ins C dx fs) ∧ fs.lookup m = none ∧ R := ⟨a, dx, fs, rfl, h, l, q⟩
theorem i_mkS (q : t σ H fun vs H1 => ∀ x dx, H1 x = none → H1 dx = none → dx ≠ x → sp (.ref x :: (vs ++ dvs)) (upd (upd H1 dx (.own x)) x (.ins C dx [])) (fun v H2 => v = .non ∧ Q (.ref x) H2) (E σ)) : tMkS C sp dvs E t σ H Q := q
theorem i_mkNS {k m : Nat} {gV : List V → List V → List V} (q : t σ H fun vs H1 => tk σ H1 fun zs H2 => vs.length = k ∧ zs.length = m ∧ ∀ x dx, H2 x = none → H2 dx = none → dx ≠ x → sp (gV (.ref x :: vs) zs) (upd (upd H2 dx (.own x)) x (.ins C dx [])) (fun v H3 => v = .non ∧ Q (.ref x) H3) (E σ)) :
    tMkNS C k m sp gV E t tk σ H Q := q
theorem i_callNS {k m : Nat} {gV : List V → List V → List V} (q : t σ H fun vs H1 => tk σ H1 fun zs H2 => vs.length = k ∧ zs.length = m ∧ sp (gV vs zs) H2 Q (E σ)) : tCallNS k m sp gV E t tk σ H Q := q
theorem i_callSD (q : t σ H fun vs H1 => sp (vs ++ dvs) H1 Q (E σ)) : tCallSD sp dvs E t σ H Q := q
theorem i_meth {E' : XK} (q : ta σ H fun x H1 => ∃ a dx fs, x = .ref a ∧ H1 a = some (.ins C dx fs) ∧ fs.lookup m = none ∧ t σ H1 fun vs H2 => sp (x :: (vs ++ dvs)) H2 Q E') : tMeth C m sp dvs E' ta t σ H Q := q
end
section
variable {σ : L2.St} {H : Hp} {K : PySem.W.Frag} {Q : VK} {n bk ct : L2.St → Hp → Prop} {rt : VK} {tb : TS} {g : TG} {tt : TT} {te : TE} {ta : TA} {vs : List Nat} {a b D : Addr}
theorem i_forE (q : ta σ H fun vs H1 => ∃ a xs, vs = [.ref a] ∧ SqL K H1 a xs ∧ LOOP (Ite K a) g tb ⟨n, rt, bk, ct⟩ σ H1) : tFor (iEnum K ta) g tb ⟨n, rt, bk, ct⟩ σ H := q
theorem i_forZ (q : ta σ H fun vs H1 => ∃ a b xs ys, vs = [.ref a, .ref b] ∧ SqL K H1 a xs ∧ SqL K H1 b ys ∧ LOOP (Itz K a b) g tb ⟨n, rt, bk, ct⟩ σ H1) : tFor (iZip K ta) g tb ⟨n, rt, bk, ct⟩ σ H := q
theorem i_lcE (q : ta σ H fun us H1 => ∃ a xs, us = [.ref a] ∧ SqL K H1 a xs ∧ ∀ D, H1 D = none → COMP (Ite K a) g tt te vs σ H1 D Q) : tLc (iEnum K ta) g tt te vs σ H Q := q
theorem i_lcZ (q : ta σ H fun us H1 => ∃ a b xs ys, us = [.ref a, .ref b] ∧ SqL K H1 a xs ∧ SqL K H1 b ys ∧ ∀ D, H1 D = none → COMP (Itz K a b) g tt te vs σ H1 D Q) : tLc (iZip K ta) g tt te vs σ H Q := q
end
end SW
namespace SW
open PySem PySem.Spec PyProof.Rows L2
variable [QN]
inductive D where
  | int (i : Int) | bl (b : Bool) | str (x : Str) | non | ty (n : String) | adr (a : Addr)
  | tup (ds : List D) | lst (ds : List D)
  | dK (ks : List Key) (ds : List D) | dT (ks : List (List Key)) (ds : List D)
  | obj (C : Addr) (ns : List Str) (ds : List D)
  /-- an exception that was caught: where it stands, its class, its dict, its fields -/
  | exn (a C : Addr) (o : Option Addr) (ns : List Str) (ds : List D)
mutual
def R (K : PySem.W.Frag) (U : Hp) : D → V → Prop
  | .int i, v => v = .int i
  | .bl b, v => v = .bl b
  | .str x, v => v = .str x
  | .non, v => v = .non
  | .ty n, v => v = .ty n
  | .adr a, v => v = .ref a
  | .tup ds, v => ∃ a xs, v = .ref a ∧ SqT K U a xs ∧ Rs K U ds xs
  | .lst ds, v => ∃ a xs, v = .ref a ∧ U a = some (.lst xs) ∧ Rs K U ds xs
  | .dK ks ds, v => ∃ a xs, v = .ref a ∧ U a = some (.dK (ks.zip xs)) ∧ ks.length = xs.length ∧ Rs K U ds xs
  | .dT ks ds, v => ∃ a xs, v = .ref a ∧ U a = some (.dT (ks.zip xs)) ∧ ks.length = xs.length ∧ Rs K U ds xs
  | .obj C ns ds, v => ∃ a dx xs, v = .ref a ∧ U a = some (.ins C dx (ns.zip xs)) ∧ ns.length = xs.length ∧ Rs K U ds xs
  | .exn a _ o ns ds, v => v = .ref a ∧ ((ns = [] ∧ o = none) ∨ ∃ d xs, o = some d ∧ U d = some (.xd (ns.zip xs)) ∧ ns.length = xs.length ∧ Rs K U ds xs)
def Rs (K : PySem.W.Frag) (U : Hp) : List D → List V → Prop
  | [], vs => vs = []
  | d :: ds, vs => ∃ v r, vs = v :: r ∧ R K U d v ∧ Rs K U ds r
end
section
variable {K : PySem.W.Frag} {U U' H H' : Hp}
theorem Same.tup {a : Addr} {xs : List V} (e : Same U U') (h : SqT K U a xs) : SqT K U' a xs := by
  rcases h with (h | ⟨o, h⟩) | h
  · exact .inl (.inl (e _ _ h))
  · exact .inl (.inr ⟨o, e _ _ h⟩)
  · exact .inr h
mutual
theorem R.mono (e : Same U U') : ∀ (d : D) (v : V), R K U d v → R K U' d v
  | .int _, _, h => h
  | .bl _, _, h => h
  | .str _, _, h => h
  | .non, _, h => h
  | .ty _, _, h => h
  | .adr _, _, h => h
  | .tup ds, _, ⟨a, xs, h1, h2, h3⟩ => ⟨a, xs, h1, Same.tup e h2, Rs.mono e ds xs h3⟩
  | .lst ds, _, ⟨a, xs, h1, h2, h3⟩ => ⟨a, xs, h1, e _ _ h2, Rs.mono e ds xs h3⟩
  | .dK _ ds, _, ⟨a, xs, h1, h2, h3, h4⟩ => ⟨a, xs, h1, e _ _ h2, h3, Rs.mono e ds xs h4⟩
  | .dT _ ds, _, ⟨a, xs, h1, h2, h3, h4⟩ => ⟨a, xs, h1, e _ _ h2, h3, Rs.mono e ds xs h4⟩
  | .obj _ _ ds, _, ⟨a, dx, xs, h1, h2, h3, h4⟩ => ⟨a, dx, xs, h1, e _ _ h2, h3, Rs.mono e ds xs h4⟩
  | .exn _ _ _ _ ds, _, ⟨h1, h2⟩ => ⟨h1, h2.imp id fun ⟨d, xs, k1, k2, k3, k4⟩ => ⟨d, xs, k1, e _ _ k2, k3, Rs.mono e ds xs k4⟩⟩
theorem Rs.mono (e : Same U U') : ∀ (ds : List D) (vs : List V), Rs K U ds vs → Rs K U' ds vs
  | [], _, h => h
  | d :: ds, _, ⟨v, r, h1, h2, h3⟩ => ⟨v, r, h1, R.mono e d v h2, Rs.mono e ds r h3⟩
end
theorem Rs.len : ∀ {ds : List D} {vs : List V}, Rs K U ds vs → ds.length = vs.length
  | [], _, h => by rw [show _ = [] from h]; rfl
  | d :: ds, _, ⟨v, r, h1, h2, h3⟩ => by rw [h1, List.length_cons, List.length_cons, Rs.len h3]
theorem Rs.snoc : ∀ {ds : List D} {vs : List V} {d : D} {v : V}, Rs K U ds vs → R K U d v → Rs K U (ds ++ [d]) (vs ++ [v])
  | [], _, d, v, h, k => by
    rw [show _ = [] from h]
    exact ⟨v, [], rfl, k, rfl⟩
  | e :: ds, _, d, v, ⟨w, r, h1, h2, h3⟩, k => by
    subst h1
    exact ⟨w, r ++ [v], rfl, h2, Rs.snoc h3 k⟩
theorem Rs.app : ∀ {ds es : List D} {vs ws : List V}, Rs K U ds vs → Rs K U es ws → Rs K U (ds ++ es) (vs ++ ws)
  | [], es, _, ws, h, k => by
    rw [show _ = [] from h]
    exact k
  | d :: ds, es, _, ws, ⟨v, r, h1, h2, h3⟩, k => by
    subst h1
    exact ⟨v, r ++ ws, rfl, h2, Rs.app h3 k⟩
theorem Rs.at : ∀ {ds : List D} {vs : List V}, Rs K U ds vs → ∀ (i : Nat) (d : D), ds[i]? = some d → ∃ v, vs[i]? = some v ∧ R K U d v
  | [], _, h, i, d, e => by simp at e
  | c :: ds, _, ⟨v, r, h1, h2, h3⟩, 0, d, e => by
    subst h1
    have e' := Option.some.inj e
    subst e'
    exact ⟨v, rfl, h2⟩
  | c :: ds, _, ⟨v, r, h1, h2, h3⟩, i + 1, d, e => by
    subst h1
    exact Rs.at h3 i d e
theorem Rs.at' : ∀ {ds : List D} {vs : List V}, Rs K U ds vs → ∀ (i : Nat) (v : V), vs[i]? = some v → ∃ d, ds[i]? = some d ∧ R K U d v
  | [], _, h, i, d, e => by rw [show _ = [] from h] at e; simp at e
  | c :: ds, _, ⟨v, r, h1, h2, h3⟩, 0, d, e => by
    subst h1
    have e' := Option.some.inj e
    subst e'
    exact ⟨c, rfl, h2⟩
  | c :: ds, _, ⟨v, r, h1, h2, h3⟩, i + 1, d, e => by
    subst h1
    exact Rs.at' h3 i d e
theorem Rs.take : ∀ {ds : List D} {vs : List V} (n : Nat), Rs K U ds vs → Rs K U (ds.take n) (vs.take n)
  | _, _, 0, _ => rfl
  | [], _, n + 1, h => by rw [show _ = [] from h]; rfl
  | c :: ds, _, n + 1, ⟨v, r, h1, h2, h3⟩ => by
    subst h1
    exact ⟨v, r.take n, rfl, h2, Rs.take n h3⟩
theorem Rs.drop : ∀ {ds : List D} {vs : List V} (n : Nat), Rs K U ds vs → Rs K U (ds.drop n) (vs.drop n)
  | _, _, 0, h => h
  | [], _, n + 1, h => by rw [show _ = [] from h]; rfl
  | c :: ds, _, n + 1, ⟨v, r, h1, h2, h3⟩ => by
    subst h1
    exact Rs.drop n h3
theorem Rs.set : ∀ {ds : List D} {vs : List V} {d : D} {v : V} (n : Nat), Rs K U ds vs → R K U d v → Rs K U (ds.set n d) (vs.set n v)
  | [], _, d, v, n, h, k => by rw [show _ = [] from h]; rfl
  | c :: ds, _, d, v, 0, ⟨w, r, h1, h2, h3⟩, k => by
    subst h1
    exact ⟨v, r, rfl, k, h3⟩
  | c :: ds, _, d, v, n + 1, ⟨w, r, h1, h2, h3⟩, k => by
    subst h1
    exact ⟨w, r.set n v, rfl, h2, Rs.set n h3 k⟩
theorem Rs.strs : ∀ {ns : List Str} {vs : List V}, Rs K U (ns.map D.str) vs → vs = ns.map V.str
  | [], _, h => h
  | n :: ns, _, ⟨v, r, h1, h2, h3⟩ => by
    rw [h1, Rs.strs h3, show v = V.str n from h2]
    rfl
theorem Rs.bls : ∀ {ns : List Bool} {vs : List V}, Rs K U (ns.map D.bl) vs → vs = ns.map V.bl
  | [], _, h => h
  | n :: ns, _, ⟨v, r, h1, h2, h3⟩ => by
    rw [h1, Rs.bls h3, show v = V.bl n from h2]
    rfl
end
inductive AV where
  | fz (d : D) | ol (ds : List D) | ok (ks : List Key) (ds : List D) | ot (ks : List (List Key)) (ds : List D) | dr
  /-- a list of things of one's own; an instance with such fields -/
  | on (ws : List V) (as : List AV) | ob (C dx : Addr) (ns : List Str) (ws : List V) (as : List AV)
  /-- a tuple of such things; what is not told -/
  | ut (ws : List V) (as : List AV) | un
abbrev Env := List (Option AV)
def AV.kind : AV → Nat
  | .fz _ => 0
  | .ol _ => 1
  | .ok _ _ => 2
  | .ot _ _ => 3
  | .dr => 4
  | .on _ _ => 5
  | .ob _ _ _ _ _ => 6
  | .ut _ _ => 7
  | .un => 8
def AV.isOwn : AV → Bool
  | .fz _ => false
  | _ => true
/-- what is seen of a thing within another -/
def seen : AV → V → D
  | .fz d, _ => d
  | _, .ref p => .adr p
  | _, _ => .non
def seens : List AV → List V → List D
  | a :: as, v :: vs => seen a v :: seens as vs
  | _, _ => []
/-- what is read of it, its items never changing -/
def AV.sh : AV → Option D
  | .fz d => some d
  | .ol ds => some (.lst ds)
  | .ok ks ds => some (.dK ks ds)
  | .ot ks ds => some (.dT ks ds)
  | .on ws as => some (.lst (seens as ws))
  | .ut ws as => some (.tup (seens as ws))
  | .ob C _ ns ws as => some (.obj C ns (seens as ws))
  | _ => none
mutual
def AV.frz : AV → Option D
  | .fz d => some d
  | .ol ds => some (.lst ds)
  | .ok ks ds => some (.dK ks ds)
  | .ot ks ds => some (.dT ks ds)
  | .dr => none
  | .on _ as => (frzs as).map .lst
  | .ob C _ ns _ as => (frzs as).map (.obj C ns)
  | .ut _ as => (frzs as).map .tup
  | .un => none
def frzs : List AV → Option (List D)
  | [] => some []
  | a :: as => match a.frz, frzs as with
    | some d, some ds => some (d :: ds)
    | _, _ => none
end
mutual
def RepA (K : PySem.W.Frag) (U H : Hp) : AV → V → Prop
  | .fz d, v => R K U d v
  | .ol ds, v => ∃ p xs, v = .ref p ∧ H p = some (.lst xs) ∧ Rs K U ds xs
  | .ok ks ds, v => ∃ p xs, v = .ref p ∧ H p = some (.dK (ks.zip xs)) ∧ ks.length = xs.length ∧ Rs K U ds xs
  | .ot ks ds, v => ∃ p xs, v = .ref p ∧ H p = some (.dT (ks.zip xs)) ∧ ks.length = xs.length ∧ Rs K U ds xs
  | .dr, v => ∃ s, v = .ref s ∧ Dr U H s
  | .on ws as, v => ∃ p, v = .ref p ∧ H p = some (.lst ws) ∧ RepAs K U H as ws
  | .ob C dx ns ws as, v => ∃ p, v = .ref p ∧ H p = some (.ins C dx (ns.zip ws)) ∧ ns.length = ws.length ∧ RepAs K U H as ws
  | .ut ws as, v => ∃ p, v = .ref p ∧ SqT K U p ws ∧ RepAs K U H as ws
  | .un, v => ∃ p, v = .ref p
def RepAs (K : PySem.W.Frag) (U H : Hp) : List AV → List V → Prop
  | [], vs => vs = []
  | a :: as, vs => ∃ v r, vs = v :: r ∧ RepA K U H a v ∧ RepAs K U H as r
end
mutual
def own : AV → V → List Addr
  | .ol _, .ref p => [p]
  | .ok _ _, .ref p => [p]
  | .ot _ _, .ref p => [p]
  | .dr, .ref p => [p]
  | .on ws as, .ref p => p :: ownAs as ws
  | .ob _ _ _ ws as, .ref p => p :: ownAs as ws
  | .ut ws as, .ref p => ownAs as ws
  | _, _ => []
def ownAs : List AV → List V → List Addr
  | a :: as, v :: vs => own a v ++ ownAs as vs
  | _, _ => []
end
theorem seen_r {K : PySem.W.Frag} {U H : Hp} {a : AV} {v : V} (h : RepA K U H a v) : R K U (seen a v) v := by
  cases a with
  | fz d => exact h
  | ol ds => obtain ⟨p, xs, rfl, _⟩ := h; exact rfl
  | ok ks ds => obtain ⟨p, xs, rfl, _⟩ := h; exact rfl
  | ot ks ds => obtain ⟨p, xs, rfl, _⟩ := h; exact rfl
  | dr => obtain ⟨p, rfl, _⟩ := h; exact rfl
  | on ws as => obtain ⟨p, rfl, _⟩ := h; exact rfl
  | ob C dx ns ws as => obtain ⟨p, rfl, _⟩ := h; exact rfl
  | ut ws as => obtain ⟨p, rfl, _⟩ := h; exact rfl
  | un => obtain ⟨p, rfl⟩ := h; exact rfl
theorem seens_r {K : PySem.W.Frag} {U H : Hp} : ∀ {as : List AV} {vs : List V}, RepAs K U H as vs → Rs K U (seens as vs) vs
  | [], _, h => by
    rw [show _ = [] from h]
    exact rfl
  | a :: as, _, ⟨v, r, e, h1, h2⟩ => by
    subst e
    exact ⟨v, r, rfl, seen_r h1, seens_r h2⟩
def RepS (K : PySem.W.Frag) (U H : Hp) : Option AV → Option V → Prop
  | none, _ => True
  | some av, some v => RepA K U H av v
  | some _, none => False
def ownS : Option AV → Option V → List Addr
  | some av, some v => own av v
  | _, _ => []
def owns : Env → L2.St → List Addr
  | a :: ρ, v :: σ => ownS a v ++ owns ρ σ
  | _, _ => []
section
variable {K : PySem.W.Frag} {U H U' H' : Hp}
mutual
theorem own_pl : ∀ (av : AV) (v : V), RepA K U H av v → ∀ p ∈ own av v, Pl H p
  | .fz _, v, _, p, hp => by cases hp
  | .ol _, _, ⟨q, xs, e, h, _⟩, p, hp => by
    subst e
    rw [List.mem_singleton.mp hp]
    exact .of h rfl
  | .ok _ _, _, ⟨q, xs, e, h, _⟩, p, hp => by
    subst e
    rw [List.mem_singleton.mp hp]
    exact .of h rfl
  | .ot _ _, _, ⟨q, xs, e, h, _⟩, p, hp => by
    subst e
    rw [List.mem_singleton.mp hp]
    exact .of h rfl
  | .dr, _, ⟨q, e, h⟩, p, hp => by
    subst e
    rw [List.mem_singleton.mp hp]
    exact h.pl
  | .on ws as, _, ⟨q, e, h, k⟩, p, hp => by
    subst e
    rcases List.mem_cons.mp hp with z | z
    · rw [z]
      exact .of h rfl
    · exact ownAs_pl as ws k p z
  | .ob _ _ _ ws as, _, ⟨q, e, h, _, k⟩, p, hp => by
    subst e
    rcases List.mem_cons.mp hp with z | z
    · rw [z]
      exact .of h rfl
    · exact ownAs_pl as ws k p z
  | .ut ws as, _, ⟨q, e, h, k⟩, p, hp => by
    subst e
    exact ownAs_pl as ws k p hp
  | .un, v, _, p, hp => by cases hp
theorem ownAs_pl : ∀ (as : List AV) (vs : List V), RepAs K U H as vs → ∀ p ∈ ownAs as vs, Pl H p
  | [], vs, _, p, hp => by cases vs <;> cases hp
  | a :: as, _, ⟨v, r, e, h1, h2⟩, p, hp => by
    subst e
    rcases List.mem_append.mp hp with z | z
    · exact own_pl a v h1 p z
    · exact ownAs_pl as r h2 p z
end
theorem own_some (av : AV) (v : V) (h : RepA K U H av v) (p : Addr) (hp : p ∈ own av v) : H p ≠ none := (own_pl av v h p hp).ne
theorem ownAs_some (as : List AV) (vs : List V) (h : RepAs K U H as vs) (p : Addr) (hp : p ∈ ownAs as vs) : H p ≠ none := (ownAs_pl as vs h p hp).ne
mutual
/-- what is one's own stands on where its own places stand as they did -/
theorem RepA.keep (s : Same U U') : ∀ (av : AV) (v : V), (∀ p ∈ own av v, H' p = H p ∧ U' p = none) → RepA K U H av v → RepA K U' H' av v
  | .fz d, v, _, h => R.mono s d v h
  | .ol ds, _, n, ⟨q, xs, e, h, r⟩ => by
    subst e
    exact ⟨q, xs, rfl, (n q (List.mem_singleton.mpr rfl)).1.trans h, Rs.mono s _ _ r⟩
  | .ok ks ds, _, n, ⟨q, xs, e, h, l, r⟩ => by
    subst e
    exact ⟨q, xs, rfl, (n q (List.mem_singleton.mpr rfl)).1.trans h, l, Rs.mono s _ _ r⟩
  | .ot ks ds, _, n, ⟨q, xs, e, h, l, r⟩ => by
    subst e
    exact ⟨q, xs, rfl, (n q (List.mem_singleton.mpr rfl)).1.trans h, l, Rs.mono s _ _ r⟩
  | .dr, _, n, ⟨q, e, h⟩ => by
    subst e
    exact ⟨q, rfl, h.mono s (n q (List.mem_singleton.mpr rfl)).1 (n q (List.mem_singleton.mpr rfl)).2⟩
  | .on ws as, _, n, ⟨q, e, h, k⟩ => by
    subst e
    exact ⟨q, rfl, (n q List.mem_cons_self).1.trans h, RepAs.keep s as ws (fun p hp => n p (List.mem_cons_of_mem _ hp)) k⟩
  | .ob C dx ns ws as, _, n, ⟨q, e, h, l, k⟩ => by
    subst e
    exact ⟨q, rfl, (n q List.mem_cons_self).1.trans h, l, RepAs.keep s as ws (fun p hp => n p (List.mem_cons_of_mem _ hp)) k⟩
  | .ut ws as, _, n, ⟨q, e, h, k⟩ => by
    subst e
    exact ⟨q, rfl, Same.tup s h, RepAs.keep s as ws n k⟩
  | .un, _, _, h => h
theorem RepAs.keep (s : Same U U') : ∀ (as : List AV) (vs : List V), (∀ p ∈ ownAs as vs, H' p = H p ∧ U' p = none) → RepAs K U H as vs → RepAs K U' H' as vs
  | [], _, _, h => h
  | a :: as, _, n, ⟨v, r, e, h1, h2⟩ => by
    subst e
    exact ⟨v, r, rfl, RepA.keep s a v (fun p hp => n p (List.mem_append_left _ hp)) h1, RepAs.keep s as r (fun p hp => n p (List.mem_append_right _ hp)) h2⟩
end
theorem RepAs.len : ∀ {as : List AV} {vs : List V}, RepAs K U H as vs → as.length = vs.length
  | [], _, h => by rw [show _ = [] from h]; rfl
  | a :: as, _, ⟨v, r, e, _, h2⟩ => by rw [e, List.length_cons, List.length_cons, RepAs.len h2]
theorem RepAs.paired : ∀ {as : List AV} {vs : List V}, RepAs K U H as vs → Paired (RepA K U H) as vs
  | [], _, h => by rw [show _ = [] from h]; exact .nil
  | a :: as, _, ⟨v, r, e, h1, h2⟩ => by rw [e]; exact .cons h1 (RepAs.paired h2)
theorem RepAs.of : ∀ {as : List AV} {vs : List V}, Paired (RepA K U H) as vs → RepAs K U H as vs
  | _, _, .nil => rfl
  | _, _, .cons h t => ⟨_, _, rfl, h, RepAs.of t⟩
end
structure Exn where
  C : Addr
  ns : List Str
  ds : List D
def XRep (K : PySem.W.Frag) (U H : Hp) (x : Exn) (cls : Value) (o : Option Addr) : Prop :=
  cls = .ref x.C ∧ ((x.ns = [] ∧ o = none) ∨ ∃ d xs, o = some d ∧ U d = some (.xd (x.ns.zip xs)) ∧ x.ns.length = xs.length ∧ Rs K U x.ds xs)
/-- the marked ones of a row -/
def selM {α : Type} : List Bool → List α → List α
  | true :: ks, a :: r => a :: selM ks r
  | false :: ks, _ :: r => selM ks r
  | _, _ => []
/-- each one's places are those it had, or new -/
def PerO (H0 : Hp) : List AV → List V → List (List Addr) → Prop
  | a :: as, v :: vs, o :: os => (∀ p ∈ own a v, p ∈ o ∨ H0 p = none) ∧ PerO H0 as vs os
  | [], [], _ => True
  | _, _, _ => False
structure DC where
  K : PySem.W.Frag
  /-- which parameters are one's own (the law's draws among them), their kinds, their values -/
  ks : List Bool
  pk : List Nat
  pv : List V
  /-- the places that were each slot's own at the beginning -/
  O : List (List Addr)
  M : List Addr
  U0 : Hp
  H0 : Hp
  X : Exn → List (Option AV) → Prop
  /-- what is wished of an exception that leaves, at the slots as they stand -/
  E : L2.St → XK
  /-- the tables of codes that stand, and their codes' names -/
  tb : List Addr
/-- the tables stand; the view has none -/
def TbOk (tb : List Addr) (U H : Hp) : Prop := (∀ p ∈ tb, LamX.TabS H p (QN.qn p)) ∧ NT U
theorem TbOk.gr {tb : List Addr} {M : List Addr} {U H U' H' : Hp} (h : TbOk tb U H) (g : Gr M U H U' H') : TbOk tb U' H' := ⟨fun p hp => g.tb _ (h.1 p hp), g.nt h.2⟩
/-- what the marked parameters hold -/
structure ParRep (c : DC) (U H : Hp) (as : List (Option AV)) : Prop where
  ex : ∃ avs : List AV, as = avs.map some ∧ RepAs c.K U H avs c.pv ∧ avs.map AV.kind = c.pk ∧ (ownAs avs c.pv).Nodup ∧ (∀ p ∈ ownAs avs c.pv, U p = none) ∧ PerO c.H0 avs c.pv (selM c.ks c.O)
structure DC.Ok (c : DC) : Prop where
  x : ∀ U H σ as x cls o, selM c.ks σ = c.pv.map some → σ.length = c.O.length → Gr c.M c.U0 c.H0 U H → ParRep c U H as → XRep c.K U H x cls o → c.X x as → c.E σ cls o H
  tb : TbOk c.tb c.U0 c.H0
def DC.x (c : DC) (ρ : Env) : Exn → Prop := fun x => c.X x (selM c.ks ρ)
def noPar (c : DC) (i : Nat) : Bool := !(c.ks.getD i false)
theorem sel_set {α : Type} : ∀ (ks : List Bool) (r : List α) (i : Nat) (x : α), ks.getD i false = false → selM ks (r.set i x) = selM ks r
  | [], r, i, x, _ => by cases r <;> cases i <;> rfl
  | k :: ks, [], i, x, _ => rfl
  | true :: ks, a :: r, 0, x, h => by cases h
  | false :: ks, a :: r, 0, x, h => rfl
  | true :: ks, a :: r, i + 1, x, h => congrArg (a :: ·) (sel_set ks r i x h)
  | false :: ks, a :: r, i + 1, x, h => sel_set ks r i x h
structure DI (c : DC) (U H : Hp) (σ : L2.St) (ρ : Env) : Prop where
  gr : Gr c.M c.U0 c.H0 U H
  rep : Paired (RepS c.K U H) ρ σ
  nd : (owns ρ σ).Nodup
  out : ∀ p ∈ owns ρ σ, U p = none ∧ (p ∈ c.M ∨ c.H0 p = none)
  par : selM c.ks σ = c.pv.map some ∧ ∃ avs : List AV, selM c.ks ρ = avs.map some ∧ avs.map AV.kind = c.pk
  ko : c.Ok
  ow : ∀ (i : Nat) (av : AV) (v : V), ρ[i]? = some (some av) → σ[i]? = some (some v) → ∀ p ∈ own av v, p ∈ c.O.getD i [] ∨ c.H0 p = none
  on : c.O.length = σ.length ∧ ∀ i, noPar c i = true → c.O.getD i [] = []
section
variable {K : PySem.W.Frag} {c : DC} {U H U' H' : Hp} {σ : L2.St} {ρ : Env}
theorem DI.vh (h : DI c U H σ ρ) : Same U H := h.gr.vh
theorem DI.nw (h : DI c U H σ ρ) (i : Nat) (av : AV) (v : V) (hi : noPar c i = true) (e1 : ρ[i]? = some (some av)) (e2 : σ[i]? = some (some v)) : ∀ p ∈ own av v, c.H0 p = none := fun p hp => by
  rcases h.ow i av v e1 e2 p hp with z | z
  · rw [h.on.2 i hi] at z
    cases z
  · exact z
theorem noPar_of {i : Nat} (h : noPar c i = true) : c.ks.getD i false = false := by
  unfold noPar at h
  rwa [Bool.not_eq_true'] at h
theorem DC.x_set {i : Nat} {a : Option AV} (h : noPar c i = true) : c.x (ρ.set i a) = c.x ρ := by
  unfold DC.x
  rw [sel_set _ _ _ _ (noPar_of h)]
theorem owns_pl : ∀ {ρ : Env} {σ : L2.St}, Paired (RepS K U H) ρ σ → ∀ p ∈ owns ρ σ, Pl H p
  | _, _, .nil, p, hp => by cases hp
  | _, _, .cons (a := a) (b := b) h t, p, hp => by
    rcases List.mem_append.mp hp with hp | hp
    · cases a with
      | none => cases hp
      | some av =>
        cases b with
        | none => cases hp
        | some v => exact own_pl av v h p hp
    · exact owns_pl t p hp
theorem owns_some {ρ : Env} {σ : L2.St} (h : Paired (RepS K U H) ρ σ) (p : Addr) (hp : p ∈ owns ρ σ) : H p ≠ none := (owns_pl h p hp).ne
theorem DI.pl (h : DI c U H σ ρ) : ∀ p ∈ owns ρ σ, Pl H p := owns_pl h.rep
theorem DI.ex (h : DI c U H σ ρ) : ∀ p ∈ owns ρ σ, H p ≠ none := owns_some h.rep
theorem DI.tbs (h : DI c U H σ ρ) : TbOk c.tb U H := h.ko.tb.gr h.gr
theorem DI.ne (h : DI c U H σ ρ) {q : Addr} (n : H q = none) : ∀ p ∈ owns ρ σ, p ≠ q := fun p hp z => by
  subst z
  exact h.ex p hp n
theorem keep_at {M : List Addr} (g : Gr M U H U' H') {p : Addr} (n : Pl H p) (m : p ∉ M) : H' p = H p := g.at m n
theorem RepA.gr {av : AV} {v : V} (g : Gr [] U H U' H') (nu : ∀ p ∈ own av v, U p = none) (h : RepA K U H av v) : RepA K U' H' av v :=
  RepA.keep g.vv av v (fun p hp => ⟨keep_at g (own_pl av v h p hp) (by simp), g.fr p (nu p hp) (own_some av v h p hp)⟩) h
/-- the slots' things stand on where their own places do -/
theorem reps_keep (s : Same U U') : ∀ {ρ : Env} {σ : L2.St}, (∀ p ∈ owns ρ σ, H' p = H p ∧ U' p = none) → Paired (RepS K U H) ρ σ → Paired (RepS K U' H') ρ σ
  | _, _, _, .nil => .nil
  | x :: _, y :: _, n, .cons h t => by
    refine .cons ?_ (reps_keep s (fun p hp => n p (List.mem_append_right _ hp)) t)
    cases x with
    | none => trivial
    | some av =>
      cases y with
      | none => exact h.elim
      | some v => exact RepA.keep s av v (fun p hp => n p (List.mem_append_left _ hp)) h
theorem DI.grow (h : DI c U H σ ρ) (g : Gr [] U H U' H') : DI c U' H' σ ρ :=
  have u : ∀ p ∈ owns ρ σ, U' p = none := fun p hp => g.fr p (h.out p hp).1 (h.ex p hp)
  ⟨h.gr.trans g.any, reps_keep g.vv (fun p hp => ⟨keep_at g (h.pl p hp) (by simp), u p hp⟩) h.rep, h.nd, fun p hp => ⟨u p hp, (h.out p hp).2⟩, h.par, h.ko, h.ow, h.on⟩
theorem rep_at : ∀ {ρ : Env} {σ : L2.St}, Paired (RepS K U H) ρ σ → ∀ (i : Nat) (av : AV), ρ[i]? = some (some av) → ∃ v, σ[i]? = some (some v) ∧ RepA K U H av v ∧ ∀ p ∈ own av v, p ∈ owns ρ σ
  | _, _, .nil, i, av, e => by simp at e
  | _, _, .cons (a := a) (b := b) h t, 0, av, e => by
    have e' := Option.some.inj e
    subst e'
    cases b with
    | none => exact h.elim
    | some v => exact ⟨v, rfl, h, fun p hp => List.mem_append_left _ hp⟩
  | _, _, .cons (a := a) (b := b) h t, i + 1, av, e => by
    obtain ⟨v, h1, h2, h3⟩ := rep_at t i av e
    exact ⟨v, h1, h2, fun p hp => List.mem_append_right _ (h3 p hp)⟩
theorem mem_owns : ∀ {ρ : Env} {σ : L2.St} {i : Nat} {av : AV} {v : V}, ρ[i]? = some (some av) → σ[i]? = some (some v) → ∀ p ∈ own av v, p ∈ owns ρ σ
  | [], _, i, av, v, h, k, p, hp => by simp at h
  | _ :: _, [], i, av, v, h, k, p, hp => by simp at k
  | x :: ρ, y :: σ, 0, av, v, h, k, p, hp => by
    have h' := Option.some.inj h
    have k' := Option.some.inj k
    subst h' k'
    exact List.mem_append_left _ hp
  | x :: ρ, y :: σ, i + 1, av, v, h, k, p, hp => List.mem_append_right _ (mem_owns (ρ := ρ) (σ := σ) h k p hp)
theorem owns_set_sub : ∀ (ρ : Env) (σ : L2.St) (i : Nat) (a : Option AV) (v : Option V), ownS a v = [] → (owns (ρ.set i a) (σ.set i v)).Sublist (owns ρ σ)
  | [], _, _, _, _, _ => by simp [owns]
  | _ :: _, [], i, a, v, _ => by cases i <;> simp [owns]
  | b :: ρ, w :: σ, 0, a, v, h => by
    show (ownS a v ++ owns ρ σ).Sublist (ownS b w ++ owns ρ σ)
    rw [h]
    exact List.sublist_append_right _ _
  | b :: ρ, w :: σ, i + 1, a, v, h => by
    show (ownS b w ++ owns (ρ.set i a) (σ.set i v)).Sublist (ownS b w ++ owns ρ σ)
    exact List.Sublist.append_left (owns_set_sub ρ σ i a v h) _
theorem owns_set_mem : ∀ (ρ : Env) (σ : L2.St) (i : Nat) (a : Option AV) (v : Option V), ∀ p ∈ owns (ρ.set i a) (σ.set i v), p ∈ owns ρ σ ∨ p ∈ ownS a v
  | [], _, _, _, _, p, hp => by simp [owns] at hp
  | _ :: _, [], i, a, v, p, hp => by cases i <;> simp [owns] at hp
  | b :: ρ, w :: σ, 0, a, v, p, hp => by
    rcases List.mem_append.mp hp with h | h
    · exact .inr h
    · exact .inl (List.mem_append_right _ h)
  | b :: ρ, w :: σ, i + 1, a, v, p, hp => by
    rcases List.mem_append.mp hp with h | h
    · exact .inl (List.mem_append_left _ h)
    · exact (owns_set_mem ρ σ i a v p h).imp (List.mem_append_right _) id
theorem owns_set_nd : ∀ (ρ : Env) (σ : L2.St) (i : Nat) (a : Option AV) (v : Option V), (owns ρ σ).Nodup → (ownS a v).Nodup → (∀ p ∈ ownS a v, p ∉ owns ρ σ) → (owns (ρ.set i a) (σ.set i v)).Nodup
  | [], _, _, _, _, _, _, _ => by simp [owns]
  | _ :: _, [], i, a, v, _, _, _ => by cases i <;> simp [owns]
  | b :: ρ, w :: σ, 0, a, v, h, k, n => by
    show (ownS a v ++ owns ρ σ).Nodup
    refine List.nodup_append.mpr ⟨k, (List.nodup_append.mp h).2.1, fun x hx y hy z => ?_⟩
    subst z
    exact n x hx (List.mem_append_right _ hy)
  | b :: ρ, w :: σ, i + 1, a, v, h, k, n => by
    show (ownS b w ++ owns (ρ.set i a) (σ.set i v)).Nodup
    obtain ⟨h1, h2, h3⟩ := List.nodup_append.mp h
    refine List.nodup_append.mpr ⟨h1, owns_set_nd ρ σ i a v h2 k fun p hp q => n p hp (List.mem_append_right _ q), fun x hx y hy z => ?_⟩
    subst z
    rcases owns_set_mem ρ σ i a v x hy with q | q
    · exact h3 x hx x q rfl
    · exact n x q (List.mem_append_left _ hx)
/-- what the marked parameters hold -/
theorem sel_owns : ∀ (ks : List Bool) (ρ : Env) (σ : L2.St) (avs : List AV) (vs : List V), Paired (RepS K U H) ρ σ → selM ks ρ = avs.map some → selM ks σ = vs.map some → RepAs K U H avs vs ∧ (ownAs avs vs).Sublist (owns ρ σ)
  | [], ρ, σ, avs, vs, _, e1, e2 => by
    have a1 : avs = [] := by cases avs with
      | nil => rfl
      | cons a as => cases ρ <;> cases e1
    have a2 : vs = [] := by cases vs with
      | nil => rfl
      | cons a as => cases σ <;> cases e2
    subst a1 a2
    exact ⟨rfl, List.nil_sublist _⟩
  | k :: ks, _, _, avs, vs, .nil, e1, e2 => by
    have a1 : avs = [] := by cases avs with
      | nil => rfl
      | cons a as => cases k <;> cases e1
    have a2 : vs = [] := by cases vs with
      | nil => rfl
      | cons a as => cases k <;> cases e2
    subst a1 a2
    exact ⟨rfl, List.nil_sublist _⟩
  | true :: ks, x :: ρ, y :: σ, avs, vs, .cons h t, e1, e2 => by
    cases avs with
    | nil => cases e1
    | cons a avs =>
      cases vs with
      | nil => cases e2
      | cons v vs =>
        have f1 := List.cons.inj e1
        have f2 := List.cons.inj e2
        obtain ⟨g1, g2⟩ := f1
        obtain ⟨g3, g4⟩ := f2
        subst g1 g3
        obtain ⟨k1, k2⟩ := sel_owns ks ρ σ avs vs t g2 g4
        exact ⟨⟨v, vs, rfl, h, k1⟩, List.Sublist.append_left k2 _⟩
  | false :: ks, x :: ρ, y :: σ, avs, vs, .cons h t, e1, e2 => by
    obtain ⟨k1, k2⟩ := sel_owns ks ρ σ avs vs t e1 e2
    exact ⟨k1, k2.trans (List.sublist_append_right _ _)⟩
theorem sel_per {H0 : Hp} : ∀ (ks : List Bool) (ρ : Env) (σ : L2.St) (O : List (List Addr)) (avs : List AV) (vs : List V), ρ.length = σ.length → O.length = σ.length → (∀ (i : Nat) (av : AV) (v : V), ρ[i]? = some (some av) → σ[i]? = some (some v) → ∀ p ∈ own av v, p ∈ O.getD i [] ∨ H0 p = none) → selM ks ρ = avs.map some → selM ks σ = vs.map some → PerO H0 avs vs (selM ks O)
  | [], ρ, σ, O, avs, vs, _, _, _, e1, e2 => by
    have a1 : avs = [] := by cases avs with
      | nil => rfl
      | cons a as => cases ρ <;> cases e1
    have a2 : vs = [] := by cases vs with
      | nil => rfl
      | cons a as => cases σ <;> cases e2
    subst a1 a2
    exact trivial
  | k :: ks, [], [], O, avs, vs, _, _, _, e1, e2 => by
    have a1 : avs = [] := by cases avs with
      | nil => rfl
      | cons a as => cases k <;> cases e1
    have a2 : vs = [] := by cases vs with
      | nil => rfl
      | cons a as => cases k <;> cases e2
    subst a1 a2
    exact trivial
  | true :: ks, x :: ρ, y :: σ, [], avs, vs, _, lo, _, e1, e2 => by cases lo
  | false :: ks, x :: ρ, y :: σ, [], avs, vs, _, lo, _, e1, e2 => by cases lo
  | true :: ks, x :: ρ, y :: σ, o :: O, avs, vs, l1, lo, h, e1, e2 => by
    cases avs with
    | nil => cases e1
    | cons a avs =>
      cases vs with
      | nil => cases e2
      | cons v vs =>
        obtain ⟨g1, g2⟩ := List.cons.inj e1
        obtain ⟨g3, g4⟩ := List.cons.inj e2
        subst g1 g3
        exact ⟨fun p hp => h 0 a v rfl rfl p hp, sel_per ks ρ σ O avs vs (Nat.succ.inj l1) (Nat.succ.inj lo) (fun i av w f1 f2 => h (i + 1) av w f1 f2) g2 g4⟩
  | false :: ks, x :: ρ, y :: σ, o :: O, avs, vs, l1, lo, h, e1, e2 => sel_per ks ρ σ O avs vs (Nat.succ.inj l1) (Nat.succ.inj lo) (fun i av w f1 f2 => h (i + 1) av w f1 f2) e1 e2
theorem DI.pars (h : DI c U H σ ρ) : ParRep c U H (selM c.ks ρ) := by
  obtain ⟨e1, avs, e2, e3⟩ := h.par
  obtain ⟨k1, k2⟩ := sel_owns c.ks ρ σ avs c.pv h.rep e2 e1
  exact ⟨avs, e2, k1, e3, k2.nodup h.nd, fun p hp => (h.out p (k2.mem hp)).1, sel_per c.ks ρ σ c.O avs c.pv h.rep.length h.on.1 h.ow e2 e1⟩
theorem DI.raise {x : Exn} {cls : Value} {o : Option Addr} (h : DI c U H σ ρ) (xr : XRep c.K U H x cls o) (z : c.x ρ x) : c.E σ cls o H := h.ko.x U H σ _ x cls o h.par.1 h.on.1.symm h.gr h.pars xr z
theorem par_set {ρ' : Env} {σ' : L2.St} (e1 : selM c.ks σ' = selM c.ks σ) (e2 : selM c.ks ρ' = selM c.ks ρ) (h : selM c.ks σ = c.pv.map some ∧ ∃ avs : List AV, selM c.ks ρ = avs.map some ∧ avs.map AV.kind = c.pk) :
    selM c.ks σ' = c.pv.map some ∧ ∃ avs : List AV, selM c.ks ρ' = avs.map some ∧ avs.map AV.kind = c.pk := by rw [e1, e2]; exact h
/-- a slot is written: with what never changes -/
theorem DI.setF (h : DI c U H σ ρ) {i : Nat} {d : D} {v : V} (r : R c.K U d v) (hi : noPar c i = true) : DI c U H (σ.set i (some v)) (ρ.set i (some (.fz d))) := by
  have hn := noPar_of hi
  refine ⟨h.gr, Paired.setAt (F := RepS c.K U H) (show RepS c.K U H (some (.fz d)) (some v) from r) i h.rep, (owns_set_sub ρ σ i _ _ rfl).nodup h.nd, fun p hp => h.out p ((owns_set_sub ρ σ i _ _ rfl).mem hp), par_set (sel_set _ _ _ _ hn) (sel_set _ _ _ _ hn) h.par, h.ko, fun k av w e1 e2 p hp => ?_, by rw [List.length_set]; exact h.on⟩
  by_cases z : i = k
  · subst z
    rw [List.getElem?_set] at e1
    simp at e1
    rw [← e1.2] at hp
    cases hp
  · rw [List.getElem?_set_ne z] at e1 e2
    exact h.ow k av w e1 e2 p hp
/-- with a new thing of one's own -/
theorem DI.setO (h : DI c U H σ ρ) {i : Nat} {av : AV} {v : V} (r : RepA c.K U H av v) (ndo : (own av v).Nodup) (n : ∀ p ∈ own av v, U p = none ∧ c.H0 p = none ∧ p ∉ owns ρ σ) (hi : noPar c i = true) : DI c U H (σ.set i (some v)) (ρ.set i (some av)) := by
  have hn := noPar_of hi
  refine ⟨h.gr, Paired.setAt (F := RepS c.K U H) (show RepS c.K U H (some av) (some v) from r) i h.rep, owns_set_nd ρ σ i (some av) (some v) h.nd ndo fun p hp => (n p hp).2.2, fun p hp => ?_, par_set (sel_set _ _ _ _ hn) (sel_set _ _ _ _ hn) h.par, h.ko, fun k av' w e1 e2 p hp => ?_, by rw [List.length_set]; exact h.on⟩
  · rcases owns_set_mem ρ σ i (some av) (some v) p hp with q | q
    · exact h.out p q
    · exact ⟨(n p q).1, .inr (n p q).2.1⟩
  · by_cases z : i = k
    · subst z
      rw [List.getElem?_set] at e1 e2
      simp at e1 e2
      rw [← e1.2, ← e2.2] at hp
      exact .inr (n p hp).2.1
    · rw [List.getElem?_set_ne z] at e1 e2
      exact h.ow k av' w e1 e2 p hp
end
abbrev AE := Env → (D → Prop) → (Exn → Prop) → Prop
abbrev AO := Env → (AV → Prop) → (Exn → Prop) → Prop
abbrev AT := Env → (Bool → Prop) → (Exn → Prop) → Prop
abbrev AL := Env → (List D → Prop) → (Exn → Prop) → Prop
inductive Arg where
  | val (d : D) | slot (i : Nat)
abbrev AA := Env → (List Arg → Prop) → (Exn → Prop) → Prop
structure AEnds where
  nx : Env → Prop
  rt : AV → Env → Prop
  bk : Env → Prop
  ct : Env → Prop
  ex : Exn → Env → Prop
abbrev AS := AEnds → Env → Prop
def drS : Option AV → Option V → List Addr
  | some .dr, some (.ref p) => [p]
  | _, _ => []
def drs : Env → L2.St → List Addr
  | a :: ρ, v :: σ => drS a v ++ drs ρ σ
  | _, _ => []
theorem drs_sub : ∀ {ρ : Env} {σ : L2.St}, ∀ p ∈ drs ρ σ, p ∈ owns ρ σ
  | [], _, p, hp => by simp [drs] at hp
  | _ :: _, [], p, hp => by simp [drs] at hp
  | a :: ρ, v :: σ, p, hp => by
    rcases List.mem_append.mp hp with h | h
    · refine List.mem_append_left _ ?_
      unfold drS at h
      split at h
      · exact h
      · cases h
    · exact List.mem_append_right _ (drs_sub p h)
/-- a slot's thing that stands now, or what never changes -/
inductive Within : AV → V → AV → V → Prop
  | here {a : AV} {v : V} : Within a v a v
  | on {ws : List V} {as : List AV} {v : V} {k : Nat} {a b : AV} {w u : V} : as[k]? = some a → ws[k]? = some w → Within a w b u → Within (.on ws as) v b u
  | ob {C dx : Addr} {ns : List Str} {ws : List V} {as : List AV} {v : V} {k : Nat} {a b : AV} {w u : V} : as[k]? = some a → ws[k]? = some w → Within a w b u → Within (.ob C dx ns ws as) v b u
  | ut {ws : List V} {as : List AV} {v : V} {k : Nat} {a b : AV} {w u : V} : as[k]? = some a → ws[k]? = some w → Within a w b u → Within (.ut ws as) v b u
theorem RepAs.at {K : PySem.W.Frag} {U H : Hp} : ∀ {as : List AV} {vs : List V}, RepAs K U H as vs → ∀ (k : Nat) (a : AV) (v : V), as[k]? = some a → vs[k]? = some v → RepA K U H a v
  | [], _, _, k, a, v, e, _ => by simp at e
  | b :: as, _, ⟨w, r, e1, h1, h2⟩, 0, a, v, e, f => by
    subst e1
    cases e
    cases f
    exact h1
  | b :: as, _, ⟨w, r, e1, h1, h2⟩, k + 1, a, v, e, f => by
    subst e1
    exact RepAs.at h2 k a v e f
theorem Within.rep {K : PySem.W.Frag} {U H : Hp} {a b : AV} {v w : V} (h : Within a v b w) : RepA K U H a v → RepA K U H b w := by
  induction h with
  | here => exact id
  | on h1 h2 _ ih => exact fun ⟨p, _, _, k⟩ => ih (RepAs.at k _ _ _ h1 h2)
  | ob h1 h2 _ ih => exact fun ⟨p, _, _, _, k⟩ => ih (RepAs.at k _ _ _ h1 h2)
  | ut h1 h2 _ ih => exact fun ⟨p, _, _, k⟩ => ih (RepAs.at k _ _ _ h1 h2)
theorem ownAs_at : ∀ {as : List AV} {vs : List V} {k : Nat} {a : AV} {v : V}, as[k]? = some a → vs[k]? = some v → ∀ p ∈ own a v, p ∈ ownAs as vs
  | [], _, k, a, v, e, _, p, _ => by simp at e
  | _ :: _, [], k, a, v, _, e, p, _ => by simp at e
  | b :: as, w :: vs, 0, a, v, e, f, p, hp => by
    cases e
    cases f
    exact List.mem_append_left _ hp
  | b :: as, w :: vs, k + 1, a, v, e, f, p, hp => List.mem_append_right _ (ownAs_at (as := as) (vs := vs) e f p hp)
theorem Within.own {K : PySem.W.Frag} {U H : Hp} {a b : AV} {v w : V} (h : Within a v b w) : RepA K U H a v → ∀ p ∈ own b w, p ∈ SW.own a v := by
  induction h with
  | here => exact fun _ p hp => hp
  | on h1 h2 _ ih =>
    rintro ⟨q, rfl, _, k⟩ p hp
    exact List.mem_cons_of_mem _ (ownAs_at h1 h2 p (ih (RepAs.at k _ _ _ h1 h2) p hp))
  | ob h1 h2 _ ih =>
    rintro ⟨q, rfl, _, _, k⟩ p hp
    exact List.mem_cons_of_mem _ (ownAs_at h1 h2 p (ih (RepAs.at k _ _ _ h1 h2) p hp))
  | ut h1 h2 _ ih =>
    rintro ⟨q, rfl, _, k⟩ p hp
    exact ownAs_at h1 h2 p (ih (RepAs.at k _ _ _ h1 h2) p hp)
theorem Within.dr {b : AV} {v w : V} (h : Within .dr v b w) : b = .dr := by cases h; rfl
def Wk (K : PySem.W.Frag) (U : Hp) (σ : L2.St) (ρ : Env) (d : D) (v : V) : Prop := R K U d v ∨ ∃ (i : Nat) (av : AV) (v0 : V) (b : AV), ρ[i]? = some (some av) ∧ σ[i]? = some (some v0) ∧ Within av v0 b v ∧ b.sh = some d
def CR (K : PySem.W.Frag) (U H : Hp) (d : D) (v : V) : Prop := ∃ av : AV, RepA K U H av v ∧ av.sh = some d
section
variable {K : PySem.W.Frag} {c : DC} {U H U' H' : Hp} {σ : L2.St} {ρ : Env} {d : D} {v : V}
theorem CR.of (h : R K U d v) : CR K U H d v := ⟨.fz d, h, rfl⟩
theorem Wk.cr (h : Wk c.K U σ ρ d v) (i : DI c U H σ ρ) : CR c.K U H d v := by
  rcases h with h | ⟨k, av, v0, b, h1, h2, h4, h3⟩
  · exact .of h
  · obtain ⟨w, e1, e2, _⟩ := rep_at i.rep k av h1
    rw [h2] at e1
    have e := Option.some.inj (Option.some.inj e1)
    subst e
    exact ⟨b, h4.rep e2, h3⟩
theorem Wk.mono (e : Same U U') (h : Wk K U σ ρ d v) : Wk K U' σ ρ d v := h.imp (R.mono e d v) id
theorem CR.int {i : Int} (h : CR K U H (.int i) v) : v = .int i := by
  obtain ⟨av, h1, h2⟩ := h
  cases av <;> first | (cases h2; exact h1) | cases h2
theorem CR.bl {b : Bool} (h : CR K U H (.bl b) v) : v = .bl b := by
  obtain ⟨av, h1, h2⟩ := h
  cases av <;> first | (cases h2; exact h1) | cases h2
theorem CR.str {x : Str} (h : CR K U H (.str x) v) : v = .str x := by
  obtain ⟨av, h1, h2⟩ := h
  cases av <;> first | (cases h2; exact h1) | cases h2
theorem CR.non (h : CR K U H .non v) : v = .non := by
  obtain ⟨av, h1, h2⟩ := h
  cases av <;> first | (cases h2; exact h1) | cases h2
theorem CR.ty {n : String} (h : CR K U H (.ty n) v) : v = .ty n := by
  obtain ⟨av, h1, h2⟩ := h
  cases av <;> first | (cases h2; exact h1) | cases h2
theorem CR.adr {a : Addr} (h : CR K U H (.adr a) v) : v = .ref a := by
  obtain ⟨av, h1, h2⟩ := h
  cases av <;> first | (cases h2; exact h1) | cases h2
theorem CR.exn {a C : Addr} {o : Option Addr} {ns : List Str} {ds : List D} (h : CR K U H (.exn a C o ns ds) v) : v = .ref a := by
  obtain ⟨av, h1, h2⟩ := h
  cases av <;> first | (cases h2; exact h1.1) | cases h2
theorem CR.tupR {ds : List D} (h : CR K U H (.tup ds) v) : R K U (.tup ds) v := by
  obtain ⟨av, h1, h2⟩ := h
  cases av <;> cases h2
  · exact h1
  · obtain ⟨p, e1, e2, e3⟩ := h1
    exact ⟨p, _, e1, e2, seens_r e3⟩
theorem CR.tup {ds : List D} (h : CR K U H (.tup ds) v) (s : Same U H) : ∃ a xs, v = .ref a ∧ SqT K H a xs ∧ Rs K U ds xs := by
  obtain ⟨a, xs, e1, e2, e3⟩ := h.tupR
  exact ⟨a, xs, e1, Same.tup s e2, e3⟩
theorem CR.lst {ds : List D} (h : CR K U H (.lst ds) v) (s : Same U H) : ∃ a xs, v = .ref a ∧ H a = some (.lst xs) ∧ Rs K U ds xs := by
  obtain ⟨av, h1, h2⟩ := h
  cases av <;> cases h2
  · obtain ⟨a, xs, e1, e2, e3⟩ := h1
    exact ⟨a, xs, e1, s _ _ e2, e3⟩
  · obtain ⟨a, xs, e1, e2, e3⟩ := h1
    exact ⟨a, xs, e1, e2, e3⟩
  · obtain ⟨a, e1, e2, e3⟩ := h1
    exact ⟨a, _, e1, e2, seens_r e3⟩
theorem CR.dK {ks : List Key} {ds : List D} (h : CR K U H (.dK ks ds) v) (s : Same U H) : ∃ a xs, v = .ref a ∧ H a = some (.dK (ks.zip xs)) ∧ ks.length = xs.length ∧ Rs K U ds xs := by
  obtain ⟨av, h1, h2⟩ := h
  cases av <;> cases h2
  · obtain ⟨a, xs, e1, e2, e3⟩ := h1
    exact ⟨a, xs, e1, s _ _ e2, e3⟩
  · obtain ⟨a, xs, e1, e2, e3⟩ := h1
    exact ⟨a, xs, e1, e2, e3⟩
theorem CR.dT {ks : List (List Key)} {ds : List D} (h : CR K U H (.dT ks ds) v) (s : Same U H) : ∃ a xs, v = .ref a ∧ H a = some (.dT (ks.zip xs)) ∧ ks.length = xs.length ∧ Rs K U ds xs := by
  obtain ⟨av, h1, h2⟩ := h
  cases av <;> cases h2
  · obtain ⟨a, xs, e1, e2, e3⟩ := h1
    exact ⟨a, xs, e1, s _ _ e2, e3⟩
  · obtain ⟨a, xs, e1, e2, e3⟩ := h1
    exact ⟨a, xs, e1, e2, e3⟩
theorem CR.obj {C : Addr} {ns : List Str} {ds : List D} (h : CR K U H (.obj C ns ds) v) (s : Same U H) : ∃ a dx xs, v = .ref a ∧ H a = some (.ins C dx (ns.zip xs)) ∧ ns.length = xs.length ∧ Rs K U ds xs := by
  obtain ⟨av, h1, h2⟩ := h
  cases av <;> cases h2
  · obtain ⟨a, dx, xs, e1, e2, e3⟩ := h1
    exact ⟨a, dx, xs, e1, s _ _ e2, e3⟩
  · obtain ⟨a, e1, e2, e3, e4⟩ := h1
    exact ⟨a, _, _, e1, e2, e3, seens_r e4⟩
end
/-- a new thing of one's own -/
structure Fresh (U' H : Hp) (av : AV) (v : V) : Prop where
  nd : (own av v).Nodup
  out : ∀ p ∈ own av v, U' p = none ∧ H p = none
theorem Fresh.back {U' H H1 : Hp} {av : AV} {v : V} (f : Fresh U' H1 av v) (h : ∀ p, H1 p = none → H p = none) : Fresh U' H av v := ⟨f.nd, fun p hp => ⟨(f.out p hp).1, h p (f.out p hp).2⟩⟩
theorem Fresh.one {U' H : Hp} {av : AV} {p : Addr} (e : own av (.ref p) = [p]) (h1 : U' p = none) (h2 : H p = none) : Fresh U' H av (.ref p) := ⟨by rw [e]; simp, fun q hq => by rw [e] at hq; rw [List.mem_singleton.mp hq]; exact ⟨h1, h2⟩⟩
theorem Fresh.fz {U' H : Hp} {d : D} {v : V} : Fresh U' H (.fz d) v := ⟨by cases v <;> exact List.nodup_nil, fun p hp => by cases v <;> cases hp⟩
def SimE (c : DC) (t : TE) (e : AE) : Prop := ∀ (U H : Hp) (σ : L2.St) (ρ : Env) (Q : D → Prop) (q : VK), DI c U H σ ρ → e ρ Q (c.x ρ) →
  (∀ U' H' d v, Gr (drs ρ σ) U H U' H' → DI c U' H' σ ρ → R c.K U' d v → Q d → q v H') → t σ H q
def SimW (c : DC) (t : TE) (e : AE) : Prop := ∀ (U H : Hp) (σ : L2.St) (ρ : Env) (Q : D → Prop) (q : VK), DI c U H σ ρ → e ρ Q (c.x ρ) →
  (∀ U' H' d v, Gr (drs ρ σ) U H U' H' → DI c U' H' σ ρ → Wk c.K U' σ ρ d v → Q d → q v H') → t σ H q
def SimO (c : DC) (t : TE) (e : AO) : Prop := ∀ (U H : Hp) (σ : L2.St) (ρ : Env) (Q : AV → Prop) (q : VK), DI c U H σ ρ → e ρ Q (c.x ρ) →
  (∀ U' H' av v, Gr (drs ρ σ) U H U' H' → DI c U' H' σ ρ → RepA c.K U' H' av v → Fresh U' H av v → Q av → q v H') → t σ H q
def SimT (c : DC) (t : TT) (e : AT) : Prop := ∀ (U H : Hp) (σ : L2.St) (ρ : Env) (Q : Bool → Prop) (q : Bool → Hp → Prop), DI c U H σ ρ → e ρ Q (c.x ρ) →
  (∀ U' H' b, Gr (drs ρ σ) U H U' H' → DI c U' H' σ ρ → Q b → q b H') → t σ H q
def SimL (c : DC) (t : TA) (e : AL) : Prop := ∀ (U H : Hp) (σ : L2.St) (ρ : Env) (Q : List D → Prop) (q : List V → Hp → Prop), DI c U H σ ρ → e ρ Q (c.x ρ) →
  (∀ U' H' ds vs, Gr (drs ρ σ) U H U' H' → DI c U' H' σ ρ → Rs c.K U' ds vs → Q ds → q vs H') → t σ H q
/-- arguments that are read alone -/
def SimLW (c : DC) (t : TA) (e : AL) : Prop := ∀ (U H : Hp) (σ : L2.St) (ρ : Env) (Q : List D → Prop) (q : List V → Hp → Prop), DI c U H σ ρ → e ρ Q (c.x ρ) →
  (∀ U' H' ds vs, Gr (drs ρ σ) U H U' H' → DI c U' H' σ ρ → Paired (Wk c.K U' σ ρ) ds vs → Q ds → q vs H') → t σ H q
def ArgR (K : PySem.W.Frag) (U : Hp) (σ : L2.St) : Arg → V → Prop
  | .val d, v => R K U d v
  | .slot i, v => σ[i]? = some (some v)
def SimA (c : DC) (t : TA) (e : AA) : Prop := ∀ (U H : Hp) (σ : L2.St) (ρ : Env) (Q : List Arg → Prop) (q : List V → Hp → Prop), DI c U H σ ρ → e ρ Q (c.x ρ) →
  (∀ U' H' as vs, Gr (drs ρ σ) U H U' H' → DI c U' H' σ ρ → Paired (ArgR c.K U' σ) as vs → Q as → q vs H') → t σ H q
structure Post (c : DC) (V : Hp) (N : AEnds) (n : L2.Ends) : Prop where
  nx : ∀ U H σ ρ, Same V U → DI c U H σ ρ → N.nx ρ → n.nx σ H
  rt : ∀ U H σ ρ av v, DI c U H σ ρ → RepA c.K U H av v → (own av v).Nodup → (∀ p ∈ own av v, U p = none ∧ c.H0 p = none ∧ p ∉ owns ρ σ) → N.rt av ρ → n.rt v H
  bk : ∀ U H σ ρ, Same V U → DI c U H σ ρ → N.bk ρ → n.bk σ H
  ct : ∀ U H σ ρ, Same V U → DI c U H σ ρ → N.ct ρ → n.ct σ H
theorem Post.mono {c : DC} {V V' : Hp} {N : AEnds} {n : L2.Ends} (s : Same V V') (P : Post c V N n) : Post c V' N n :=
  ⟨fun U H σ ρ e => P.nx U H σ ρ (s.trans e), P.rt, fun U H σ ρ e => P.bk U H σ ρ (s.trans e), fun U H σ ρ e => P.ct U H σ ρ (s.trans e)⟩
def SimS (c : DC) (t : TS) (a : AS) : Prop := ∀ (U H : Hp) (σ : L2.St) (ρ : Env) (N : AEnds) (n : L2.Ends), N.ex = (fun x ρ => c.x ρ x) → DI c U H σ ρ → a N ρ → Post c U N n → t n σ H
/-- a target: slots are written, the heap stays -/
abbrev AG := D → Env → (Env → Prop) → Prop
structure Put (js : List Nat) (σ σ' : L2.St) (ρ ρ' : Env) : Prop where
  len : σ'.length = σ.length
  at' : ∀ k, k ∉ js → σ'[k]? = σ[k]?
  dr : ∀ p ∈ drs ρ' σ', p ∈ drs ρ σ
  rat : ∀ k, k ∉ js → ρ'[k]? = ρ[k]?
  ow : ∀ p ∈ owns ρ' σ', p ∈ owns ρ σ
theorem sel_at {α : Type} : ∀ (ks : List Bool) (r r' : List α), (∀ k, ks.getD k false = true → r'[k]? = r[k]?) → selM ks r' = selM ks r
  | [], r, r', _ => by cases r <;> cases r' <;> rfl
  | true :: ks, [], [], _ => rfl
  | true :: ks, [], b :: r', h => by have := h 0 rfl; cases this
  | true :: ks, a :: r, [], h => by have := h 0 rfl; cases this
  | true :: ks, a :: r, b :: r', h => by
    have e := Option.some.inj (h 0 rfl)
    subst e
    exact congrArg (_ :: ·) (sel_at ks r r' fun k hk => h (k + 1) hk)
  | false :: ks, [], [], _ => rfl
  | false :: ks, [], b :: r', h => by
    have := sel_at ks [] r' fun k hk => by have := h (k + 1) hk; simpa using this
    show selM ks r' = []
    rw [this]
    cases ks with
    | nil => rfl
    | cons k ks => cases k <;> rfl
  | false :: ks, a :: r, [], h => by
    have := sel_at ks r [] fun k hk => by have := h (k + 1) hk; simpa using this
    show [] = selM ks r
    rw [← this]
    cases ks with
    | nil => rfl
    | cons k ks => cases k <;> rfl
  | false :: ks, a :: r, b :: r', h => sel_at ks r r' fun k hk => h (k + 1) hk
theorem Put.ex {c : DC} {js vs : List Nat} {σ σ' : L2.St} {ρ ρ' : Env} (p : Put js σ σ' ρ ρ') (hv : (vs.all fun i => noPar c i) = true) (h : ∀ j ∈ js, j ∈ vs) : c.x ρ' = c.x ρ := by
  unfold DC.x
  rw [sel_at c.ks ρ ρ' fun k hk => p.rat k fun z => by
    have := noPar_of (List.all_eq_true.mp hv k (h k z))
    rw [this] at hk
    cases hk]
def SimG (c : DC) (js : List Nat) (g : TG) (a : AG) : Prop := ∀ (U H : Hp) (σ : L2.St) (ρ : Env) (d : D) (v : V) (Q : Env → Prop) (q : L2.St → Hp → Prop), DI c U H σ ρ → R c.K U d v → a d ρ Q →
  (∀ σ' ρ', DI c U H σ' ρ' → Put js σ σ' ρ ρ' → Q ρ' → q σ' H) → g v σ H q
/-- what is walked: the items -/
def Walks (K : PySem.W.Frag) (U : Hp) (J : It) (ds : List D) (G : Hp → Prop) : Prop := ∃ Y, Walk J ds.length G Y ∧ ∀ (i : Nat) (H : Hp) (x : V) (H' : Hp) (d : D) (U2 : Hp), Same U U2 → Same U2 H → Y i H x H' → ds[i]? = some d → ∃ U3, Gr [] U2 H U3 H' ∧ R K U3 d x
def SimI (c : DC) (wi : TI) (a : AL) : Prop := ∀ (U H : Hp) (σ : L2.St) (ρ : Env) (Q : List D → Prop) (q : It → Hp → Prop), DI c U H σ ρ → a ρ Q (c.x ρ) →
  (∀ U' H' J ds, Gr (drs ρ σ) U H U' H' → DI c U' H' σ ρ → Walks c.K U' J ds (fun H'' => Same U' H'') → Q ds → q J H') → wi σ H q
def SimIW (c : DC) (wi : TI) (a : AL) : Prop := ∀ (U H : Hp) (σ : L2.St) (ρ : Env) (Q : List D → Prop) (q : It → Hp → Prop), DI c U H σ ρ → a ρ Q (c.x ρ) →
  (∀ U' H' J ds, Gr (drs ρ σ) U H U' H' → DI c U' H' σ ρ → Walks c.K U' J ds (fun H'' => ∃ U'', Gr (drs ρ σ) U' H' U'' H'') → Q ds → q J H') → wi σ H q
end SW
namespace SW
open PySem PySem.Spec PyProof.Rows L2
variable [QN]
section
variable {c : DC} {U H U' H' : Hp} {σ : L2.St} {ρ : Env} {t u ta tb tc : TE} {e a b : AE} {i j : Nat} {d : D} {v : V}
theorem SimE.w (h : SimE c t e) : SimW c t e := fun U H σ ρ Q q I he k => h U H σ ρ Q q I he fun U' H' d v g I' r z => k U' H' d v g I' (.inl r) z
def aVar (i : Nat) : AE := fun ρ Q _ => match ρ[i]? with
  | some (some (.fz d)) => Q d
  | _ => False
theorem sim_var : SimE c (tVar i) (aVar i) := fun U H σ ρ Q q I h k => by
  unfold aVar at h
  split at h
  · rename_i d e
    obtain ⟨v, e1, r, _⟩ := rep_at I.rep i _ e
    exact ⟨v, e1, k U H d v (Gr.refl I.vh) I r h⟩
  · exact h.elim
def aVarW (i : Nat) : AE := fun ρ Q _ => match ρ[i]? with
  | some (some (.fz d)) => Q d
  | some (some (.ol ds)) => Q (.lst ds)
  | some (some (.ok ks ds)) => Q (.dK ks ds)
  | some (some (.ot ks ds)) => Q (.dT ks ds)
  | some (some (.on ws as)) => Q (.lst (seens as ws))
  | some (some (.ut ws as)) => Q (.tup (seens as ws))
  | some (some (.ob C _ ns ws as)) => Q (.obj C ns (seens as ws))
  | _ => False
theorem sim_varW : SimW c (tVar i) (aVarW i) := fun U H σ ρ Q q I h k => by
  have go : ∀ (av : AV) (d : D), ρ[i]? = some (some av) → av.sh = some d → Q d → tVar i σ H q := fun av d e f z => by
    obtain ⟨v, e1, r, _⟩ := rep_at I.rep i _ e
    exact ⟨v, e1, k U H d v (Gr.refl I.vh) I (.inr ⟨i, av, v, av, e, e1, .here, f⟩) z⟩
  unfold aVarW at h
  split at h
  · exact go _ _ (by assumption) rfl h
  · exact go _ _ (by assumption) rfl h
  · exact go _ _ (by assumption) rfl h
  · exact go _ _ (by assumption) rfl h
  · exact go _ _ (by assumption) rfl h
  · exact go _ _ (by assumption) rfl h
  · exact go _ _ (by assumption) rfl h
  · exact h.elim
def aC (d : D) : AE := fun _ Q _ => Q d
theorem sim_c (h : ∀ U, R c.K U d v) : SimE c (tC v) (aC d) := fun U H σ ρ Q q I z k => k U H d v (Gr.refl I.vh) I (h U) z
theorem sim_int {n : Int} : SimE c (tC (.int n)) (aC (.int n)) := sim_c fun _ => rfl
theorem sim_bl {n : Bool} : SimE c (tC (.bl n)) (aC (.bl n)) := sim_c fun _ => rfl
theorem sim_str {n : Str} : SimE c (tC (.str n)) (aC (.str n)) := sim_c fun _ => rfl
theorem sim_ty {n : String} : SimE c (tC (.ty n)) (aC (.ty n)) := sim_c fun _ => rfl
/-- an operator on what is read -/
def OpD (K : PySem.W.Frag) (r : R2) (f : D → D → (D → Prop) → Prop) : Prop := ∀ (U H : Hp) (v w : V) (d e : D) (Q : D → Prop) (q : VK), Same U H → CR K U H d v → CR K U H e w → f d e Q →
  (∀ U' H' z u, Gr [] U H U' H' → R K U' z u → Q z → q u H') → r v w H q
def UnD (K : PySem.W.Frag) (r : V → Hp → VK → Prop) (f : D → (D → Prop) → Prop) : Prop := ∀ (U H : Hp) (v : V) (d : D) (Q : D → Prop) (q : VK), Same U H → CR K U H d v → f d Q →
  (∀ U' H' z u, Gr [] U H U' H' → R K U' z u → Q z → q u H') → r v H q
def BuD (K : PySem.W.Frag) (r : List V → Hp → VK → Prop) (f : List D → (D → Prop) → Prop) : Prop := ∀ (U H : Hp) (vs : List V) (ds : List D) (Q : D → Prop) (q : VK), Same U H → Paired (CR K U H) ds vs → f ds Q →
  (∀ U' H' z u, Gr [] U H U' H' → R K U' z u → Q z → q u H') → r vs H q
/-- the same with a new thing of one's own -/
def OpO (K : PySem.W.Frag) (r : R2) (f : D → D → (AV → Prop) → Prop) : Prop := ∀ (U H : Hp) (v w : V) (d e : D) (Q : AV → Prop) (q : VK), Same U H → CR K U H d v → CR K U H e w → f d e Q →
  (∀ U' H' av u, Gr [] U H U' H' → RepA K U' H' av u → Fresh U' H av u → Q av → q u H') → r v w H q
def BuO (K : PySem.W.Frag) (r : List V → Hp → VK → Prop) (f : List D → (AV → Prop) → Prop) : Prop := ∀ (U H : Hp) (vs : List V) (ds : List D) (Q : AV → Prop) (q : VK), Same U H → Paired (CR K U H) ds vs → f ds Q →
  (∀ U' H' av u, Gr [] U H U' H' → RepA K U' H' av u → Fresh U' H av u → Q av → q u H') → r vs H q
def aOp (f : D → D → (D → Prop) → Prop) (a b : AE) : AE := fun ρ Q X => a ρ (fun d => b ρ (fun e => f d e Q) X) X
def aOpO (f : D → D → (AV → Prop) → Prop) (a b : AE) : AO := fun ρ Q X => a ρ (fun d => b ρ (fun e => f d e Q) X) X
def aUn (f : D → (D → Prop) → Prop) (a : AE) : AE := fun ρ Q X => a ρ (fun d => f d Q) X
theorem sim_op {r : R2} {f : D → D → (D → Prop) → Prop} (h : OpD c.K r f) (ha : SimW c ta a) (hb : SimW c tb b) : SimE c (tOp r ta tb) (aOp f a b) := fun U H σ ρ Q q I z k =>
  ha U H σ ρ _ _ I z fun U1 H1 d v g1 I1 w1 z1 => hb U1 H1 σ ρ _ _ I1 z1 fun U2 H2 e w g2 I2 w2 z2 =>
    h U2 H2 v w d e Q q I2.vh ((w1.mono g2.vv).cr I2) (w2.cr I2) z2 fun U3 H3 y u' g3 r3 z3 => k U3 H3 y u' ((g1.trans g2).trans g3.any) (I2.grow g3) r3 z3
theorem sim_opO {r : R2} {f : D → D → (AV → Prop) → Prop} (h : OpO c.K r f) (ha : SimW c ta a) (hb : SimW c tb b) : SimO c (tOp r ta tb) (aOpO f a b) := fun U H σ ρ Q q I z k =>
  ha U H σ ρ _ _ I z fun U1 H1 d v g1 I1 w1 z1 => hb U1 H1 σ ρ _ _ I1 z1 fun U2 H2 e w g2 I2 w2 z2 =>
    h U2 H2 v w d e Q q I2.vh ((w1.mono g2.vv).cr I2) (w2.cr I2) z2 fun U3 H3 y u' g3 r3 n3 z3 => k U3 H3 y u' ((g1.trans g2).trans g3.any) (I2.grow g3) r3 (n3.back fun _ h => (g1.trans g2).fresh h) z3
theorem sim_un {r : V → Hp → VK → Prop} {f : D → (D → Prop) → Prop} (h : UnD c.K r f) (ha : SimW c ta a) : SimE c (tUn r ta) (aUn f a) := fun U H σ ρ Q q I z k =>
  ha U H σ ρ _ _ I z fun U1 H1 d v g1 I1 w1 z1 => h U1 H1 v d Q q I1.vh (w1.cr I1) z1 fun U3 H3 y u' g3 r3 z3 => k U3 H3 y u' (g1.trans g3.any) (I1.grow g3) r3 z3
def aNil : AL := fun _ Q _ => Q []
def aCons (a : AE) (r : AL) : AL := fun ρ Q X => a ρ (fun d => r ρ (fun ds => Q (d :: ds)) X) X
theorem sim_nil : SimL c tNil aNil := fun U H σ ρ Q q I z k => k U H [] [] (Gr.refl I.vh) I rfl z
theorem sim_cons {tr : TA} {r : AL} (ha : SimE c ta a) (hr : SimL c tr r) : SimL c (tCons ta tr) (aCons a r) := fun U H σ ρ Q q I z k =>
  ha U H σ ρ _ _ I z fun U1 H1 d v g1 I1 r1 z1 => hr U1 H1 σ ρ _ _ I1 z1 fun U2 H2 ds vs g2 I2 r2 z2 => k U2 H2 (d :: ds) (v :: vs) (g1.trans g2) I2 ⟨v, vs, rfl, R.mono g2.vv d v r1, r2⟩ z2
theorem sim_nilW : SimLW c tNil aNil := fun U H σ ρ Q q I z k => k U H [] [] (Gr.refl I.vh) I .nil z
theorem sim_consW {tr : TA} {r : AL} (ha : SimW c ta a) (hr : SimLW c tr r) : SimLW c (tCons ta tr) (aCons a r) := fun U H σ ρ Q q I z k =>
  ha U H σ ρ _ _ I z fun U1 H1 d v g1 I1 r1 z1 => hr U1 H1 σ ρ _ _ I1 z1 fun U2 H2 ds vs g2 I2 r2 z2 => k U2 H2 (d :: ds) (v :: vs) (g1.trans g2) I2 (.cons (r1.mono g2.vv) r2) z2
def aArg (a : AE) (r : AA) : AA := fun ρ Q X => a ρ (fun d => r ρ (fun ds => Q (.val d :: ds)) X) X
def aSlot (i : Nat) (r : AA) : AA := fun ρ Q X => match ρ[i]? with
  | some (some .dr) => r ρ (fun ds => Q (.slot i :: ds)) X
  | _ => False
def aArgs : AA := fun _ Q _ => Q []
theorem sim_args : SimA c tNil aArgs := fun U H σ ρ Q q I z k => k U H [] [] (Gr.refl I.vh) I .nil z
theorem sim_arg {tr : TA} {r : AA} (ha : SimE c ta a) (hr : SimA c tr r) : SimA c (tCons ta tr) (aArg a r) := fun U H σ ρ Q q I z k =>
  ha U H σ ρ _ _ I z fun U1 H1 d v g1 I1 r1 z1 => hr U1 H1 σ ρ _ _ I1 z1 fun U2 H2 ds vs g2 I2 r2 z2 => k U2 H2 (.val d :: ds) (v :: vs) (g1.trans g2) I2 (.cons (R.mono g2.vv d v r1) r2) z2
theorem sim_slot {tr : TA} {r : AA} (hr : SimA c tr r) : SimA c (tCons (tVar i) tr) (aSlot i r) := fun U H σ ρ Q q I z k => by
  unfold aSlot at z
  split at z
  · rename_i e0
    obtain ⟨v, e, _⟩ := rep_at I.rep i _ e0
    exact ⟨v, e, hr U H σ ρ _ _ I z fun U2 H2 ds vs g2 I2 r2 z2 => k U2 H2 (.slot i :: ds) (v :: vs) g2 I2 (.cons e r2) z2⟩
  · exact z.elim
theorem R.tup {K : PySem.W.Frag} {p : Addr} {xs : List V} {ds : List D} (h : U p = some (.tup xs)) (r : Rs K U ds xs) : R K U (.tup ds) (.ref p) := ⟨p, xs, rfl, SqT.of h, r⟩
theorem R.lst {K : PySem.W.Frag} {p : Addr} {xs : List V} {ds : List D} (h : U p = some (.lst xs)) (r : Rs K U ds xs) : R K U (.lst ds) (.ref p) := ⟨p, xs, rfl, h, r⟩
theorem le_size {n : Nat} (h : n ≤ 1000000) : n ≤ sizeLine := Nat.le_trans h (by decide)
theorem lt_size {n : Nat} (h : n < 1000000) : n < sizeLine := Nat.lt_of_lt_of_le h (by decide)
def aTup (r : AL) : AE := fun ρ Q X => r ρ (fun ds => ds.length ≤ 1000000 ∧ Q (.tup ds)) X
theorem sim_tup {tr : TA} {r : AL} (hr : SimL c tr r) : SimE c (tTup tr) (aTup r) := fun U H σ ρ Q q I z k =>
  hr U H σ ρ _ _ I z fun U1 H1 ds vs g1 I1 r1 z1 => ⟨le_size (by rw [← r1.len]; exact z1.1), fun p np => by
    have g2 : Gr [] U1 H1 (upd U1 p (.tup vs)) (upd H1 p (.tup vs)) := (Gr.refl I1.vh).new np
    exact k _ _ (.tup ds) (.ref p) (g1.trans g2.any) (I1.grow g2) (R.tup upd_same (Rs.mono g2.vv _ _ r1)) z1.2⟩
def aLst (r : AL) : AO := fun ρ Q X => r ρ (fun ds => ds.length ≤ 1000000 ∧ Q (.ol ds)) X
theorem sim_lst {tr : TA} {r : AL} (hr : SimL c tr r) : SimO c (tLst tr) (aLst r) := fun U H σ ρ Q q I z k =>
  hr U H σ ρ _ _ I z fun U1 H1 ds vs g1 I1 r1 z1 => ⟨le_size (by rw [← r1.len]; exact z1.1), fun p np => by
    have g2 : Gr [] U1 H1 U1 (upd H1 p (.lst vs)) := (Gr.refl I1.vh).newM np
    exact k _ _ (.ol ds) (.ref p) (g1.trans g2.any) (I1.grow g2) ⟨p, vs, rfl, upd_same, r1⟩ (.one rfl (I1.vh.free np) (g1.fresh np)) z1.2⟩
def sealU (U H : Hp) (as : List Addr) : Hp := fun a => if a ∈ as then H a else U a
theorem seal_in {as : List Addr} {p : Addr} (h : p ∈ as) : sealU U H as p = H p := if_pos h
theorem seal_out {as : List Addr} {p : Addr} (h : p ∉ as) : sealU U H as p = U p := if_neg h
theorem seal_same {as : List Addr} (h : ∀ p ∈ as, U p = none) : Same U (sealU U H as) := fun a o e => by
  rw [seal_out fun z => by rw [h a z] at e; cases e]
  exact e
theorem seal_vh {as : List Addr} (s : Same U H) : Same (sealU U H as) H := fun a o e => by
  by_cases z : a ∈ as
  · rw [seal_in z] at e
    exact e
  · rw [seal_out z] at e
    exact s a o e
theorem seal_nt {as : List Addr} (n : NT U) (pl : ∀ p ∈ as, Pl H p) : NT (sealU U H as) := fun a ps e => by
  by_cases z : a ∈ as
  · rw [seal_in z] at e
    obtain ⟨o, e1, e2⟩ := pl a z
    rw [e1] at e
    exact ntb e2 ps (Option.some.inj e)
  · rw [seal_out z] at e
    exact n a ps e
theorem Gr.sealL {M : List Addr} {U0 H0 : Hp} {as : List Addr} (g : Gr M U0 H0 U H) (h : ∀ p ∈ as, U p = none ∧ H0 p = none) (pl : ∀ p ∈ as, Pl H p) : Gr M U0 H0 (sealU U H as) H :=
  ⟨g.vv.trans (seal_same fun p hp => (h p hp).1), seal_vh g.vh, g.hh, g.dom, fun a e k => by
    rw [seal_out fun z => k (h a z).2]
    exact g.fr a e k, g.tb, fun n => seal_nt (g.nt n) pl⟩
theorem DI.sealL {as : List Addr} (I : DI c U H σ ρ) (h : ∀ p ∈ as, U p = none ∧ c.H0 p = none ∧ p ∉ owns ρ σ) (pl : ∀ p ∈ as, Pl H p) : DI c (sealU U H as) H σ ρ := by
  have out : ∀ q ∈ owns ρ σ, sealU U H as q = none := fun q hq => by
    rw [seal_out fun z => (h q z).2.2 hq]
    exact (I.out q hq).1
  exact ⟨I.gr.sealL (fun p hp => ⟨(h p hp).1, (h p hp).2.1⟩) pl, reps_keep (seal_same fun p hp => (h p hp).1) (fun q hq => ⟨rfl, out q hq⟩) I.rep, I.nd, fun q hq => ⟨out q hq, (I.out q hq).2⟩, I.par, I.ko, I.ow, I.on⟩
mutual
theorem RepA.frozen {K : PySem.W.Frag} {as : List Addr} (n : ∀ p ∈ as, U p = none) : ∀ (av : AV) (v : V) (d : D), RepA K U H av v → av.frz = some d → (∀ p ∈ own av v, p ∈ as) → R K (sealU U H as) d v
  | .fz d', v, d, h, e, _ => by
    cases e
    exact R.mono (seal_same n) d' v h
  | .ol ds, _, d, ⟨p, xs, e1, h, r⟩, e, k => by
    cases e
    subst e1
    exact ⟨p, xs, rfl, by rw [seal_in (k p (List.mem_singleton.mpr rfl))]; exact h, Rs.mono (seal_same n) _ _ r⟩
  | .ok ks ds, _, d, ⟨p, xs, e1, h, l, r⟩, e, k => by
    cases e
    subst e1
    exact ⟨p, xs, rfl, by rw [seal_in (k p (List.mem_singleton.mpr rfl))]; exact h, l, Rs.mono (seal_same n) _ _ r⟩
  | .ot ks ds, _, d, ⟨p, xs, e1, h, l, r⟩, e, k => by
    cases e
    subst e1
    exact ⟨p, xs, rfl, by rw [seal_in (k p (List.mem_singleton.mpr rfl))]; exact h, l, Rs.mono (seal_same n) _ _ r⟩
  | .dr, _, d, _, e, _ => by cases e
  | .on ws bs, _, d, ⟨p, e1, h, r⟩, e, k => by
    subst e1
    unfold AV.frz at e
    cases eb : frzs bs with
    | none => rw [eb] at e; cases e
    | some ds =>
      rw [eb] at e
      cases e
      exact ⟨p, ws, rfl, by rw [seal_in (k p List.mem_cons_self)]; exact h, RepAs.frozen n bs ws ds r eb fun q hq => k q (List.mem_cons_of_mem _ hq)⟩
  | .ob C dx ns ws bs, _, d, ⟨p, e1, h, l, r⟩, e, k => by
    subst e1
    unfold AV.frz at e
    cases eb : frzs bs with
    | none => rw [eb] at e; cases e
    | some ds =>
      rw [eb] at e
      cases e
      exact ⟨p, dx, ws, rfl, by rw [seal_in (k p List.mem_cons_self)]; exact h, l, RepAs.frozen n bs ws ds r eb fun q hq => k q (List.mem_cons_of_mem _ hq)⟩
  | .ut ws bs, _, d, ⟨p, e1, h, r⟩, e, k => by
    subst e1
    unfold AV.frz at e
    cases eb : frzs bs with
    | none => rw [eb] at e; cases e
    | some ds =>
      rw [eb] at e
      cases e
      exact ⟨p, ws, rfl, Same.tup (seal_same n) h, RepAs.frozen n bs ws ds r eb k⟩
  | .un, _, d, _, e, _ => by cases e
theorem RepAs.frozen {K : PySem.W.Frag} {as : List Addr} (n : ∀ p ∈ as, U p = none) : ∀ (bs : List AV) (vs : List V) (ds : List D), RepAs K U H bs vs → frzs bs = some ds → (∀ p ∈ ownAs bs vs, p ∈ as) → Rs K (sealU U H as) ds vs
  | [], vs, ds, h, e, _ => by
    cases e
    exact h
  | b :: bs, _, ds, ⟨v, r, e1, h1, h2⟩, e, k => by
    subst e1
    unfold frzs at e
    cases ea : b.frz with
    | none => rw [ea] at e; cases e
    | some d =>
      rw [ea] at e
      cases eb : frzs bs with
      | none => rw [eb] at e; cases e
      | some es =>
        rw [eb] at e
        cases e
        exact ⟨v, r, rfl, RepA.frozen n b v d h1 ea fun q hq => k q (List.mem_append_left _ hq), RepAs.frozen n bs r es h2 eb fun q hq => k q (List.mem_append_right _ hq)⟩
end
theorem freeze {M : List Addr} {av : AV} {d : D} {V H0' : Hp} (I0 : DI c V H0' σ ρ) (g : Gr M V H0' U H) (I : DI c U H σ ρ) (r : RepA c.K U H av v) (n : Fresh U H0' av v) (f : av.frz = some d) :
    ∃ U', Gr M V H0' U' H ∧ DI c U' H σ ρ ∧ R c.K U' d v ∧ Same U U' :=
  ⟨sealU U H (own av v), g.sealL n.out (own_pl av v r), I.sealL (fun p hp => ⟨(n.out p hp).1, I0.gr.fresh (n.out p hp).2, fun z => I0.ex p z (n.out p hp).2⟩) (own_pl av v r), RepA.frozen (fun p hp => (n.out p hp).1) av v d r f fun _ h => h, seal_same fun p hp => (n.out p hp).1⟩
def frzQ (Q : D → Prop) : AV → Prop
  | .fz d => Q d
  | .ol ds => Q (.lst ds)
  | .ok ks ds => Q (.dK ks ds)
  | .ot ks ds => Q (.dT ks ds)
  | .dr => False
  | .on ws as => ∃ ds, frzs as = some ds ∧ Q (.lst ds)
  | .ob C _ ns _ as => ∃ ds, frzs as = some ds ∧ Q (.obj C ns ds)
  | .ut _ as => ∃ ds, frzs as = some ds ∧ Q (.tup ds)
  | .un => False
theorem frzQ_some {Q : D → Prop} {av : AV} (h : frzQ Q av) : ∃ d, av.frz = some d ∧ Q d := by
  cases av with
  | on ws as =>
    obtain ⟨ds, e, q⟩ := h
    exact ⟨.lst ds, by unfold AV.frz; rw [e]; rfl, q⟩
  | ob C dx ns ws as =>
    obtain ⟨ds, e, q⟩ := h
    exact ⟨.obj C ns ds, by unfold AV.frz; rw [e]; rfl, q⟩
  | ut ws as =>
    obtain ⟨ds, e, q⟩ := h
    exact ⟨.tup ds, by unfold AV.frz; rw [e]; rfl, q⟩
  | _ => first | exact ⟨_, rfl, h⟩ | exact h.elim
def aFz (e : AO) : AE := fun ρ Q X => e ρ (frzQ Q) X
theorem sim_fz {e : AO} (h : SimO c t e) : SimE c t (aFz e) := fun U H σ ρ Q q I z k =>
  h U H σ ρ _ _ I z fun U1 H1 av v g1 I1 r1 n1 z1 => by
    obtain ⟨d, f, z2⟩ := frzQ_some z1
    obtain ⟨U2, g2, I2, r2, _⟩ := freeze I g1 I1 r1 n1 f
    exact k U2 H1 d v g2 I2 r2 z2
def aUp (e : AE) : AO := fun ρ Q X => e ρ (fun d => Q (.fz d)) X
def blQ (Q : Bool → Prop) : D → Prop
  | .bl b => Q b
  | _ => False
theorem blQ_of {Q : Bool → Prop} {d : D} (h : blQ Q d) : ∃ b, d = .bl b ∧ Q b := by
  cases d <;> first | exact ⟨_, rfl, h⟩ | exact h.elim
def aTest (e : AE) : AT := fun ρ Q X => e ρ (blQ Q) X
theorem sim_test (h : SimW c t e) : SimT c (tTest t) (aTest e) := fun U H σ ρ Q q I z k =>
  h U H σ ρ _ _ I z fun U1 H1 d v g1 I1 r1 z1 => by
    obtain ⟨b, rfl, z2⟩ := blQ_of z1
    exact ⟨b, (r1.cr I1).bl, k U1 H1 b g1 I1 z2⟩
def aNot (e : AT) : AT := fun ρ Q X => e ρ (fun b => Q (!b)) X
def aAnd (a b : AT) : AT := fun ρ Q X => a ρ (fun x => cond x (b ρ Q X) (Q false)) X
def aOr (a b : AT) : AT := fun ρ Q X => a ρ (fun x => cond x (Q true) (b ρ Q X)) X
theorem sim_not {t : TT} {e : AT} (h : SimT c t e) : SimT c (tNot t) (aNot e) := fun U H σ ρ Q q I z k => h U H σ ρ _ _ I z fun U1 H1 b g1 I1 z1 => k U1 H1 _ g1 I1 z1
theorem sim_and {t u : TT} {e f : AT} (h : SimT c t e) (h2 : SimT c u f) : SimT c (tAnd t u) (aAnd e f) := fun U H σ ρ Q q I z k =>
  h U H σ ρ _ _ I z fun U1 H1 b g1 I1 z1 => by
    cases b with
    | true => exact i_itT (h2 U1 H1 σ ρ _ _ I1 z1 fun U2 H2 b' g2 I2 z2 => k U2 H2 b' (g1.trans g2) I2 z2)
    | false => exact i_itF (k U1 H1 false g1 I1 z1)
theorem sim_or {t u : TT} {e f : AT} (h : SimT c t e) (h2 : SimT c u f) : SimT c (tOr t u) (aOr e f) := fun U H σ ρ Q q I z k =>
  h U H σ ρ _ _ I z fun U1 H1 b g1 I1 z1 => by
    cases b with
    | false => exact i_itF (h2 U1 H1 σ ρ _ _ I1 z1 fun U2 H2 b' g2 I2 z2 => k U2 H2 b' (g1.trans g2) I2 z2)
    | true => exact i_itT (k U1 H1 true g1 I1 z1)
def aAndV (a b : AE) : AE := fun ρ Q X => a ρ (blQ fun x => cond x (b ρ Q X) (Q (.bl false))) X
def aOrV (a b : AE) : AE := fun ρ Q X => a ρ (blQ fun x => cond x (Q (.bl true)) (b ρ Q X)) X
def aNotV (a : AE) : AE := fun ρ Q X => a ρ (blQ fun x => Q (.bl (!x))) X
def aIfE (t : AT) (a b : AE) : AE := fun ρ Q X => t ρ (fun x => cond x (a ρ Q X) (b ρ Q X)) X
theorem sim_andV (ha : SimW c ta a) (hb : SimE c tb b) : SimE c (tAndV ta tb) (aAndV a b) := fun U H σ ρ Q q I z k =>
  ha U H σ ρ _ _ I z fun U1 H1 d v g1 I1 r1 z1 => by
    obtain ⟨x, rfl, z2⟩ := blQ_of z1
    refine ⟨x, (r1.cr I1).bl, ?_⟩
    cases x with
    | true => exact i_itT (hb U1 H1 σ ρ _ _ I1 z2 fun U2 H2 d' v' g2 I2 r2 z3 => k U2 H2 d' v' (g1.trans g2) I2 r2 z3)
    | false => exact i_itF (k U1 H1 (.bl false) _ g1 I1 rfl z2)
theorem sim_notV (ha : SimW c ta a) : SimE c (tNotV ta) (aNotV a) := fun U H σ ρ Q q I z k =>
  ha U H σ ρ _ _ I z fun U1 H1 d v g1 I1 r1 z1 => by
    obtain ⟨x, rfl, z2⟩ := blQ_of z1
    exact ⟨x, (r1.cr I1).bl, k U1 H1 (.bl (!x)) _ g1 I1 rfl z2⟩
def aChain (f g : D → D → (D → Prop) → Prop) (a b e : AE) : AE := fun ρ Q X => a ρ (fun x => b ρ (fun y => f x y (blQ fun k => cond k (e ρ (fun z => g y z Q) X) (Q (.bl false)))) X) X
theorem sim_chain {r r' : R2} {f g : D → D → (D → Prop) → Prop} {ae : AE} (hf : OpD c.K r f) (hg : OpD c.K r' g) (ha : SimW c ta a) (hb : SimW c tb b) (hc : SimW c tc ae) : SimE c (tChain r r' ta tb tc) (aChain f g a b ae) := fun U H σ ρ Q q I z k =>
  ha U H σ ρ _ _ I z fun U1 H1 d v g1 I1 w1 z1 => hb U1 H1 σ ρ _ _ I1 z1 fun U2 H2 e w g2 I2 w2 z2 =>
    hf U2 H2 v w d e _ _ I2.vh ((w1.mono g2.vv).cr I2) (w2.cr I2) z2 fun U3 H3 y u' g3 r3 z3 => by
      obtain ⟨x, rfl, z4⟩ := blQ_of z3
      have I3 := I2.grow g3
      refine ⟨x, r3, ?_⟩
      cases x with
      | true => exact i_itT (hc U3 H3 σ ρ _ _ I3 z4 fun U4 H4 m n g4 I4 w4 z5 => hg U4 H4 w n e m Q q I4.vh ((w2.mono (g3.vv.trans g4.vv)).cr I4) (w4.cr I4) z5 fun U5 H5 y2 u2 g5 r5 z6 => k U5 H5 y2 u2 ((((g1.trans g2).trans g3.any).trans g4).trans g5.any) (I4.grow g5) r5 z6)
      | false => exact i_itF (k U3 H3 (.bl false) _ ((g1.trans g2).trans g3.any) I3 rfl z4)
def aCB (f : List D → (D → Prop) → Prop) (r : AL) : AE := fun ρ Q X => r ρ (fun ds => f ds Q) X
def aCBO (f : List D → (AV → Prop) → Prop) (r : AL) : AO := fun ρ Q X => r ρ (fun ds => f ds Q) X
theorem wks_cr {ds : List D} {vs : List V} (I : DI c U H σ ρ) (h : Paired (Wk c.K U σ ρ) ds vs) : Paired (CR c.K U H) ds vs := Paired.imp (fun _ _ w => Wk.cr w I) h
theorem sim_cb {r : List V → Hp → VK → Prop} {f : List D → (D → Prop) → Prop} {tr : TA} {al : AL} (h : BuD c.K r f) (hr : SimLW c tr al) : SimE c (tCB r tr) (aCB f al) := fun U H σ ρ Q q I z k =>
  hr U H σ ρ _ _ I z fun U1 H1 ds vs g1 I1 w1 z1 => h U1 H1 vs ds Q q I1.vh (wks_cr I1 w1) z1 fun U3 H3 y u' g3 r3 z3 => k U3 H3 y u' (g1.trans g3.any) (I1.grow g3) r3 z3
theorem sim_cbO {r : List V → Hp → VK → Prop} {f : List D → (AV → Prop) → Prop} {tr : TA} {al : AL} (h : BuO c.K r f) (hr : SimLW c tr al) : SimO c (tCB r tr) (aCBO f al) := fun U H σ ρ Q q I z k =>
  hr U H σ ρ _ _ I z fun U1 H1 ds vs g1 I1 w1 z1 => h U1 H1 vs ds Q q I1.vh (wks_cr I1 w1) z1 fun U3 H3 y u' g3 r3 n3 z3 => k U3 H3 y u' (g1.trans g3.any) (I1.grow g3) r3 (n3.back fun _ h => g1.fresh h) z3
def lookD (f : Str) : List Str → List D → Option D
  | n :: ns, d :: ds => if f == n then some d else lookD f ns ds
  | _, _ => none
theorem look_of {K : PySem.W.Frag} {f : Str} : ∀ {ns : List Str} {ds : List D} {xs : List V} {d : D}, Rs K U ds xs → ns.length = xs.length → lookD f ns ds = some d → ∃ v, (ns.zip xs).lookup f = some v ∧ R K U d v
  | [], ds, xs, d, h, l, e => by simp [lookD] at e
  | n :: ns, [], xs, d, h, l, e => by simp [lookD] at e
  | n :: ns, y :: ds, _, d, ⟨v, r, h1, h2, h3⟩, l, e => by
    subst h1
    unfold lookD at e
    rw [List.zip_cons_cons, List.lookup_cons]
    cases hb : f == n with
    | true =>
      rw [hb, if_pos rfl] at e
      cases e
      exact ⟨v, rfl, h2⟩
    | false =>
      rw [hb, if_neg Bool.false_ne_true] at e
      exact look_of h3 (Nat.succ.inj l) e
def fldQ (C : Addr) (f : Str) (Q : D → Prop) : D → Prop
  | .obj C' ns ds => C' = C ∧ (match lookD f ns ds with | some d => Q d | none => False)
  | _ => False
theorem fldQ_of {C : Addr} {f : Str} {Q : D → Prop} {d : D} (h : fldQ C f Q d) : ∃ ns ds z, d = .obj C ns ds ∧ lookD f ns ds = some z ∧ Q z := by
  cases d with
  | obj C' ns ds =>
    obtain ⟨rfl, h⟩ := h
    cases e : lookD f ns ds with
    | none => rw [e] at h; exact h.elim
    | some z => rw [e] at h; exact ⟨ns, ds, z, rfl, e, h⟩
  | _ => exact h.elim
def aFld (C : Addr) (f : Str) (a : AE) : AE := fun ρ Q X => a ρ (fldQ C f Q) X
theorem sim_fld {C : Addr} {f : Str} (hc : Cls c.K C) (hn : NoAttr c.K C f) (ha : SimW c ta a) : SimE c (tFld c.K ta f) (aFld C f a) := fun U H σ ρ Q q I z k =>
  ha U H σ ρ _ _ I z fun U1 H1 d v g1 I1 w1 z1 => by
    obtain ⟨ns, ds, y, rfl, e, z2⟩ := fldQ_of z1
    obtain ⟨p, dx, xs, rfl, hp, hl, hrs⟩ := (w1.cr I1).obj I1.vh
    obtain ⟨w, e1, r1⟩ := look_of hrs hl e
    exact ⟨p, C, dx, _, w, rfl, hp, hc, hn, e1, k U1 H1 y w g1 I1 r1 z2⟩
end
end SW
namespace SW
open PySem PySem.Spec PyProof.Rows L2
variable [QN]
theorem reps_step {K : PySem.W.Frag} {M : List Addr} {U H U' H' : Hp} (g : Gr M U H U' H') : ∀ {ρ : Env} {σ : L2.St}, Paired (RepS K U H) ρ σ → (owns ρ σ).Nodup → (∀ p ∈ owns ρ σ, U p = none) → (∀ p ∈ M, p ∈ owns ρ σ → p ∈ drs ρ σ ∧ Dr U' H' p) → Paired (RepS K U' H') ρ σ
  | _, _, .nil, _, _, _ => .nil
  | x :: ρ, y :: σ, .cons h t, nd, hu, hM => by
    have nd' : (ownS x y ++ owns ρ σ).Nodup := nd
    obtain ⟨n1, n2, n3⟩ := List.nodup_append.mp nd'
    refine .cons ?_ (reps_step g t n2 (fun p hp => hu p (List.mem_append_right _ hp)) fun p hp ho => ?_)
    · cases x with
      | none => trivial
      | some av =>
        cases y with
        | none => exact h.elim
        | some v =>
          by_cases hdr : drS (some av) (some v) = []
          · refine RepA.keep g.vv av v (fun p hp => ⟨keep_at g (own_pl av v h p hp) (fun hpM => ?_), g.fr p (hu p (List.mem_append_left _ hp)) (own_some av v h p hp)⟩) h
            have k := (hM p hpM (List.mem_append_left _ hp)).1
            have k' : p ∈ drS (some av) (some v) ++ drs ρ σ := k
            rw [hdr, List.nil_append] at k'
            exact n3 p hp p (drs_sub p k') rfl
          · cases av with
            | dr =>
              obtain ⟨s, rfl, e⟩ := h
              by_cases hs : s ∈ M
              · exact ⟨s, rfl, (hM s hs (List.mem_append_left _ (List.mem_singleton.mpr rfl))).2⟩
              · exact ⟨s, rfl, e.gr g hs⟩
            | _ => exact absurd rfl hdr
    · obtain ⟨k, k2⟩ := hM p hp (List.mem_append_right _ ho)
      have k' : p ∈ drS x y ++ drs ρ σ := k
      rcases List.mem_append.mp k' with z | z
      · refine absurd rfl (n3 p ?_ p ho)
        unfold drS at z
        split at z
        · exact z
        · cases z
      · exact ⟨z, k2⟩
section
variable {c : DC} {U H U' H' : Hp} {σ : L2.St} {ρ : Env} {t u ta tb tc : TE} {e a b : AE} {i j : Nat} {d : D} {v : V}
theorem DI.step {M : List Addr} (I : DI c U H σ ρ) (g : Gr M U H U' H') (hM : ∀ p ∈ M, p ∈ drs ρ σ ∧ Dr U' H' p) : DI c U' H' σ ρ := by
  refine ⟨⟨I.gr.vv.trans g.vv, g.vh, fun x o m nn h => ?_, fun x h => g.dom x (I.gr.dom x h), fun x h k => g.fr x (I.gr.fr x h k) (I.gr.dom x k), fun P h => g.tb P (I.gr.tb P h), fun h => g.nt (I.gr.nt h)⟩, reps_step g I.rep I.nd (fun p hp => (I.out p hp).1) fun p hp _ => hM p hp, I.nd, fun p hp => ⟨g.fr p (I.out p hp).1 (I.ex p hp), (I.out p hp).2⟩, I.par, I.ko, I.ow, I.on⟩
  refine g.hh x o (fun z => ?_) nn (I.gr.hh x o m nn h)
  rcases (I.out x (drs_sub x (hM x z).1)).2 with k | k
  · exact m k
  · rw [k] at h
    cases h
abbrev AF := List AV → (AV → Prop) → (Exn → Prop) → Prop
/-- the promise of a def that changes nothing but the law's draws -/
def spD (K : PySem.W.Frag) (tb : List Addr) (A : AF) : Sp := fun vs H Q E => ∃ (U : Hp) (avs : List AV) (q : AV → Prop) (x : Exn → Prop), Same U H ∧ TbOk tb U H ∧ Paired (RepA K U H) avs vs ∧ (∀ a ∈ avs, a = .dr ∨ ∃ d, a = .fz d) ∧ (ownAs avs vs).length ≤ 1 ∧ A avs q x ∧
  (∀ U' H' av v, Gr (ownAs avs vs) U H U' H' → RepA K U' H' av v → Fresh U' H av v → (∀ p ∈ ownAs avs vs, Dr U' H' p) → q av → Q v H') ∧
  (∀ U' H' ex cls o, Gr (ownAs avs vs) U H U' H' → XRep K U' H' ex cls o → (∀ p ∈ ownAs avs vs, Dr U' H' p) → x ex → E cls o H')
def argAV (ρ : Env) : Arg → Option AV
  | .val d => some (.fz d)
  | .slot i => match ρ[i]? with
    | some (some .dr) => some .dr
    | _ => none
def argsAV (ρ : Env) : List Arg → Option (List AV)
  | [] => some []
  | a :: as => match argAV ρ a, argsAV ρ as with
    | some x, some xs => some (x :: xs)
    | _, _ => none
def slots : List Arg → Nat
  | [] => 0
  | .slot _ :: as => slots as + 1
  | _ :: as => slots as
theorem mem_drs : ∀ {ρ : Env} {σ : L2.St} {i : Nat} {p : Addr}, ρ[i]? = some (some .dr) → σ[i]? = some (some (.ref p)) → p ∈ drs ρ σ
  | [], _, i, p, h, k => by simp at h
  | _ :: _, [], i, p, h, k => by simp at k
  | x :: ρ, y :: σ, 0, p, h, k => by
    have h' := Option.some.inj h
    have k' := Option.some.inj k
    subst h' k'
    exact List.mem_append_left _ (List.mem_singleton.mpr rfl)
  | x :: ρ, y :: σ, i + 1, p, h, k => List.mem_append_right _ (mem_drs (ρ := ρ) (σ := σ) h k)
theorem args_rep (I : DI c U H σ ρ) : ∀ {as : List Arg} {vs : List V} {avs : List AV}, Paired (ArgR c.K U σ) as vs → argsAV ρ as = some avs → Paired (RepA c.K U H) avs vs ∧ (∀ p ∈ ownAs avs vs, p ∈ drs ρ σ) ∧ (ownAs avs vs).length = slots as
  | _, _, avs, .nil, e => by
    cases e
    exact ⟨.nil, fun p hp => (by cases hp), rfl⟩
  | a :: as, v :: vs, avs, .cons h t, e => by
    unfold argsAV at e
    cases ea : argAV ρ a with
    | none => rw [ea] at e; cases e
    | some x =>
      rw [ea] at e
      cases es : argsAV ρ as with
      | none => rw [es] at e; cases e
      | some xs =>
        rw [es] at e
        cases e
        obtain ⟨k1, k2, k3⟩ := args_rep I t es
        cases a with
        | val d =>
          cases ea
          exact ⟨.cons h k1, k2, k3⟩
        | slot i =>
          unfold argAV at ea
          dsimp only at ea
          split at ea
          · rename_i hρ
            cases ea
            obtain ⟨w, e1, e2, _⟩ := rep_at I.rep i _ hρ
            have hσ : σ[i]? = some (some v) := h
            rw [hσ] at e1
            have e' := Option.some.inj (Option.some.inj e1)
            subst e'
            obtain ⟨s, rfl, hd⟩ := id e2
            refine ⟨.cons e2 k1, fun p hp => ?_, ?_⟩
            · rcases List.mem_append.mp hp with z | z
              · rw [List.mem_singleton.mp z]
                exact mem_drs hρ hσ
              · exact k2 p z
            · show (own .dr (.ref s) ++ ownAs xs vs).length = slots as + 1
              rw [List.length_append, k3]
              show 1 + _ = _
              omega
          · cases ea
theorem dr_args {K : PySem.W.Frag} : ∀ {avs : List AV} {vs : List V}, Paired (RepA K U H) avs vs → (∀ a ∈ avs, a = .dr ∨ ∃ d, a = .fz d) → ∀ p ∈ ownAs avs vs, Dr U H p
  | _, _, .nil, _, p, hp => by cases hp
  | a :: as, v :: vs, .cons h t, k, p, hp => by
    rcases List.mem_append.mp hp with z | z
    · rcases k a List.mem_cons_self with rfl | ⟨d, rfl⟩
      · obtain ⟨s, rfl, hd⟩ := h
        rw [List.mem_singleton.mp z]
        exact hd
      · cases z
    · exact dr_args t (fun x hx => k x (List.mem_cons_of_mem _ hx)) p z
theorem args_kind : ∀ {as : List Arg} {avs : List AV}, argsAV ρ as = some avs → ∀ a ∈ avs, a = .dr ∨ ∃ d, a = .fz d
  | [], avs, e, a, ha => by cases e; cases ha
  | y :: as, avs, e, a, ha => by
    unfold argsAV at e
    cases ea : argAV ρ y with
    | none => rw [ea] at e; cases e
    | some x =>
      rw [ea] at e
      cases es : argsAV ρ as with
      | none => rw [es] at e; cases e
      | some xs =>
        rw [es] at e
        cases e
        rcases List.mem_cons.mp ha with rfl | ha
        · cases y with
          | val d => cases ea; exact .inr ⟨d, rfl⟩
          | slot i =>
            unfold argAV at ea
            dsimp only at ea
            split at ea
            · cases ea; exact .inl rfl
            · cases ea
        · exact args_kind es a ha
def callQ (A : AF) (ρ : Env) (Q : AV → Prop) (X : Exn → Prop) (as : List Arg) : Prop := slots as ≤ 1 ∧ match argsAV ρ as with
  | some avs => A avs Q X
  | none => False
theorem callQ_of {A : AF} {Q : AV → Prop} {X : Exn → Prop} {as : List Arg} (h : callQ A ρ Q X as) : slots as ≤ 1 ∧ ∃ avs, argsAV ρ as = some avs ∧ A avs Q X := by
  obtain ⟨h1, h2⟩ := h
  refine ⟨h1, ?_⟩
  cases e : argsAV ρ as with
  | none => rw [e] at h2; exact h2.elim
  | some avs => rw [e] at h2; exact ⟨avs, rfl, h2⟩
/-- the promise of a def, called where DI stands -/
theorem run_spD {A : AF} {as : List Arg} {vs : List V} {Q : AV → Prop} {q : VK} {E : XK} {X : Exn → Prop} (I : DI c U H σ ρ) (r : Paired (ArgR c.K U σ) as vs) (h : callQ A ρ Q X as)
    (k : ∀ U' H' av v, Gr (drs ρ σ) U H U' H' → DI c U' H' σ ρ → RepA c.K U' H' av v → Fresh U' H av v → Q av → q v H')
    (kx : ∀ U' H' x cls o, DI c U' H' σ ρ → XRep c.K U' H' x cls o → X x → E cls o H') : spD c.K c.tb A vs H q E := by
  obtain ⟨h1, avs, h2, h3⟩ := callQ_of h
  obtain ⟨k1, k2, k3⟩ := args_rep I r h2
  have kd := args_kind h2
  refine ⟨U, avs, Q, X, I.vh, I.tbs, k1, kd, by omega, h3, fun U' H' av v g r' n hd z => ?_, fun U' H' x cls o g xr hd z => ?_⟩
  · exact k U' H' av v (g.weak k2) (I.step g fun p hp => ⟨k2 p hp, hd p hp⟩) r' n z
  · exact kx U' H' x cls o (I.step g fun p hp => ⟨k2 p hp, hd p hp⟩) xr z
def aCall (A : AF) (r : AA) : AO := fun ρ Q X => r ρ (callQ A ρ Q X) X
def aCall0 (A : AF) (r : AA) : AO := fun ρ Q X => r ρ (callQ A ρ Q fun _ => False) X
section
variable {A : AF} {tr tk : TA} {r rk : AA}
theorem sim_call {E : XK} (hr : SimA c tr r) : SimO c (tCall (spD c.K c.tb A) [] E tr) (aCall0 A r) := fun U H σ ρ Q q I z k =>
  hr U H σ ρ _ _ I z fun U1 H1 as vs g1 I1 r1 z1 => by
    rw [List.append_nil]
    exact run_spD I1 r1 z1 (fun U2 H2 av v g2 I2 r2 n2 z2 => k U2 H2 av v (g1.trans g2) I2 r2 (n2.back fun _ h => g1.fresh h) z2) (fun _ _ _ _ _ _ _ z => z.elim)
theorem sim_callS {E : L2.St → XK} (hE : ∀ σ, E σ = c.E σ) (hr : SimA c tr r) : SimO c (tCallS (spD c.K c.tb A) E tr) (aCall A r) := fun U H σ ρ Q q I z k =>
  hr U H σ ρ _ _ I z fun U1 H1 as vs g1 I1 r1 z1 =>
    run_spD I1 r1 z1 (fun U2 H2 av v g2 I2 r2 n2 z2 => k U2 H2 av v (g1.trans g2) I2 r2 (n2.back fun _ h => g1.fresh h) z2) (fun U2 H2 x cls o I2 xr z => by rw [hE]; exact I2.raise xr z)
end
section
variable {st su : TS} {sa sb : AS} {tt : TT} {at' : AT} {o : AO}
def aNext : AS := fun N ρ => N.nx ρ
def aSeq (a b : AS) : AS := fun N ρ => a ⟨fun ρ' => b N ρ', N.rt, N.bk, N.ct, N.ex⟩ ρ
def aSet (i : Nat) (e : AE) : AS := fun N ρ => e ρ (fun d => N.nx (ρ.set i (some (.fz d)))) (fun x => N.ex x ρ)
def aSetO (i : Nat) (e : AO) : AS := fun N ρ => e ρ (fun av => N.nx (ρ.set i (some av))) (fun x => N.ex x ρ)
def aDrop (e : AE) : AS := fun N ρ => e ρ (fun _ => N.nx ρ) (fun x => N.ex x ρ)
def aRet (e : AE) : AS := fun N ρ => e ρ (fun d => N.rt (.fz d) ρ) (fun x => N.ex x ρ)
def aRetO (e : AO) : AS := fun N ρ => e ρ (fun av => N.rt av ρ) (fun x => N.ex x ρ)
def aRetN : AS := fun N ρ => N.rt (.fz .non) ρ
def aRetV (i : Nat) : AS := fun N ρ => match ρ[i]? with
  | some (some .dr) => False
  | some (some av) => N.rt av (ρ.set i none)
  | _ => False
def aIf (t : AT) (a b : AS) : AS := fun N ρ => t ρ (fun x => cond x (a N ρ) (b N ρ)) (fun x => N.ex x ρ)
def aBrk : AS := fun N ρ => N.bk ρ
def aCnt : AS := fun N ρ => N.ct ρ
def aRaise (C : Addr) : AS := fun N ρ => N.ex ⟨C, [], []⟩ ρ
theorem sim_next : SimS c tNext aNext := fun U H σ ρ N n hx I h P => P.nx U H σ ρ (Same.refl U) I h
theorem sim_seq (ha : SimS c st sa) (hb : SimS c su sb) : SimS c (tSeq st su) (aSeq sa sb) := fun U H σ ρ N n hx I h P =>
  ha U H σ ρ ⟨fun ρ' => sb N ρ', N.rt, N.bk, N.ct, N.ex⟩ _ hx I h ⟨fun U' H' σ' ρ' s I' h' => hb U' H' σ' ρ' N n hx I' h' (P.mono s), P.rt, P.bk, P.ct⟩
theorem sim_set (hi : noPar c i = true) (h : SimE c t e) : SimS c (tAsg t (gName i)) (aSet i e) := fun U H σ ρ N n hx I z P => by
  unfold aSet at z
  rw [hx] at z
  exact h U H σ ρ _ _ I z fun U1 H1 d v g1 I1 r1 z1 => P.nx U1 H1 _ _ g1.vv (I1.setF r1 hi) z1
theorem sim_setO (hi : noPar c i = true) (h : SimO c t o) : SimS c (tAsg t (gName i)) (aSetO i o) := fun U H σ ρ N n hx I z P => by
  unfold aSetO at z
  rw [hx] at z
  exact h U H σ ρ _ _ I z fun U1 H1 av v g1 I1 r1 n1 z1 => P.nx U1 H1 _ _ g1.vv (I1.setO r1 n1.nd (fun p hp => ⟨(n1.out p hp).1, I.gr.fresh (n1.out p hp).2, fun z => I.ex p z (n1.out p hp).2⟩) hi) z1
theorem sim_drop (h : SimE c t e) : SimS c (tDrop t) (aDrop e) := fun U H σ ρ N n hx I z P => by
  unfold aDrop at z
  rw [hx] at z
  exact h U H σ ρ _ _ I z fun U1 H1 d v g1 I1 r1 z1 => P.nx U1 H1 _ _ g1.vv I1 z1
theorem sim_ret (h : SimE c t e) : SimS c (tRet t) (aRet e) := fun U H σ ρ N n hx I z P => by
  unfold aRet at z
  rw [hx] at z
  exact h U H σ ρ _ _ I z fun U1 H1 d v g1 I1 r1 z1 => P.rt U1 H1 σ ρ (.fz d) v I1 r1 (Fresh.fz (U' := U1) (H := H1)).nd (fun p hp => by cases v <;> cases hp) z1
theorem sim_if (ht : SimT c tt at') (ha : SimS c st sa) (hb : SimS c su sb) : SimS c (tIfS tt st su) (aIf at' sa sb) := fun U H σ ρ N n hx I z P => by
  unfold aIf at z
  rw [hx] at z
  refine ht U H σ ρ _ _ I z fun U1 H1 x g1 I1 z1 => ?_
  cases x with
  | true => exact i_itT (ha U1 H1 σ ρ N n hx I1 z1 (P.mono g1.vv))
  | false => exact i_itF (hb U1 H1 σ ρ N n hx I1 z1 (P.mono g1.vv))
def tRaise0 (C : Addr) (E : XK) : TS := fun _ _ H => E (.ref C) none H
theorem sim_raise {C : Addr} {E : XK} (hE : ∀ σ, E = c.E σ) : SimS c (tRaise0 C E) (aRaise C) := fun U H σ ρ N n hx I z P => by
  have z' : N.ex ⟨C, [], []⟩ ρ := z
  rw [hx] at z'
  show E (.ref C) none H
  rw [hE σ]
  exact I.raise (x := ⟨C, [], []⟩) ⟨rfl, .inl ⟨rfl, rfl⟩⟩ z'
/-- a slot is let go -/
theorem DI.unset (I : DI c U H σ ρ) (i : Nat) (hi : noPar c i = true) : DI c U H σ (ρ.set i none) := by
  have e : ∀ (ρ : Env) (σ : L2.St) (i : Nat), Paired (RepS c.K U H) ρ σ → Paired (RepS c.K U H) (ρ.set i none) σ ∧ (owns (ρ.set i none) σ).Sublist (owns ρ σ) := by
    intro ρ
    induction ρ with
    | nil => intro σ i h; exact ⟨h, List.Sublist.refl _⟩
    | cons x ρ ih =>
      intro σ i h
      cases h with
      | @cons _ y _ σ h t =>
        cases i with
        | zero =>
          refine ⟨.cons trivial t, ?_⟩
          show (ownS none y ++ owns ρ σ).Sublist (ownS x y ++ owns ρ σ)
          exact List.sublist_append_right _ _
        | succ i =>
          obtain ⟨k1, k2⟩ := ih σ i t
          refine ⟨.cons h k1, ?_⟩
          show (ownS x y ++ owns (ρ.set i none) σ).Sublist (ownS x y ++ owns ρ σ)
          exact List.Sublist.append_left k2 _
  obtain ⟨k1, k2⟩ := e ρ σ i I.rep
  exact ⟨I.gr, k1, k2.nodup I.nd, fun p hp => I.out p (k2.mem hp), par_set rfl (sel_set _ _ _ _ (noPar_of hi)) I.par, I.ko, fun k av w e1 e2 p hp => I.ow k av w (by
    rw [List.getElem?_set] at e1
    split at e1
    · split at e1 <;> simp at e1
    · exact e1) e2 p hp, I.on⟩
/-- it is in no other slot -/
theorem own_unset : ∀ {ρ : Env} {σ : L2.St} {i : Nat} {av : AV} {v : V}, (owns ρ σ).Nodup → ρ[i]? = some (some av) → σ[i]? = some (some v) → ∀ p ∈ own av v, p ∉ owns (ρ.set i none) σ
  | [], _, i, av, v, nd, h, k, p, hp => by simp at h
  | _ :: _, [], i, av, v, nd, h, k, p, hp => by simp at k
  | x :: ρ, y :: σ, 0, av, v, nd, h, k, p, hp => by
    have h' := Option.some.inj h
    have k' := Option.some.inj k
    subst h' k'
    intro z
    have z' : p ∈ ([] : List Addr) ++ owns ρ σ := z
    have nd' : (own av v ++ owns ρ σ).Nodup := nd
    exact (List.nodup_append.mp nd').2.2 p hp p z' rfl
  | x :: ρ, y :: σ, i + 1, av, v, nd, h, k, p, hp => by
    intro z
    have nd' : (ownS x y ++ owns ρ σ).Nodup := nd
    obtain ⟨n1, n2, n3⟩ := List.nodup_append.mp nd'
    have z' : p ∈ ownS x y ++ owns (ρ.set i none) σ := z
    rcases List.mem_append.mp z' with z' | z'
    · exact n3 p z' p (mem_owns (ρ := ρ) (σ := σ) h k p hp) rfl
    · exact own_unset n2 h k p hp z'
theorem own_nd : ∀ {ρ : Env} {σ : L2.St} {i : Nat} {av : AV} {v : V}, (owns ρ σ).Nodup → ρ[i]? = some (some av) → σ[i]? = some (some v) → (own av v).Nodup
  | [], _, i, av, v, nd, h, k => by simp at h
  | _ :: _, [], i, av, v, nd, h, k => by simp at k
  | x :: ρ, y :: σ, 0, av, v, nd, h, k => by
    have h' := Option.some.inj h
    have k' := Option.some.inj k
    subst h' k'
    exact (List.nodup_append.mp (show (own av v ++ owns ρ σ).Nodup from nd)).1
  | x :: ρ, y :: σ, i + 1, av, v, nd, h, k => own_nd (List.nodup_append.mp (show (ownS x y ++ owns ρ σ).Nodup from nd)).2.1 h k
theorem reps_mut {K : PySem.W.Frag} {p : Addr} {o : HO} {ρ : Env} {σ : L2.St} (hu : ∀ q ∈ owns ρ σ, U q = none) (np : p ∉ owns ρ σ) (h : Paired (RepS K U H) ρ σ) : Paired (RepS K U (upd H p o)) ρ σ :=
  reps_keep (Same.refl U) (fun q hq => ⟨upd_ne (fun z => np (z ▸ hq)), hu q hq⟩) h
theorem set_same : ∀ {σ : L2.St} {i : Nat} {x : Option V}, σ[i]? = some x → σ.set i x = σ
  | [], _, _, h => by simp at h
  | y :: σ, 0, x, h => by rw [← Option.some.inj h]; rfl
  | y :: σ, i + 1, x, h => congrArg (y :: ·) (set_same (σ := σ) h)
/-- the thing in slot i becomes another of its kind: its places are those it had, or new -/
theorem DI.mutA {av av' : AV} {v : V} {H' : Hp} (I : DI c U H σ ρ) (h : ρ[i]? = some (some av)) (hs : σ[i]? = some (some v)) (kd : av'.kind = av.kind) (g : Gr (own av v) U H U H') (r : RepA c.K U H' av' v) (nd : (own av' v).Nodup) (ho : ∀ p ∈ own av' v, p ∈ own av v ∨ (H p = none ∧ U p = none)) :
    DI c U H' σ (ρ.set i (some av')) := by
  have m := mem_owns (ρ := ρ) (σ := σ) h hs
  have nu := own_unset I.nd h hs
  have hu : ∀ p ∈ own av' v, U p = none ∧ (p ∈ c.M ∨ c.H0 p = none) := fun p hp => by
    rcases ho p hp with z | z
    · exact I.out p (m p z)
    · exact ⟨z.2, .inr (I.gr.fresh z.1)⟩
  have sub : ∀ q ∈ owns (ρ.set i none) σ, q ∈ owns ρ σ := fun q hq => by
    have := owns_set_mem ρ σ i none (some v) q
    rw [set_same hs] at this
    rcases this hq with z | z
    · exact z
    · cases z
  have nd0 : (owns (ρ.set i none) σ).Nodup := by
    have := (owns_set_sub ρ σ i none (some v) rfl).nodup I.nd
    rwa [set_same hs] at this
  have rp0 : Paired (RepS c.K U H') (ρ.set i none) σ := by
    have k0 := Paired.setAt (F := RepS c.K U H) (show RepS c.K U H none (some v) from trivial) i I.rep
    rw [set_same hs] at k0
    exact reps_keep (Same.refl U) (fun q hq => ⟨keep_at g (I.pl q (sub q hq)) (fun z => nu q z hq), (I.out q (sub q hq)).1⟩) k0
  have hr : Paired (RepS c.K U H') (ρ.set i (some av')) σ := by
    have k := Paired.setAt (F := RepS c.K U H') (show RepS c.K U H' (some av') (some v) from r) i rp0
    rwa [List.set_set, set_same hs] at k
  have np : ∀ q ∈ own av' v, q ∉ owns (ρ.set i none) σ := fun q hq z => by
    rcases ho q hq with y | y
    · exact nu q y z
    · exact I.ex q (sub q z) y.1
  have hn : (owns (ρ.set i (some av')) σ).Nodup := by
    have k := owns_set_nd (ρ.set i none) σ i (some av') (some v) nd0 nd np
    rwa [List.set_set, set_same hs] at k
  refine ⟨⟨I.gr.vv, g.vh, fun a o ma nn ha => ?_, fun a ha => g.dom a (I.gr.dom a ha), I.gr.fr, fun P h => g.tb P (I.gr.tb P h), I.gr.nt⟩, hr, hn, fun q hq => ?_, ?_, I.ko, fun k av'' w e1 e2 q hq => ?_, I.on⟩
  · refine g.hh a o (fun z => ?_) nn (I.gr.hh a o ma nn ha)
    rcases (I.out a (m a z)).2 with y | y
    · exact ma y
    · rw [y] at ha
      cases ha
  · have k := owns_set_mem (ρ.set i none) σ i (some av') (some v) q
    rw [List.set_set, set_same hs] at k
    rcases k hq with k | k
    · exact I.out q (sub q k)
    · exact hu q k
  · obtain ⟨p1, avs, p2, p3⟩ := I.par
    refine ⟨p1, ?_⟩
    have go : ∀ (ks : List Bool) (ρ : Env) (i : Nat) (avs : List AV), ρ[i]? = some (some av) → selM ks ρ = avs.map some → ∃ bs : List AV, selM ks (ρ.set i (some av')) = bs.map some ∧ bs.map AV.kind = avs.map AV.kind := by
      intro ks
      induction ks with
      | nil =>
        intro ρ i avs _ e
        refine ⟨avs, ?_, rfl⟩
        rw [← e]
        cases ρ <;> cases i <;> rfl
      | cons b ks ih =>
        intro ρ i avs h e
        cases ρ with
        | nil => simp at h
        | cons a ρ =>
          cases i with
          | zero =>
            have h' := Option.some.inj h
            subst h'
            cases b with
            | false => exact ⟨avs, e, rfl⟩
            | true =>
              cases avs with
              | nil => cases e
              | cons a0 avs =>
                have e' := List.cons.inj e
                obtain ⟨g1, g2⟩ := e'
                cases g1
                exact ⟨av' :: avs, by rw [List.map_cons, ← g2]; rfl, by rw [List.map_cons, List.map_cons, kd]⟩
          | succ i =>
            cases b with
            | false => exact ih ρ i avs h e
            | true =>
              cases avs with
              | nil => cases e
              | cons a0 avs =>
                have e' := List.cons.inj e
                obtain ⟨g1, g2⟩ := e'
                obtain ⟨bs, k1, k2⟩ := ih ρ i avs h g2
                exact ⟨a0 :: bs, by show a :: selM ks (ρ.set i (some av')) = _; rw [k1, g1]; rfl, by rw [List.map_cons, List.map_cons, k2]⟩
    obtain ⟨bs, k1, k2⟩ := go c.ks ρ i avs h p2
    exact ⟨bs, k1, k2.trans p3⟩
  · by_cases z : i = k
    · subst z
      rw [hs] at e2
      have e' := Option.some.inj (Option.some.inj e2)
      subst e'
      rw [List.getElem?_set] at e1
      simp at e1
      rw [← e1.2] at hq
      rcases ho q hq with y | y
      · exact I.ow i av _ h hs q y
      · exact .inr (I.gr.fresh y.1)
    · rw [List.getElem?_set_ne z] at e1
      exact I.ow k av'' w e1 e2 q hq
theorem gr_upd {p : Addr} {o : HO} {as : List Addr} (s : Same U H) (hu : U p = none) (hp : p ∈ as) (pl : Pl H p) : Gr as U H U (upd H p o) :=
  (Gr.refl s).mut hu (.inl hp) pl
theorem DI.mut {av av' : AV} {p : Addr} {o : HO} (I : DI c U H σ ρ) (h : ρ[i]? = some (some av)) (kd : av'.kind = av.kind) (hs : σ[i]? = some (some (.ref p))) (ho : own av (.ref p) = [p]) (ho' : own av' (.ref p) = [p]) (r : RepA c.K U (upd H p o) av' (.ref p)) :
    DI c U (upd H p o) σ (ρ.set i (some av')) := by
  have mp : p ∈ own av (.ref p) := by rw [ho]; exact List.mem_singleton.mpr rfl
  exact I.mutA h hs kd (gr_upd I.vh (I.out p (mem_owns h hs p mp)).1 mp (I.pl p (mem_owns h hs p mp))) r (by rw [ho']; simp) (fun q hq => by rw [ho'] at hq; rw [List.mem_singleton.mp hq]; exact .inl mp)
end
end
end SW
namespace SW
open PySem PySem.Spec PyProof.Rows L2
variable [QN]
section
variable {c : DC} {U H U' H' : Hp} {σ : L2.St} {ρ : Env} {t u ta tb tc te ti : TE} {e a b ai : AE} {i j : Nat} {d : D} {v : V} {st su : TS} {sa sb : AS} {tt : TT} {at' : AT} {o : AO}
def olQ (ρ : Env) (i : Nat) (Q : List D → Prop) : Prop := match ρ[i]? with
  | some (some (.ol ds)) => Q ds
  | _ => False
theorem olQ_of {Q : List D → Prop} (h : olQ ρ i Q) : ∃ ds, ρ[i]? = some (some (.ol ds)) ∧ Q ds := by
  unfold olQ at h
  split at h
  · exact ⟨_, by assumption, h⟩
  · exact h.elim
theorem ol_at {ds : List D} (I : DI c U H σ ρ) (h : ρ[i]? = some (some (.ol ds))) : ∃ p xs, σ[i]? = some (some (.ref p)) ∧ H p = some (.lst xs) ∧ Rs c.K U ds xs := by
  obtain ⟨v, e1, ⟨p, xs, rfl, e2, e3⟩, _⟩ := rep_at I.rep i _ h
  exact ⟨p, xs, e1, e2, e3⟩
theorem DI.mutL {ds ds' : List D} {p : Addr} {xs' : List V} (I : DI c U H σ ρ) (h : ρ[i]? = some (some (.ol ds))) (hs : σ[i]? = some (some (.ref p))) (r : Rs c.K U ds' xs') : DI c U (upd H p (.lst xs')) σ (ρ.set i (some (.ol ds'))) :=
  I.mut h rfl hs rfl rfl ⟨p, xs', rfl, upd_same, r⟩
def aApp (i : Nat) (e : AE) : AS := fun N ρ => olQ ρ i fun _ => e ρ (fun d => olQ ρ i fun ds => ds.length < 1000000 ∧ N.nx (ρ.set i (some (.ol (ds ++ [d]))))) (fun x => N.ex x ρ)
theorem sim_app (he : SimE c te e) : SimS c (tDrop (tBM c.K "list" rAppend (tVar i) (tCons te tNil))) (aApp i e) := fun U H σ ρ N n hx I z P => by
  obtain ⟨ds0, e0, z⟩ := olQ_of z
  rw [hx] at z
  obtain ⟨p, xs, hs, hp, hr⟩ := ol_at I e0
  refine ⟨.ref p, hs, .inl ⟨rfl, xs, SqL.of hp⟩, he U H σ ρ _ _ I z fun U1 H1 d v g1 I1 r1 z1 => ?_⟩
  obtain ⟨ds, e1, z2, z3⟩ := olQ_of z1
  obtain ⟨p', xs', hs', hp', hr'⟩ := ol_at I1 e1
  rw [hs] at hs'
  have e' := V.ref.inj (Option.some.inj (Option.some.inj hs'))
  subst e'
  exact ⟨p, xs', v, rfl, rfl, hp', lt_size (by rw [← hr'.len]; exact z2), P.nx U1 _ σ _ g1.vv (I1.mutL e1 hs (hr'.snoc r1)) z3⟩
def ixQ (n : Nat) (Q : Nat → Prop) : D → Prop
  | .int z => match ixN n z with
    | some j => Q j
    | none => False
  | _ => False
/-- x[k] = e -/
def aPut (i : Nat) (ai e : AE) : AS := fun N ρ => olQ ρ i fun _ => e ρ (fun d => ai ρ (fun k => olQ ρ i fun ds => ixQ ds.length (fun j => N.nx (ρ.set i (some (.ol (ds.set j d))))) k) (fun x => N.ex x ρ)) (fun x => N.ex x ρ)
def lstQ (Q : List D → Prop) : D → Prop
  | .lst ds => Q ds
  | _ => False
theorem lstQ_of {Q : List D → Prop} {d : D} (h : lstQ Q d) : ∃ ds, d = .lst ds ∧ Q ds := by
  cases d <;> first | exact ⟨_, rfl, h⟩ | exact h.elim
def tupQ (Q : List D → Prop) : D → Prop
  | .tup ds => Q ds
  | _ => False
theorem tupQ_of {Q : List D → Prop} {d : D} (h : tupQ Q d) : ∃ ds, d = .tup ds ∧ Q ds := by
  cases d <;> first | exact ⟨_, rfl, h⟩ | exact h.elim
/-- x += e of lists -/
def aExt (i : Nat) (e : AE) : AS := fun N ρ => olQ ρ i fun _ => e ρ (lstQ fun es => olQ ρ i fun ds => ds.length + es.length ≤ 1000000 ∧ N.nx (ρ.set i (some (.ol (ds ++ es))))) (fun x => N.ex x ρ)
def gN (i : Nat) : AG := fun d ρ Q => Q (ρ.set i (some (.fz d)))
theorem drs_set : ∀ (ρ : Env) (σ : L2.St) (i : Nat) (x : Option AV) (y : Option V), drS x y = [] → ∀ p ∈ drs (ρ.set i x) (σ.set i y), p ∈ drs ρ σ
  | [], _, _, _, _, _, p, hp => by simp [drs] at hp
  | _ :: _, [], i, _, _, _, p, hp => by cases i <;> simp [drs] at hp
  | a :: ρ, b :: σ, 0, x, y, h, p, hp => by
    have hp' : p ∈ drS x y ++ drs ρ σ := hp
    rw [h] at hp'
    exact List.mem_append_right _ hp'
  | a :: ρ, b :: σ, i + 1, x, y, h, p, hp => by
    have hp' : p ∈ drS a b ++ drs (ρ.set i x) (σ.set i y) := hp
    rcases List.mem_append.mp hp' with z | z
    · exact List.mem_append_left _ z
    · exact List.mem_append_right _ (drs_set ρ σ i x y h p z)
theorem put_set {i : Nat} {d : D} {v : V} : Put [i] σ (σ.set i (some v)) ρ (ρ.set i (some (.fz d))) :=
  ⟨List.length_set, fun k hk => List.getElem?_set_ne (fun z => hk (by rw [z]; exact List.mem_singleton.mpr rfl)), drs_set ρ σ i _ _ rfl, fun k hk => List.getElem?_set_ne (fun z => hk (by rw [z]; exact List.mem_singleton.mpr rfl)), fun p hp => (owns_set_sub ρ σ i _ _ rfl).mem hp⟩
theorem Put.trans {js ks : List Nat} {σ1 σ2 σ3 : L2.St} {ρ1 ρ2 ρ3 : Env} (a : Put js σ1 σ2 ρ1 ρ2) (b : Put ks σ2 σ3 ρ2 ρ3) : Put (js ++ ks) σ1 σ3 ρ1 ρ3 :=
  ⟨b.len.trans a.len, fun k hk => (b.at' k fun z => hk (List.mem_append_right _ z)).trans (a.at' k fun z => hk (List.mem_append_left _ z)), fun p hp => a.dr p (b.dr p hp), fun k hk => (b.rat k fun z => hk (List.mem_append_right _ z)).trans (a.rat k fun z => hk (List.mem_append_left _ z)), fun p hp => a.ow p (b.ow p hp)⟩
theorem sim_gN (hi : noPar c i = true) : SimG c [i] (gName i) (gN i) := fun U H σ ρ d v Q q I r z k => k _ _ (I.setF r hi) put_set z
abbrev AGs := List D → Env → (Env → Prop) → Prop
def SimGs (c : DC) (js : List Nat) (g : TGs) (a : AGs) : Prop := ∀ (U H : Hp) (σ : L2.St) (ρ : Env) (ds : List D) (vs : List V) (Q : Env → Prop) (q : L2.St → Hp → Prop), DI c U H σ ρ → Rs c.K U ds vs → a ds ρ Q →
  (∀ σ' ρ', DI c U H σ' ρ' → Put js σ σ' ρ ρ' → Q ρ' → q σ' H) → g vs σ H q
def gsNil : AGs := fun ds ρ Q => match ds with | [] => Q ρ | _ => False
def gsCons (g : AG) (r : AGs) : AGs := fun ds ρ Q => match ds with | d :: ds => g d ρ (fun ρ' => r ds ρ' Q) | [] => False
def gT (n : Nat) (r : AGs) : AG := fun d ρ Q => match d with | .tup ds => ds.length = n ∧ r ds ρ Q | _ => False
theorem sim_gsNil : SimGs c [] gNil gsNil := fun U H σ ρ ds vs Q q I r z k => by
  cases ds with
  | nil => exact ⟨r, k σ ρ I ⟨rfl, fun _ _ => rfl, fun _ h => h, fun _ _ => rfl, fun _ h => h⟩ z⟩
  | cons d ds => exact z.elim
theorem sim_gsCons {js ks : List Nat} {g : TG} {gs : TGs} {ag : AG} {ags : AGs} (h : SimG c js g ag) (hs : SimGs c ks gs ags) : SimGs c (js ++ ks) (gCons g gs) (gsCons ag ags) := fun U H σ ρ ds vs Q q I r z k => by
  cases ds with
  | nil => exact z.elim
  | cons d ds =>
    obtain ⟨v, vs', rfl, r1, r2⟩ := r
    exact ⟨v, vs', rfl, h U H σ ρ d v _ _ I r1 z fun σ1 ρ1 I1 p1 z1 => hs U H σ1 ρ1 ds vs' Q q I1 r2 z1 fun σ2 ρ2 I2 p2 z2 => k σ2 ρ2 I2 (p1.trans p2) z2⟩
theorem sim_gT {js : List Nat} {n : Nat} {gs : TGs} {ags : AGs} (hs : SimGs c js gs ags) : SimG c js (gTup c.K n gs) (gT n ags) := fun U H σ ρ d v Q q I r z k => by
  cases d with
  | tup ds =>
    obtain ⟨a, xs, rfl, h1, h2⟩ := r
    obtain ⟨z1, z2⟩ : ds.length = n ∧ ags ds ρ Q := z
    exact ⟨a, xs, rfl, Same.tup I.vh h1, by rw [← h2.len]; exact z1, hs U H σ ρ ds xs Q q I h2 z2 k⟩
  | _ => exact (show False from z).elim
def aAsg (e : AE) (g : AG) : AS := fun N ρ => e ρ (fun d => g d ρ N.nx) (fun x => N.ex x ρ)
theorem sim_asg {js : List Nat} {g : TG} {ag : AG} (h : SimE c t e) (hg : SimG c js g ag) : SimS c (tAsg t g) (aAsg e ag) := fun U H σ ρ N n hx I z P => by
  unfold aAsg at z
  rw [hx] at z
  exact h U H σ ρ _ _ I z fun U1 H1 d v g1 I1 r1 z1 => hg U1 H1 σ ρ d v _ _ I1 r1 z1 fun σ2 ρ2 I2 _ z2 => P.nx U1 H1 _ _ g1.vv I2 z2
/-- a, b = e, f -/
def twoQ (Q : D → D → Prop) : List D → Prop
  | [d, e] => Q d e
  | _ => False
theorem twoQ_of {Q : D → D → Prop} {ds : List D} (h : twoQ Q ds) : ∃ d e, ds = [d, e] ∧ Q d e := by
  unfold twoQ at h
  split at h
  · exact ⟨_, _, rfl, h⟩
  · exact h.elim
def aPar (i j : Nat) (r : AL) : AS := fun N ρ => r ρ (twoQ fun d e => N.nx ((ρ.set i (some (.fz d))).set j (some (.fz e)))) (fun x => N.ex x ρ)
def aAug (i : Nat) (f : D → D → (D → Prop) → Prop) (e : AE) : AS := fun N ρ => match ρ[i]? with
  | some (some (.fz x)) => e ρ (fun y => f x y fun z => N.nx (ρ.set i (some (.fz z)))) (fun x => N.ex x ρ)
  | _ => False
def aLoop (g : AG) (b : AS) (N : AEnds) : List D → Env → Prop
  | [], ρ => N.nx ρ
  | d :: r, ρ => g d ρ (fun ρ2 => b ⟨aLoop g b N r, N.rt, N.nx, aLoop g b N r, N.ex⟩ ρ2)
def aFor (it : AL) (g : AG) (b : AS) : AS := fun N ρ => it ρ (fun ds => aLoop g b N ds ρ) (fun x => N.ex x ρ)
theorem drop_at {α : Type} {xs : List α} {i : Nat} {x : α} (h : xs[i]? = some x) : xs.drop i = x :: xs.drop (i + 1) := by
  obtain ⟨hi, e⟩ := List.getElem?_eq_some_iff.mp h
  rw [List.drop_eq_getElem_cons hi, e]
theorem sim_for {js : List Nat} {wi : TI} {it : AL} {g : TG} {ag : AG} (hi : SimI c wi it) (hg : SimG c js g ag) (hb : SimS c st sa) : SimS c (tFor wi g st) (aFor it ag sa) := fun U H σ ρ N n hx I z P => by
  unfold aFor at z
  rw [hx] at z
  refine hi U H σ ρ _ _ I z fun U1 H1 J ds g1 I1 W z1 => ?_
  obtain ⟨Y, w, hY⟩ := W
  refine for_it w (fun k σ' H' => ∃ U' ρ', Same U1 U' ∧ DI c U' H' σ' ρ' ∧ aLoop ag sa N (ds.drop k) ρ') ⟨U1, ρ, Same.refl U1, I1, z1⟩ (fun k σ' H' _ ⟨U', ρ', s, I', _⟩ => s.trans I'.vh) ?_ ?_
  · rintro k x σ' H' H'' hk ⟨U', ρ', s, I', z2⟩ hy
    have ed : ds[k]? = some ds[k] := List.getElem?_eq_getElem hk
    obtain ⟨U3, g3, r3⟩ := hY k H' x H'' _ U' s I'.vh hy ed
    rw [drop_at ed] at z2
    have I3 := I'.grow g3
    have s3 := s.trans g3.vv
    refine hg U3 H'' σ' ρ' _ x _ _ I3 r3 z2 fun σ4 ρ4 I4 _ z4 => ?_
    exact hb U3 H'' σ4 ρ4 ⟨aLoop ag sa N (ds.drop (k + 1)), N.rt, N.nx, aLoop ag sa N (ds.drop (k + 1)), N.ex⟩ _ hx I4 z4
      ⟨fun U5 H5 σ5 ρ5 s5 I5 z5 => ⟨U5, ρ5, s3.trans s5, I5, z5⟩, P.rt, fun U5 H5 σ5 ρ5 s5 I5 z5 => P.nx U5 H5 σ5 ρ5 (g1.vv.trans (s3.trans s5)) I5 z5, fun U5 H5 σ5 ρ5 s5 I5 z5 => ⟨U5, ρ5, s3.trans s5, I5, z5⟩⟩
  · rintro σ' H' ⟨U', ρ', s, I', z2⟩
    rw [List.drop_length] at z2
    exact P.nx U' H' σ' ρ' (g1.vv.trans s) I' z2
end
end SW
namespace SW
open PySem PySem.Spec PyProof.Rows L2
variable [QN]
section
variable {c : DC} {U H U' H' : Hp} {σ : L2.St} {ρ : Env} {t u ta tb tc te ti : TE} {e a b ai : AE} {i j : Nat} {d : D} {v : V} {st su : TS} {sa sb : AS} {tt : TT} {at' : AT} {o : AO}
theorem SimI.w {wi : TI} {it : AL} (h : SimI c wi it) : SimIW c wi it := fun U H σ ρ Q q I z k => h U H σ ρ Q q I z fun U1 H1 J ds g1 I1 W z1 => by
  obtain ⟨Y, w, hY⟩ := W
  exact k U1 H1 J ds g1 I1 ⟨Y, w.mono (fun H'' ⟨U'', g⟩ => g.vv.trans g.vh) (fun _ _ _ _ _ _ y => y), hY⟩ z1
theorem yat {K : PySem.W.Frag} {ds : List D} {xs : List V} (r : Rs K U ds xs) {i : Nat} {H H' U2 : Hp} {x : V} {d : D} (s : Same U U2) (s2 : Same U2 H) (h : YAt xs i H x H') (e : ds[i]? = some d) : ∃ U3, Gr [] U2 H U3 H' ∧ R K U3 d x := by
  obtain ⟨rfl, hx⟩ := h
  obtain ⟨d', e1, r1⟩ := r.at' i x hx
  rw [e] at e1
  have e' := Option.some.inj e1
  subst e'
  exact ⟨U2, Gr.refl s2, R.mono s d x r1⟩
def aItL (e : AE) : AL := fun ρ Q X => e ρ (lstQ Q) X
def aItT (e : AE) : AL := fun ρ Q X => e ρ (tupQ Q) X
theorem sim_itL (h : SimE c te e) : SimI c (iList c.K te) (aItL e) := fun U H σ ρ Q q I z k => h U H σ ρ _ _ I z fun U1 H1 d v g1 I1 r1 z1 => by
  obtain ⟨ds, rfl, z2⟩ := lstQ_of z1
  obtain ⟨p, xs, rfl, hp, hr⟩ := r1
  refine ⟨p, rfl, ⟨xs, SqL.of (I1.vh _ _ hp)⟩, k U1 H1 _ ds g1 I1 ⟨YAt xs, ?_, fun i H x H' d U2 s s2 y e => yat hr s s2 y e⟩ z2⟩
  rw [hr.len]
  exact walk_list.mono (fun H s => SqL.of (s _ _ hp)) (fun _ _ _ _ _ _ y => y)
theorem sim_itT (h : SimE c te e) : SimI c (iTup c.K te) (aItT e) := fun U H σ ρ Q q I z k => h U H σ ρ _ _ I z fun U1 H1 d v g1 I1 r1 z1 => by
  obtain ⟨ds, rfl, z2⟩ := tupQ_of z1
  obtain ⟨p, xs, rfl, hp, hr⟩ := r1
  refine ⟨p, rfl, ⟨xs, Same.tup I1.vh hp⟩, k U1 H1 _ ds g1 I1 ⟨YAt xs, ?_, fun i H x H' d U2 s s2 y e => yat hr s s2 y e⟩ z2⟩
  rw [hr.len]
  exact walk_tup.mono (fun H s => Same.tup s hp) (fun _ _ _ _ _ _ y => y)
/-- it is in no draw -/
theorem own_dr : ∀ {ρ : Env} {σ : L2.St} {i : Nat} {av : AV} {v : V}, (owns ρ σ).Nodup → ρ[i]? = some (some av) → σ[i]? = some (some v) → av ≠ .dr → ∀ p ∈ own av v, p ∉ drs ρ σ
  | [], _, i, av, v, nd, h, k, n, p, hp => by simp at h
  | _ :: _, [], i, av, v, nd, h, k, n, p, hp => by simp at k
  | x :: ρ, y :: σ, 0, av, v, nd, h, k, n, p, hp => by
    have h' := Option.some.inj h
    have k' := Option.some.inj k
    subst h' k'
    intro z
    have z' : p ∈ drS (some av) (some v) ++ drs ρ σ := z
    have nd' : (own av v ++ owns ρ σ).Nodup := nd
    rcases List.mem_append.mp z' with z' | z'
    · unfold drS at z'
      split at z'
      · rename_i e _
        exact n (Option.some.inj e)
      · cases z'
    · exact (List.nodup_append.mp nd').2.2 p hp p (drs_sub p z') rfl
  | x :: ρ, y :: σ, i + 1, av, v, nd, h, k, n, p, hp => by
    intro z
    have nd' : (ownS x y ++ owns ρ σ).Nodup := nd
    obtain ⟨n1, n2, n3⟩ := List.nodup_append.mp nd'
    have z' : p ∈ drS x y ++ drs ρ σ := z
    rcases List.mem_append.mp z' with z' | z'
    · have m1 : p ∈ ownS x y := by
        unfold drS at z'
        split at z'
        · exact z'
        · cases z'
      exact n3 p m1 p (mem_owns (ρ := ρ) (σ := σ) h k p hp) rfl
    · exact own_dr n2 h k n p hp z'
/-- a slot's own list, in a comprehension -/
theorem sim_itLW (h : SimW c te e) : SimIW c (iList c.K te) (aItL e) := fun U H σ ρ Q q I z k => h U H σ ρ _ _ I z fun U1 H1 d v g1 I1 w1 z1 => by
  obtain ⟨ds, rfl, z2⟩ := lstQ_of z1
  rcases w1 with r1 | ⟨k1, av, v0, b, h1, h2, h4, h3⟩
  · obtain ⟨p, xs, rfl, hp, hr⟩ := r1
    refine ⟨p, rfl, ⟨xs, SqL.of (I1.vh _ _ hp)⟩, k U1 H1 _ ds g1 I1 ⟨YAt xs, ?_, fun i H x H' d U2 s s2 y e => yat hr s s2 y e⟩ z2⟩
    rw [hr.len]
    exact walk_list.mono (fun H ⟨U'', g⟩ => SqL.of (g.vh _ _ (g.vv _ _ hp))) (fun _ _ _ _ _ _ y => y)
  · obtain ⟨w, e1, e2, m⟩ := rep_at I1.rep k1 av h1
    rw [h2] at e1
    have e' := Option.some.inj (Option.some.inj e1)
    subst e'
    have nd : av ≠ .dr := fun z => by
      subst z
      rw [h4.dr] at h3
      cases h3
    have key : ∀ p xs, v = .ref p → H1 p = some (.lst xs) → Rs c.K U1 ds xs → p ∉ drs ρ σ → iList c.K (tC v) σ H1 q := fun p xs ev hp hr np => by
      subst ev
      refine ⟨p, rfl, ⟨xs, SqL.of hp⟩, k U1 H1 _ ds g1 I1 ⟨YAt xs, ?_, fun i H x H' d U2 s s2 y e => yat hr s s2 y e⟩ z2⟩
      rw [hr.len]
      exact walk_list.mono (fun H ⟨U'', g⟩ => SqL.of (g.hh _ _ np (ntb rfl) hp)) (fun _ _ _ _ _ _ y => y)
    have np : ∀ p ∈ own b v, p ∉ drs ρ σ := fun p hp => own_dr I1.nd h1 h2 nd p (h4.own e2 p hp)
    have e2 := h4.rep e2
    cases b <;> cases h3
    · obtain ⟨p, xs, e3, e4, e5⟩ := e2
      refine key p xs e3 (I1.vh _ _ e4) e5 ?_
      intro z
      have := (I1.out p (drs_sub p z)).1
      rw [e4] at this
      cases this
    · obtain ⟨p, xs, e3, e4, e5⟩ := e2
      exact key p xs e3 e4 e5 (np p (by rw [e3]; exact List.mem_singleton.mpr rfl))
    · obtain ⟨p, e3, e4, e5⟩ := e2
      exact key p _ e3 e4 (seens_r e5) (np p (by rw [e3]; exact List.mem_cons_self))
def intQ (Q : Int → Prop) : D → Prop
  | .int i => Q i
  | _ => False
theorem intQ_of {Q : Int → Prop} {d : D} (h : intQ Q d) : ∃ i, d = .int i ∧ Q i := by
  cases d <;> first | exact ⟨_, rfl, h⟩ | exact h.elim
def oneQ (Q : D → Prop) : List D → Prop
  | [d] => Q d
  | _ => False
theorem oneQ_of {Q : D → Prop} {ds : List D} (h : oneQ Q ds) : ∃ d, ds = [d] ∧ Q d := by
  unfold oneQ at h
  split at h
  · exact ⟨_, rfl, h⟩
  · exact h.elim
theorem paired1 {α β : Type} {F : α → β → Prop} {x : α} {vs : List β} (h : Paired F [x] vs) : ∃ v, vs = [v] ∧ F x v := by
  cases h with
  | cons h t => cases t; exact ⟨_, rfl, h⟩
theorem paired2 {α β : Type} {F : α → β → Prop} {x y : α} {vs : List β} (h : Paired F [x, y] vs) : ∃ v w, vs = [v, w] ∧ F x v ∧ F y w := by
  cases h with
  | cons h t =>
    obtain ⟨w, rfl, k⟩ := paired1 t
    exact ⟨_, w, rfl, h, k⟩
def rngD (lo : Int) (n : Nat) : List D := (List.range n).map fun i => .int (lo + (i : Nat))
def aRng1 (r : AL) : AL := fun ρ Q X => r ρ (oneQ (intQ fun j => (-(2 ^ 62) ≤ j ∧ j < 2 ^ 62) ∧ Q (rngD 0 j.toNat))) X
def aRng2 (r : AL) : AL := fun ρ Q X => r ρ (twoQ fun d e => intQ (fun i => intQ (fun j => (-(2 ^ 62) ≤ i ∧ i < 2 ^ 62 ∧ -(2 ^ 62) ≤ j ∧ j < 2 ^ 62) ∧ Q (rngD i (j - i).toNat)) e) d) X
theorem walks_rng {K : PySem.W.Frag} {G : Hp → Prop} (lo : Int) (n : Nat) : Walks K U (Itr lo n) (rngD lo n) G := by
  refine ⟨YFn fun i => .int (lo + i), ?_, fun i H x H' d U2 s s2 y e => ?_⟩
  · rw [show (rngD lo n).length = n by unfold rngD; rw [List.length_map, List.length_range]]
    exact walk_range.mono (fun _ _ => trivial) (fun _ _ _ _ _ _ y => y)
  · obtain ⟨rfl, rfl⟩ := y
    refine ⟨U2, Gr.refl s2, ?_⟩
    unfold rngD at e
    rw [List.getElem?_map] at e
    cases e2 : (List.range n)[i]? with
    | none => rw [e2] at e; cases e
    | some k =>
      rw [e2] at e
      obtain ⟨hk, e3⟩ := List.getElem?_eq_some_iff.mp e2
      rw [List.getElem_range] at e3
      subst e3
      cases e
      rfl
theorem sim_rng1 {tr : TA} {r : AL} (h : SimLW c tr r) : SimI c (iRng1 tr) (aRng1 r) := fun U H σ ρ Q q I z k => h U H σ ρ _ _ I z fun U1 H1 ds vs g1 I1 w1 z1 => by
  obtain ⟨d, rfl, z2⟩ := oneQ_of z1
  obtain ⟨j, rfl, z3⟩ := intQ_of z2
  obtain ⟨v, rfl, w⟩ := paired1 w1
  exact ⟨j, by rw [(Wk.cr w I1).int], z3.1.1, z3.1.2, k U1 H1 _ _ g1 I1 (walks_rng 0 j.toNat) z3.2⟩
def zipD (xs ys : List D) : List D := (xs.zip ys).map fun p => .tup [p.1, p.2]
def enumD (xs : List D) : List D := zipD ((List.range xs.length).map fun i => .int (i : Nat)) xs
def aZip (r : AL) : AL := fun ρ Q X => r ρ (twoQ fun d e => lstQ (fun xs => lstQ (fun ys => Q (zipD xs ys)) e) d) X
def aEnum (r : AL) : AL := fun ρ Q X => r ρ (oneQ (lstQ fun xs => Q (enumD xs))) X
def wipeA (ρ : Env) : List Nat → Env
  | [] => ρ
  | v :: vs => (wipeA ρ vs).set v none
def aComp (g : AG) (tt : AT) (te : AE) (ρ : Env) (X : Exn → Prop) : List D → List D → (List D → Prop) → Prop
  | [], acc, Q => Q acc
  | d :: r, acc, Q => g d ρ (fun ρ2 => tt ρ2 (fun b => cond b (te ρ2 (fun y => acc.length < 1000000 ∧ aComp g tt te ρ X r (acc ++ [y]) Q) X) (aComp g tt te ρ X r acc Q)) X)
def aLc (it : AL) (g : AG) (tt : AT) (te : AE) (vs : List Nat) : AO := fun ρ Q X => it ρ (fun ds => aComp g tt te (wipeA ρ vs) X ds [] (fun acc => Q (.ol acc))) X
def aYes : AT := fun _ Q _ => Q true
theorem sim_yes : SimT c tYes aYes := fun U H σ ρ Q q I z k => k U H true (Gr.refl I.vh) I z
theorem DI.setN (h : DI c U H σ ρ) {i : Nat} (hi : noPar c i = true) : DI c U H (σ.set i none) (ρ.set i none) := by
  have hs := owns_set_sub ρ σ i none none rfl
  refine ⟨h.gr, Paired.setAt (F := RepS c.K U H) (show RepS c.K U H none none from trivial) i h.rep, hs.nodup h.nd, fun p hp => h.out p (hs.mem hp), par_set (sel_set _ _ _ _ (noPar_of hi)) (sel_set _ _ _ _ (noPar_of hi)) h.par, h.ko, fun k av w e1 e2 p hp => ?_, by rw [List.length_set]; exact h.on⟩
  by_cases z : i = k
  · subst z
    rw [List.getElem?_set] at e1
    simp at e1
  · rw [List.getElem?_set_ne z] at e1 e2
    exact h.ow k av w e1 e2 p hp
theorem DI.wipe (h : DI c U H σ ρ) : ∀ {vs : List Nat}, (vs.all fun i => noPar c i) = true → DI c U H (L2.wipe σ vs) (wipeA ρ vs) ∧ (∀ p ∈ drs (wipeA ρ vs) (L2.wipe σ vs), p ∈ drs ρ σ) ∧ c.x (wipeA ρ vs) = c.x ρ
  | [], _ => ⟨h, fun _ z => z, rfl⟩
  | v :: vs, k => by
    rw [List.all_cons, Bool.and_eq_true] at k
    obtain ⟨i1, i2, i3⟩ := DI.wipe h (vs := vs) k.2
    exact ⟨i1.setN k.1, fun p hp => i2 p (drs_set _ _ v none none rfl p hp), (DC.x_set k.1).trans i3⟩
theorem wipe_at : ∀ {σ : L2.St} {vs : List Nat} (k : Nat), (wipe σ vs)[k]? = if k ∈ vs then (if k < σ.length then some none else none) else σ[k]?
  | σ, [], k => by simp [wipe]
  | σ, v :: vs, k => by
    unfold wipe
    rw [List.getElem?_set, wipe_length, wipe_at k]
    by_cases h : v = k
    · subst h
      simp
    · have h' : ¬ k = v := fun z => h z.symm
      simp [h, h']
theorem wipe_put {js vs : List Nat} {σ σ' : L2.St} {ρ ρ' : Env} (p : Put js (wipe σ vs) σ' ρ ρ') (h : ∀ j ∈ js, j ∈ vs) : wipe σ' vs = wipe σ vs := by
  refine List.ext_getElem? fun k => ?_
  rw [wipe_at, p.len, wipe_length]
  by_cases hk : k ∈ vs
  · rw [if_pos hk, wipe_at, if_pos hk]
  · rw [if_neg hk, p.at' k fun z => hk (h k z)]
theorem DI.mutFree {p : Addr} {x : HO} (I : DI c U H σ ρ) (nu : U p = none) (n0 : c.H0 p = none) (np : p ∉ owns ρ σ) (pl : Pl H p) : DI c U (upd H p x) σ ρ :=
  ⟨I.gr.mut nu (.inr n0) pl, reps_mut (fun q hq => (I.out q hq).1) np I.rep, I.nd, I.out, I.par, I.ko, I.ow, I.on⟩
/-- behind the walk's beginning -/
theorem lcw {js vs : List Nat} {g : TG} {ag : AG} {U H U1 H1 : Hp} {σ : L2.St} {ρ : Env} {Q : AV → Prop} {q : VK} {J : It} {ds : List D} (hg : SimG c js g ag) (ht : SimT c tt at') (he : SimE c te e) (hj : (js.all fun j => vs.contains j) = true) (hv : (vs.all fun i => noPar c i) = true)
    (g1 : Gr (drs ρ σ) U H U1 H1) (I1 : DI c U1 H1 σ ρ) (W : Walks c.K U1 J ds (fun H'' => ∃ U'', Gr (drs ρ σ) U1 H1 U'' H'')) (z1 : aComp ag at' e (wipeA ρ vs) (c.x ρ) ds [] (fun acc => Q (.ol acc)))
    (k : ∀ U' H' av v, Gr (drs ρ σ) U H U' H' → DI c U' H' σ ρ → RepA c.K U' H' av v → Fresh U' H av v → Q av → q v H') :
    tLc (fun _ H0 R => R J H0) g tt te vs σ H1 q := by
  obtain ⟨Y, w, hY⟩ := W
  intro Da nD
  have nD0 : H Da = none := g1.fresh nD
  have nDo : Da ∉ owns ρ σ := fun h => I1.ex Da h nD
  have nDd : Da ∉ drs ρ σ := fun h => nDo (drs_sub Da h)
  have nDH : c.H0 Da = none := I1.gr.fresh nD
  have hjs : ∀ j ∈ js, j ∈ vs := fun j hj' => by
    have := List.all_eq_true.mp hj j hj'
    exact List.contains_iff_mem.mp this
  refine lc_it (Qd := fun H' => q (.ref Da) H') w (fun n H' => ∃ U' acc accD, Gr (drs ρ σ) U1 H1 U' H' ∧ DI c U' H' σ ρ ∧ H' Da = some (.lst acc) ∧ U' Da = none ∧ Rs c.K U' accD acc ∧ aComp ag at' e (wipeA ρ vs) (c.x ρ) (ds.drop n) accD (fun acc => Q (.ol acc))) ?_ ?_ ?_ ?_
  · have g2 : Gr [] U1 H1 U1 (upd H1 Da (.lst [])) := (Gr.refl I1.vh).newM nD
    exact ⟨U1, [], [], g2.any, I1.grow g2, upd_same, I1.vh.free nD, rfl, z1⟩
  · rintro n H' hn ⟨U', acc, accD, gg, _⟩
    exact ⟨U', gg⟩
  · rintro n x H' H'' hn ⟨U', acc, accD, gg, I', hD, uD, hr, z2⟩ hy
    have ed : ds[n]? = some ds[n] := List.getElem?_eq_getElem hn
    obtain ⟨U3, g3, r3⟩ := hY n H' x H'' _ U' gg.vv I'.vh hy ed
    rw [drop_at ed] at z2
    have I3 := I'.grow g3
    obtain ⟨Iw, hdr, hxw⟩ := I3.wipe hv
    refine hg U3 H'' _ _ _ x _ _ Iw r3 z2 fun σ2 ρ2 I2 p2 z3 => ⟨wipe_put p2 hjs, ?_⟩
    have dr2 : ∀ p ∈ drs ρ2 σ2, p ∈ drs ρ σ := fun p hp => hdr p (p2.dr p hp)
    have hx2 : c.x ρ2 = c.x ρ := (p2.ex hv hjs).trans hxw
    rw [← hx2] at z3
    have uD3 : U3 Da = none := g3.fr Da uD (by rw [hD]; intro z; cases z)
    have hD3 := g3.hh _ _ (by simp) (ntb rfl) hD
    have drOf : ∀ {U5 H5 : Hp}, DI c U5 H5 σ2 ρ2 → ∀ p ∈ drs ρ2 σ2, p ∈ drs ρ σ ∧ Dr U5 H5 p := fun {U5 H5} I5 p hp => ⟨dr2 p hp, by
      have : ∀ {ρ : Env} {σ : L2.St}, Paired (RepS c.K U5 H5) ρ σ → ∀ p ∈ drs ρ σ, Dr U5 H5 p := by
        intro ρ σ h
        induction h with
        | nil => intro p hp; simp [drs] at hp
        | @cons a b ρ σ h t ih =>
          intro p hp
          have hp' : p ∈ drS a b ++ drs ρ σ := hp
          rcases List.mem_append.mp hp' with z | z
          · unfold drS at z
            split at z
            · obtain ⟨s, e1, e2⟩ := h
              have e' := V.ref.inj e1
              subst e'
              rw [List.mem_singleton.mp z]
              exact e2
            · cases z
          · exact ih p z
      exact this I5.rep p hp⟩
    refine ht U3 H'' σ2 ρ2 _ _ I2 z3 fun U5 H5 bo g5 I5 z5 => ?_
    have I5o := I3.step g5 (drOf I5)
    have n5 : Da ∉ drs ρ2 σ2 := fun h => nDd (dr2 Da h)
    have hD5 := g5.hh _ _ n5 (ntb rfl) hD3
    have uD5 : U5 Da = none := g5.fr Da uD3 (by rw [hD3]; intro z; cases z)
    have gg5 : Gr (drs ρ σ) U1 H1 U5 H5 := (gg.trans g3.any).trans (g5.weak dr2)
    cases bo with
    | false => exact i_itF ⟨U5, acc, accD, gg5, I5o, hD5, uD5, Rs.mono (g3.vv.trans g5.vv) _ _ hr, (by rw [← hx2]; exact z5)⟩
    | true =>
      refine i_itT (he U5 H5 σ2 ρ2 _ _ I5 z5 fun U6 H6 y vy g6 I6 r6 z6 => ?_)
      have I6o := I5o.step g6 (drOf I6)
      have hD6 := g6.hh _ _ n5 (ntb rfl) hD5
      have uD6 : U6 Da = none := g6.fr Da uD5 (by rw [hD5]; intro z; cases z)
      have hr6 := Rs.mono ((g3.vv.trans g5.vv).trans g6.vv) _ _ hr
      refine ⟨acc, hD6, lt_size (by rw [← hr.len]; exact z6.1), U6, acc ++ [vy], accD ++ [y], (gg5.trans (g6.weak dr2)).mut uD6 (.inr nD) (.of hD6 rfl), I6o.mutFree uD6 nDH nDo (.of hD6 rfl), upd_same, uD6, hr6.snoc r6, (by rw [← hx2]; exact z6.2)⟩
  · rintro H' ⟨U', acc, accD, gg, I', hD, uD, hr, z2⟩
    rw [List.drop_length] at z2
    exact k U' H' (.ol accD) (.ref Da) (g1.trans gg) I' ⟨Da, acc, rfl, hD, hr⟩ (.one rfl uD nD0) z2
theorem sim_lc {js vs : List Nat} {wi : TI} {it : AL} {g : TG} {ag : AG} (hi : SimIW c wi it) (hg : SimG c js g ag) (ht : SimT c tt at') (he : SimE c te e) (hj : (js.all fun j => vs.contains j) = true) (hv : (vs.all fun i => noPar c i) = true) :
    SimO c (tLc wi g tt te vs) (aLc it ag at' e vs) := fun U H σ ρ Q q I z k =>
  hi U H σ ρ _ _ I z fun U1 H1 J ds g1 I1 W z1 => lcw hg ht he hj hv g1 I1 W z1 k
end
end SW
namespace SW
open PySem PySem.Spec PyProof.Rows L2
variable [QN]
def AV.isDr : AV → Bool
  | .dr => true
  | _ => false
def bodyA (ks : List Bool) (nl : Nat) (a : AS) : AF := fun avs q x => avs.map AV.isDr = ks ∧ a ⟨fun _ => q (.fz .non), fun av _ => q av, fun _ => False, fun _ => False, fun e _ => x e⟩ (avs.map some ++ List.replicate nl none)
theorem owns_nil : ∀ (n m : Nat), owns (List.replicate n none) (List.replicate m none) = []
  | 0, m => rfl
  | n + 1, 0 => rfl
  | n + 1, m + 1 => owns_nil n m
theorem owns_args : ∀ (avs : List AV) (vs : List V) (n m : Nat), avs.length = vs.length → owns (avs.map some ++ List.replicate n none) (vs.map some ++ List.replicate m none) = ownAs avs vs
  | [], [], n, m, _ => owns_nil n m
  | a :: avs, v :: vs, n, m, h => by
    show own a v ++ owns (avs.map some ++ List.replicate n none) (vs.map some ++ List.replicate m none) = own a v ++ ownAs avs vs
    rw [owns_args avs vs n m (Nat.succ.inj h)]
theorem reps_args {K : PySem.W.Frag} {U H : Hp} (n : Nat) : ∀ {avs : List AV} {vs : List V}, Paired (RepA K U H) avs vs → Paired (RepS K U H) (avs.map some ++ List.replicate n none) (vs.map some ++ List.replicate n none)
  | _, _, .nil => by
    induction n with
    | zero => exact .nil
    | succ n ih => exact .cons trivial ih
  | _, _, .cons h t => .cons h (reps_args n t)
/-- the marked ones of a row with more behind it -/
theorem sel_map {α β : Type} (f : α → β) : ∀ (ks : List Bool) (xs : List α) (r : List β), ks.length = xs.length → selM ks (xs.map f ++ r) = (selM ks xs).map f
  | [], [], r, _ => by cases r <;> rfl
  | true :: ks, x :: xs, r, h => congrArg (f x :: ·) (sel_map f ks xs r (Nat.succ.inj h))
  | false :: ks, x :: xs, r, h => sel_map f ks xs r (Nat.succ.inj h)
/-- the marked ones hold all that is one's own -/
theorem sel_all : ∀ (avs : List AV) (vs : List V), avs.length = vs.length → ownAs (selM (avs.map AV.isOwn) avs) (selM (avs.map AV.isOwn) vs) = ownAs avs vs
  | [], [], _ => rfl
  | a :: avs, v :: vs, h => by
    have ih := sel_all avs vs (Nat.succ.inj h)
    cases a with
    | fz d =>
      show ownAs (selM (avs.map AV.isOwn) avs) (selM (avs.map AV.isOwn) vs) = own (.fz d) v ++ ownAs avs vs
      rw [ih]
      cases v <;> rfl
    | _ =>
      show own _ v ++ ownAs (selM (avs.map AV.isOwn) avs) (selM (avs.map AV.isOwn) vs) = own _ v ++ ownAs avs vs
      rw [ih]
/-- parameters that are not marked hold nothing of one's own -/
theorem args_nw {avs : List AV} {nl i : Nat} {av : AV} {v : V} (h : (avs.map AV.isOwn).getD i false = false) (e : (avs.map some ++ List.replicate nl none)[i]? = some (some av)) : own av v = [] := by
  rw [List.getElem?_append, List.length_map] at e
  split at e
  · rw [List.getElem?_map] at e
    cases ea : avs[i]? with
    | none => rw [ea] at e; cases e
    | some a =>
      rw [ea] at e
      cases e
      rw [List.getD, List.getElem?_map, ea] at h
      have h' : av.isOwn = false := h
      cases av with
      | fz d => cases v <;> rfl
      | _ => cases h'
  · rw [List.getElem?_replicate] at e
    split at e <;> cases e
/-- each slot's own places -/
def ownL : Env → L2.St → List (List Addr)
  | a :: ρ, v :: σ => ownS a v :: ownL ρ σ
  | _, _ => []
theorem ownL_len : ∀ {ρ : Env} {σ : L2.St}, ρ.length = σ.length → (ownL ρ σ).length = σ.length
  | [], [], _ => rfl
  | a :: ρ, v :: σ, h => congrArg (· + 1) (ownL_len (Nat.succ.inj h))
theorem ownL_at : ∀ {ρ : Env} {σ : L2.St} {i : Nat} {av : AV} {v : V}, ρ[i]? = some (some av) → σ[i]? = some (some v) → (ownL ρ σ).getD i [] = own av v
  | [], _, i, av, v, h, _ => by simp at h
  | _ :: _, [], i, av, v, _, h => by simp at h
  | a :: ρ, w :: σ, 0, av, v, h1, h2 => by
    have e1 := Option.some.inj h1
    have e2 := Option.some.inj h2
    subst e1 e2
    rfl
  | a :: ρ, w :: σ, i + 1, av, v, h1, h2 => ownL_at (ρ := ρ) (σ := σ) (i := i) h1 h2
theorem ownL_no : ∀ {ρ : Env} {σ : L2.St} {i : Nat}, (ρ[i]? = none ∨ ρ[i]? = some none) → (ownL ρ σ).getD i [] = []
  | [], _, i, _ => by unfold ownL; rfl
  | _ :: _, [], i, _ => by unfold ownL; rfl
  | a :: ρ, w :: σ, 0, h => by
    rcases h with h | h
    · cases h
    · have e1 := Option.some.inj h
      subst e1
      rfl
  | a :: ρ, w :: σ, i + 1, h => ownL_no (ρ := ρ) (σ := σ) (i := i) h
/-- where a def's body begins -/
theorem start_DI {K : PySem.W.Frag} {U H : Hp} {avs : List AV} {vs : List V} {nl : Nat} {X : Exn → List (Option AV) → Prop} {E : XK} {tb : List Addr} (sU : Same U H) (rep : Paired (RepA K U H) avs vs) (nd : (ownAs avs vs).Nodup) (out : ∀ p ∈ ownAs avs vs, U p = none) (ok : DC.Ok ⟨K, avs.map AV.isOwn, (selM (avs.map AV.isOwn) avs).map AV.kind, selM (avs.map AV.isOwn) vs, ownL (avs.map some ++ List.replicate nl none) (vs.map some ++ List.replicate nl none), ownAs avs vs, U, H, X, fun _ => E, tb⟩) :
    DI ⟨K, avs.map AV.isOwn, (selM (avs.map AV.isOwn) avs).map AV.kind, selM (avs.map AV.isOwn) vs, ownL (avs.map some ++ List.replicate nl none) (vs.map some ++ List.replicate nl none), ownAs avs vs, U, H, X, fun _ => E, tb⟩ U H (vs.map some ++ List.replicate nl none) (avs.map some ++ List.replicate nl none) := by
  have lv : avs.length = vs.length := rep.length
  refine ⟨Gr.refl sU, reps_args nl rep, ?_, ?_, ⟨?_, selM (avs.map AV.isOwn) avs, ?_, rfl⟩, ok, fun i av v e1 e2 p hp => .inl (by rw [ownL_at e1 e2]; exact hp), ?_, fun i hn => ?_⟩
  · rw [owns_args avs vs nl nl lv]
    exact nd
  · rw [owns_args avs vs nl nl lv]
    exact fun p hp => ⟨out p hp, .inl hp⟩
  · exact sel_map some _ vs _ (by rw [List.length_map]; exact lv)
  · exact sel_map some _ avs _ (by rw [List.length_map])
  · rw [ownL_len (reps_args nl rep).length]
  · cases e1 : (avs.map some ++ List.replicate nl none)[i]? with
    | none => exact ownL_no (.inl e1)
    | some a =>
      cases a with
      | none => exact ownL_no (.inr e1)
      | some av =>
        obtain ⟨v, e2, _⟩ := rep_at (reps_args nl rep) i av e1
        rw [ownL_at e1 e2]
        exact args_nw (noPar_of hn) e1
theorem isDr_own : ∀ {avs : List AV}, (∀ a ∈ avs, a = .dr ∨ ∃ d, a = .fz d) → avs.map AV.isOwn = avs.map AV.isDr
  | [], _ => rfl
  | a :: avs, h => by
    rw [List.map_cons, List.map_cons, isDr_own fun x hx => h x (List.mem_cons_of_mem _ hx)]
    rcases h a List.mem_cons_self with rfl | ⟨d, rfl⟩ <;> rfl
theorem kind_dr : ∀ {avs bs : List AV}, (∀ a ∈ avs, a = .dr) → bs.map AV.kind = avs.map AV.kind → ∀ b ∈ bs, b = .dr
  | [], [], _, _, b, hb => by cases hb
  | [], b' :: bs, _, e, b, hb => by cases e
  | a :: avs, [], _, e, b, hb => by cases hb
  | a :: avs, b' :: bs, h, e, b, hb => by
    have e' := List.cons.inj e
    obtain ⟨e1, e2⟩ := e'
    rcases List.mem_cons.mp hb with rfl | hb
    · rw [h a List.mem_cons_self] at e1
      cases b <;> first | rfl | cases e1
    · exact kind_dr (fun x hx => h x (List.mem_cons_of_mem _ hx)) e2 b hb
theorem sel_dr : ∀ {avs : List AV}, (∀ a ∈ avs, a = .dr ∨ ∃ d, a = .fz d) → ∀ a ∈ selM (avs.map AV.isOwn) avs, a = .dr
  | [], _, a, ha => by cases ha
  | x :: avs, h, a, ha => by
    have ih := sel_dr (avs := avs) fun y hy => h y (List.mem_cons_of_mem _ hy)
    rcases h x List.mem_cons_self with rfl | ⟨d, rfl⟩
    · rcases List.mem_cons.mp ha with rfl | ha
      · rfl
      · exact ih a ha
    · exact ih a ha
theorem reps_dr {K : PySem.W.Frag} {U H : Hp} : ∀ {bs : List AV} {vs : List V}, RepAs K U H bs vs → (∀ b ∈ bs, b = .dr) → ownAs bs vs = ownAs (bs.map fun _ => .dr) vs ∧ ∀ p ∈ ownAs bs vs, Dr U H p
  | [], _, h, _ => by
    rw [show _ = [] from h]
    exact ⟨rfl, fun p hp => by cases hp⟩
  | b :: bs, _, ⟨v, r, e, h1, h2⟩, k => by
    subst e
    have e1 := k b List.mem_cons_self
    subst e1
    obtain ⟨i1, i2⟩ := reps_dr h2 fun x hx => k x (List.mem_cons_of_mem _ hx)
    refine ⟨by show own .dr v ++ ownAs bs r = own .dr v ++ ownAs (bs.map fun _ => .dr) r; rw [i1], fun p hp => ?_⟩
    rcases List.mem_append.mp hp with z | z
    · obtain ⟨s, rfl, d⟩ := h1
      rw [List.mem_singleton.mp z]
      exact d
    · exact i2 p z
theorem run_body {K : PySem.W.Frag} {ks : List Bool} {nl : Nat} {a : AS} {vs : List V} {H : Hp} {Q : VK} {E : XK} {t : TS} {σ : L2.St} {tb : List Addr} (h : spD K tb (bodyA ks nl a) vs H Q E) (hσ : σ = vs.map some ++ List.replicate nl none) (hs : ∀ pk pv O M U0 H0 X, SimS ⟨K, ks, pk, pv, O, M, U0, H0, X, fun _ => E, tb⟩ t a) :
    t { nx := fun _ H' => Q .non H', rt := Q } σ H := by
  obtain ⟨U, avs, q, x, sU, tbs, rep, kd, l1, ⟨hk, hb⟩, kq, kx⟩ := h
  subst hσ
  have lv : avs.length = vs.length := rep.length
  have dr := dr_args rep kd
  have ek : avs.map AV.isOwn = ks := (isDr_own kd).trans hk
  have nd : (ownAs avs vs).Nodup := by
    match ownAs avs vs, l1 with
    | [], _ => simp
    | [p], _ => simp
  have pdr : ∀ {U' H' : Hp} {as : List (Option AV)}, ParRep ⟨K, avs.map AV.isOwn, (selM (avs.map AV.isOwn) avs).map AV.kind, selM (avs.map AV.isOwn) vs, ownL (avs.map some ++ List.replicate nl none) (vs.map some ++ List.replicate nl none), ownAs avs vs, U, H, fun e _ => x e, fun _ => E, tb⟩ U' H' as → ∀ p ∈ ownAs avs vs, Dr U' H' p := fun {U' H' as} pr => by
    obtain ⟨bs, _, r, k, _⟩ := pr.ex
    have hb := kind_dr (sel_dr kd) k
    obtain ⟨o1, o2⟩ := reps_dr r hb
    have e0 := sel_all avs vs lv
    obtain ⟨o3, _⟩ := reps_dr (K := K) (U := U) (H := H) (bs := selM (avs.map AV.isOwn) avs) (vs := selM (avs.map AV.isOwn) vs) (by
      have go : ∀ (ks : List Bool) {as : List AV} {ws : List V}, Paired (RepA K U H) as ws → RepAs K U H (selM ks as) (selM ks ws) := by
        intro ks
        induction ks with
        | nil => intro as ws h; cases h <;> rfl
        | cons b ks ih =>
          intro as ws h
          cases h with
          | nil => cases b <;> rfl
          | cons h t => cases b with
            | true => exact ⟨_, _, rfl, h, ih t⟩
            | false => exact ih t
      exact go _ rep) (sel_dr kd)
    have len : bs.length = (selM (avs.map AV.isOwn) avs).length := by
      have := congrArg List.length k
      rwa [List.length_map, List.length_map] at this
    have em : bs.map (fun _ => AV.dr) = (selM (avs.map AV.isOwn) avs).map (fun _ => AV.dr) := by
      rw [List.map_const', List.map_const', len]
    intro p hp
    rw [← e0, o3, ← em, ← o1] at hp
    exact o2 p hp
  have I := start_DI (K := K) (nl := nl) (X := fun e _ => x e) (E := E) sU rep nd (fun p hp => (dr p hp).out) ⟨fun U' H' _ as ex cls o _ _ g pr xr z => kx U' H' ex cls o g xr (pdr pr) z, tbs⟩
  have hs' : SimS ⟨K, avs.map AV.isOwn, (selM (avs.map AV.isOwn) avs).map AV.kind, selM (avs.map AV.isOwn) vs, ownL (avs.map some ++ List.replicate nl none) (vs.map some ++ List.replicate nl none), ownAs avs vs, U, H, fun e _ => x e, fun _ => E, tb⟩ t a := by rw [ek]; exact hs _ _ _ _ _ _ _
  refine hs' U H _ _ _ _ rfl I hb ⟨?_, ?_, ?_, ?_⟩
  · exact fun U' H' σ' ρ' _ I z => kq U' H' (.fz .non) .non I.gr rfl .fz (pdr I.pars) z
  · exact fun U' H' σ' ρ' av v I r n1 n z => kq U' H' av v I.gr r ⟨n1, fun p hp => ⟨(n p hp).1, (n p hp).2.1⟩⟩ (pdr I.pars) z
  · exact fun U' H' σ' ρ' _ I z => z.elim
  · exact fun U' H' σ' ρ' _ I z => z.elim
theorem spD_len {K : PySem.W.Frag} {ks : List Bool} {nl : Nat} {a : AS} {vs : List V} {H : Hp} {Q : VK} {E : XK} {tb : List Addr} (h : spD K tb (bodyA ks nl a) vs H Q E) : vs.length = ks.length := by
  obtain ⟨U, avs, q, x, sU, tbs, rep, kd, l1, ⟨hk, hb⟩, kq, kx⟩ := h
  rw [← rep.length, ← hk, List.length_map]
end SW
namespace SW
open PySem PySem.Spec PyProof.Rows L2
variable [QN]
section
variable {K : PySem.W.Frag} {U H U' H' : Hp}
def oI (g : Int → Int → D) : D → D → (D → Prop) → Prop := fun d e Q => intQ (fun i => intQ (fun j => Q (g i j)) e) d
def oIC (C : Int → Int → Prop) (g : Int → Int → D) : D → D → (D → Prop) → Prop := fun d e Q => intQ (fun i => intQ (fun j => C i j ∧ Q (g i j)) e) d
theorem op_i0 {gV : Int → Int → V} {gD : Int → Int → D} (h : ∀ i j U, R K U (gD i j) (gV i j)) : OpD K (rI0 gV) (oI gD) := fun U H v w d e Q q s cd ce z k => by
  obtain ⟨i, rfl, y⟩ := intQ_of z
  obtain ⟨j, rfl, y2⟩ := intQ_of y
  exact ⟨i, j, cd.int, ce.int, k U H _ _ (Gr.refl s) (h i j U) y2⟩
theorem op_ic {C : Int → Int → Prop} {gV : Int → Int → V} {gD : Int → Int → D} (h : ∀ i j U, R K U (gD i j) (gV i j)) : OpD K (rI C gV) (oIC C gD) := fun U H v w d e Q q s cd ce z k => by
  obtain ⟨i, rfl, y⟩ := intQ_of z
  obtain ⟨j, rfl, z1, y2⟩ := intQ_of y
  exact ⟨i, j, cd.int, ce.int, z1, k U H _ _ (Gr.refl s) (h i j U) y2⟩
def oU (g : Int → D) : D → (D → Prop) → Prop := fun d Q => intQ (fun i => Q (g i)) d
theorem un_i {gV : Int → V} {gD : Int → D} (h : ∀ i U, R K U (gD i) (gV i)) : UnD K (rU gV) (oU gD) := fun U H v d Q q s cd z k => by
  obtain ⟨i, rfl, z⟩ := intQ_of z
  exact ⟨i, cd.int, k U H _ _ (Gr.refl s) (h i U) z⟩
abbrev oAdd := oI fun i j => .int (i + j)
abbrev oSub := oI fun i j => .int (i - j)
abbrev oMul := oIC CMul fun i j => .int (i * j)
abbrev oDiv := oIC CDiv fun i j => .int (i / j)
abbrev oMod := oIC (fun _ j => 0 < j) fun i j => .int (i % j)
abbrev oLt := oI fun i j => .bl (decide (i < j))
abbrev oLe := oI fun i j => .bl (decide (i ≤ j))
abbrev oGt := oI fun i j => .bl (decide (j < i))
abbrev oNeg := oU fun i => .int (-i)
def eqS : D → D → Option Bool
  | .int a, .int b => some (decide (a = b))
  | .str a, .str b => some (decide (a = b))
  | .bl a, .bl b => some (decide (a = b))
  | .non, .non => some true
  | .non, .int _ => some false
  | .int _, .non => some false
  | .non, .bl _ => some false
  | .bl _, .non => some false
  | .non, .str _ => some false
  | .str _, .non => some false
  | .int _, .str _ => some false
  | .str _, .int _ => some false
  | .bl _, .str _ => some false
  | .str _, .bl _ => some false
  | _, _ => none
def someQ {α : Type} (Q : α → Prop) : Option α → Prop
  | some x => Q x
  | none => False
theorem someQ_of {α : Type} {Q : α → Prop} {o : Option α} (h : someQ Q o) : ∃ x, o = some x ∧ Q x := by
  cases o with
  | none => exact h.elim
  | some x => exact ⟨x, rfl, h⟩
theorem decide_inj {α β : Type} [DecidableEq α] [DecidableEq β] {f : α → β} (hf : ∀ a b, f a = f b → a = b) (a b : α) : decide (f a = f b) = decide (a = b) := by
  by_cases h : a = b
  · rw [decide_eq_true h, decide_eq_true (congrArg f h)]
  · rw [decide_eq_false h, decide_eq_false (fun z => h (hf a b z))]
theorem eqS_of {d e : D} {v w : V} {b : Bool} (cd : CR K U H d v) (ce : CR K U H e w) (h : eqS d e = some b) : scal v w = true ∧ decide (v = w) = b := by
  unfold eqS at h
  split at h <;> first
    | (cases h; rw [cd.int, ce.int]; exact ⟨rfl, decide_inj (fun _ _ => V.int.inj) _ _⟩)
    | (cases h; rw [cd.str, ce.str]; exact ⟨rfl, decide_inj (fun _ _ => V.str.inj) _ _⟩)
    | (cases h; rw [cd.bl, ce.bl]; exact ⟨rfl, decide_inj (fun _ _ => V.bl.inj) _ _⟩)
    | (cases h; rw [cd.non, ce.non]; exact ⟨rfl, rfl⟩)
    | (cases h; rw [cd.non, ce.int]; exact ⟨rfl, rfl⟩)
    | (cases h; rw [cd.int, ce.non]; exact ⟨rfl, rfl⟩)
    | (cases h; rw [cd.non, ce.bl]; exact ⟨rfl, rfl⟩)
    | (cases h; rw [cd.bl, ce.non]; exact ⟨rfl, rfl⟩)
    | (cases h; rw [cd.non, ce.str]; exact ⟨rfl, rfl⟩)
    | (cases h; rw [cd.str, ce.non]; exact ⟨rfl, rfl⟩)
    | (cases h; rw [cd.int, ce.str]; exact ⟨rfl, rfl⟩)
    | (cases h; rw [cd.str, ce.int]; exact ⟨rfl, rfl⟩)
    | (cases h; rw [cd.bl, ce.str]; exact ⟨rfl, rfl⟩)
    | (cases h; rw [cd.str, ce.bl]; exact ⟨rfl, rfl⟩)
    | cases h
def oEq : D → D → (D → Prop) → Prop := fun d e Q => someQ (fun b => Q (.bl b)) (eqS d e)
def oNe : D → D → (D → Prop) → Prop := fun d e Q => someQ (fun b => Q (.bl (!b))) (eqS d e)
theorem op_eqS : OpD K rEq oEq := fun U H v w d e Q q s cd ce z k => by
  obtain ⟨b, h, z⟩ := someQ_of z
  obtain ⟨h1, h2⟩ := eqS_of cd ce h
  refine ⟨h1, ?_⟩
  rw [h2]
  exact k U H (.bl b) _ (Gr.refl s) rfl z
theorem op_neS : OpD K rNe oNe := fun U H v w d e Q q s cd ce z k => by
  obtain ⟨b, h, z⟩ := someQ_of z
  obtain ⟨h1, h2⟩ := eqS_of cd ce h
  refine ⟨h1, ?_⟩
  rw [h2]
  exact k U H (.bl (!b)) _ (Gr.refl s) rfl z
def isNonD : D → Bool
  | .non => true
  | _ => false
def nonQ (P : Prop) : D → Prop
  | .non => P
  | _ => False
def oIsN : D → D → (D → Prop) → Prop := fun d e Q => nonQ (Q (.bl (isNonD d))) e
def oNotN : D → D → (D → Prop) → Prop := fun d e Q => nonQ (Q (.bl (!isNonD d))) e
def flatD : D → Bool
  | .non => true
  | .bl _ => true
  | .int _ => true
  | .str _ => true
  | _ => false
def eqF : D → D → Bool
  | .non, .non => true
  | .bl a, .bl b => a == b
  | .bl a, .int b => (if a then 1 else 0) == b
  | .int a, .bl b => a == (if b then 1 else 0)
  | .int a, .int b => a == b
  | .str a, .str b => a == b
  | _, _ => false
theorem flat_r {d : D} {v : V} (h : flatD d = true) (r : R K U d v) : flatV v = true := by
  cases d <;> first | (rw [show v = _ from r]; rfl) | cases h
theorem eqF_r {d e : D} {v w : V} (h : flatD d = true) (h' : flatD e = true) (r : R K U d v) (r' : R K U e w) : eqV v w = eqF d e := by
  cases d <;> first | (rw [show v = _ from r]; cases e <;> first | (rw [show w = _ from r']; rfl) | cases h') | cases h
def inF (d : D) (ds : List D) : Bool := ds.any fun y => eqF y d
theorem inF_r {d : D} {v : V} (hd : flatD d = true) (r : R K U d v) : ∀ {ds : List D} {xs : List V}, Rs K U ds xs → ds.all flatD = true → xs.all flatV = true ∧ inV v xs = inF d ds
  | [], _, h, _ => by
    rw [show _ = [] from h]
    exact ⟨rfl, rfl⟩
  | e :: ds, _, ⟨w, ws, h1, h2, h3⟩, hf => by
    subst h1
    rw [List.all_cons, Bool.and_eq_true] at hf
    obtain ⟨k1, k2⟩ := inF_r hd r h3 hf.2
    refine ⟨by rw [List.all_cons, flat_r hf.1 h2, k1]; rfl, ?_⟩
    show (eqV w v || inV v ws) = (eqF e d || inF d ds)
    rw [k2, eqF_r hf.1 hd h2 r]
def seqQ (Q : List D → Prop) : D → Prop
  | .lst ds => Q ds
  | .tup ds => Q ds
  | _ => False
theorem seqQ_of {Q : List D → Prop} {d : D} (h : seqQ Q d) : ∃ ds, (d = .lst ds ∨ d = .tup ds) ∧ Q ds := by
  cases d <;> first | exact ⟨_, .inl rfl, h⟩ | exact ⟨_, .inr rfl, h⟩ | exact h.elim
theorem CR.flat {d : D} {v : V} (h : CR K U H d v) (f : flatD d = true) : R K U d v := by
  obtain ⟨av, h1, h2⟩ := h
  cases av <;> first | (cases h2; exact h1) | (cases h2; cases f) | cases h2
theorem CR.seq {d : D} {v : V} {ds : List D} (h : CR K U H d v) (s : Same U H) (e : d = .lst ds ∨ d = .tup ds) : ∃ a xs, v = .ref a ∧ (SqL K H a xs ∨ SqT K H a xs) ∧ Rs K U ds xs := by
  rcases e with rfl | rfl
  · obtain ⟨a, xs, h1, h2, h3⟩ := h.lst s
    exact ⟨a, xs, h1, .inl (SqL.of h2), h3⟩
  · obtain ⟨a, xs, h1, h2, h3⟩ := h.tup s
    exact ⟨a, xs, h1, .inr h2, h3⟩
def oIn : D → D → (D → Prop) → Prop := fun d e Q => seqQ (fun ds => flatD d = true ∧ ds.all flatD = true ∧ Q (.bl (inF d ds))) e
def oNotIn : D → D → (D → Prop) → Prop := fun d e Q => seqQ (fun ds => flatD d = true ∧ ds.all flatD = true ∧ Q (.bl (!inF d ds))) e
theorem op_inS' : OpD K (rIn K false) oIn := fun U H v w d e Q q s cd ce z k => by
  obtain ⟨ds, he, z1, z2, z⟩ := seqQ_of z
  obtain ⟨a, xs, rfl, h1, h2⟩ := ce.seq s he
  have r := cd.flat z1
  obtain ⟨k1, k2⟩ := inF_r z1 r h2 z2
  refine ⟨a, xs, rfl, h1, flat_r z1 r, k1, ?_⟩
  rw [k2]
  exact k U H (.bl _) _ (Gr.refl s) rfl z
theorem op_notInS' : OpD K (rIn K true) oNotIn := fun U H v w d e Q q s cd ce z k => by
  obtain ⟨ds, he, z1, z2, z⟩ := seqQ_of z
  obtain ⟨a, xs, rfl, h1, h2⟩ := ce.seq s he
  have r := cd.flat z1
  obtain ⟨k1, k2⟩ := inF_r z1 r h2 z2
  refine ⟨a, xs, rfl, h1, flat_r z1 r, k1, ?_⟩
  rw [k2]
  exact k U H (.bl _) _ (Gr.refl s) rfl z
theorem atI_r {ds : List D} {xs : List V} {k : Int} {d : D} (r : Rs K U ds xs) (h : atI ds k = some d) : ∃ v, atI xs k = some v ∧ R K U d v := by
  unfold atI at h ⊢
  rw [← r.len]
  cases e : ixN ds.length k with
  | none => rw [e] at h; cases h
  | some j =>
    rw [e] at h
    obtain ⟨v, h1, h2⟩ := r.at j d h
    exact ⟨v, h1, h2⟩
def oIxL : D → D → (D → Prop) → Prop := fun d e Q => lstQ (fun ds => intQ (fun k => someQ Q (atI ds k)) e) d
def oIxT : D → D → (D → Prop) → Prop := fun d e Q => tupQ (fun ds => intQ (fun k => someQ Q (atI ds k)) e) d
theorem op_ixL : OpD K (rIxL K) oIxL := fun U H v w d e Q q s cd ce z k => by
  obtain ⟨ds, rfl, z⟩ := lstQ_of z
  obtain ⟨i, rfl, z⟩ := intQ_of z
  obtain ⟨x, h, z⟩ := someQ_of z
  obtain ⟨a, xs, rfl, h1, h2⟩ := cd.lst s
  obtain ⟨u, e1, e2⟩ := atI_r h2 h
  exact ⟨a, xs, i, u, rfl, ce.int, SqL.of h1, e1, k U H x u (Gr.refl s) e2 z⟩
theorem op_ixT : OpD K (rIxT K) oIxT := fun U H v w d e Q q s cd ce z k => by
  obtain ⟨ds, rfl, z⟩ := tupQ_of z
  obtain ⟨i, rfl, z⟩ := intQ_of z
  obtain ⟨x, h, z⟩ := someQ_of z
  obtain ⟨a, xs, rfl, h1, h2⟩ := cd.tup s
  obtain ⟨u, e1, e2⟩ := atI_r h2 h
  exact ⟨a, xs, i, u, rfl, ce.int, h1, e1, k U H x u (Gr.refl s) e2 z⟩
def strQ (Q : Str → Prop) : D → Prop
  | .str x => Q x
  | _ => False
theorem strQ_of {Q : Str → Prop} {d : D} (h : strQ Q d) : ∃ x, d = .str x ∧ Q x := by
  cases d <;> first | exact ⟨_, rfl, h⟩ | exact h.elim
def oIxS : D → D → (D → Prop) → Prop := fun d e Q => strQ (fun x => x.length ≤ 1000000 ∧ intQ (fun k => someQ (fun c => Q (.str ⟨#[c]⟩)) (atI x.cps.toList k)) e) d
theorem op_ixS : OpD K rIxS oIxS := fun U H v w d e Q q s cd ce z k => by
  obtain ⟨x, rfl, z1, z⟩ := strQ_of z
  obtain ⟨i, rfl, z⟩ := intQ_of z
  obtain ⟨c, h, z⟩ := someQ_of z
  exact ⟨x, i, c, cd.str, ce.int, le_size z1, h, k U H (.str _) _ (Gr.refl s) rfl z⟩
def oCat : D → D → (AV → Prop) → Prop := fun d e Q => lstQ (fun xs => lstQ (fun ys => xs.length + ys.length ≤ 1000000 ∧ Q (.ol (xs ++ ys))) e) d
theorem own_new {p : Addr} {xs : List V} {ds : List D} {q : VK} {Q : AV → Prop} (s : Same U H) (n : H p = none) (r : Rs K U ds xs) (z : Q (.ol ds))
    (k : ∀ U' H' av u, Gr [] U H U' H' → RepA K U' H' av u → Fresh U' H av u → Q av → q u H') : q (.ref p) (upd H p (.lst xs)) :=
  k U _ (.ol ds) (.ref p) ((Gr.refl s).newM n) ⟨p, xs, rfl, upd_same, r⟩ (.one rfl (s.free n) n) z
theorem op_catD : OpO K rCat oCat := fun U H v w d e Q q s cd ce z k => by
  obtain ⟨xs, rfl, y⟩ := lstQ_of z
  obtain ⟨ys, rfl, z1, z⟩ := lstQ_of y
  obtain ⟨a, us, rfl, h1, h2⟩ := cd.lst s
  obtain ⟨b, ws, rfl, h3, h4⟩ := ce.lst s
  exact ⟨a, b, us, ws, rfl, rfl, h1, h3, le_size (by rw [← h2.len, ← h4.len]; exact z1), fun p np => own_new s np (h2.app h4) z k⟩
def oCatT : D → D → (D → Prop) → Prop := fun d e Q => tupQ (fun xs => tupQ (fun ys => xs.length + ys.length ≤ 1000000 ∧ Q (.tup (xs ++ ys))) e) d
theorem op_catTD : OpD K (rCatA K) oCatT := fun U H v w d e Q q s cd ce z k => by
  obtain ⟨xs, rfl, y⟩ := tupQ_of z
  obtain ⟨ys, rfl, z1, z⟩ := tupQ_of y
  have cd' := cd.tup s
  have ce' := ce.tup s
  have rd := cd.tupR
  have re := ce.tupR
  obtain ⟨a, us, rfl, h1, h2⟩ := cd'
  obtain ⟨b, ws, rfl, h3, h4⟩ := ce'
  refine ⟨a, b, us, ws, rfl, rfl, h1, h3, le_size (by rw [← h2.len, ← h4.len]; exact z1), fun e0 => ?_, fun _ e0 => ?_, fun _ _ p np => ?_⟩
  · have : xs = [] := List.length_eq_zero_iff.mp (by rw [h2.len, e0]; rfl)
    subst this
    exact k U H _ _ (Gr.refl s) re z
  · have : ys = [] := List.length_eq_zero_iff.mp (by rw [h4.len, e0]; rfl)
    subst this
    rw [List.append_nil] at z
    exact k U H _ _ (Gr.refl s) rd z
  · have g := (Gr.refl (M := []) s).new (o := .tup (us ++ ws)) np
    exact k _ _ (.tup (xs ++ ys)) (.ref p) g (R.tup upd_same (Rs.mono g.vv _ _ (h2.app h4))) z
def oLen : List D → (D → Prop) → Prop := oneQ₂ where
  oneQ₂ : List D → (D → Prop) → Prop := fun ds Q => oneQ (seqQ fun xs => Q (.int xs.length)) ds
theorem bu_len : BuD K (rLenK K) oLen := fun U H vs ds Q q s r z k => by
  obtain ⟨d, rfl, z⟩ := oneQ_of z
  obtain ⟨xs, e, z⟩ := seqQ_of z
  obtain ⟨v, rfl, c⟩ := paired1 r
  obtain ⟨a, us, rfl, h1, h2⟩ := c.seq s e
  refine ⟨a, us, rfl, h1, ?_⟩
  rw [← h2.len]
  exact k U H (.int _) _ (Gr.refl s) rfl z
def oList : List D → (AV → Prop) → Prop := fun ds Q => oneQ (seqQ fun xs => Q (.ol xs)) ds
theorem bu_list : BuO K (rListK K) oList := fun U H vs ds Q q s r z k => by
  obtain ⟨d, rfl, z⟩ := oneQ_of z
  obtain ⟨xs, e, z⟩ := seqQ_of z
  obtain ⟨v, rfl, c⟩ := paired1 r
  obtain ⟨a, us, rfl, h1, h2⟩ := c.seq s e
  exact ⟨a, us, rfl, h1, fun p np => own_new s np h2 z k⟩
def oTuple : List D → (D → Prop) → Prop := fun ds Q => oneQ (seqQ fun xs => Q (.tup xs)) ds
theorem bu_tuple : BuD K (rTupleK K) oTuple := fun U H vs ds Q q s r z k => by
  obtain ⟨d, rfl, z⟩ := oneQ_of z
  obtain ⟨xs, e, z⟩ := seqQ_of z
  obtain ⟨v, rfl, c⟩ := paired1 r
  rcases e with rfl | rfl
  · obtain ⟨a, us, rfl, h1, h2⟩ := c.lst s
    refine ⟨a, us, rfl, .inl ⟨SqL.of h1, fun p np => ?_⟩⟩
    have g := (Gr.refl (M := []) s).new (o := .tup us) np
    exact k _ _ (.tup xs) (.ref p) g (R.tup upd_same (Rs.mono g.vv _ _ h2)) z
  · have re := c.tupR
    obtain ⟨a, us, rfl, h1, h2⟩ := c.tup s
    exact ⟨a, us, rfl, .inr ⟨h1, k U H _ _ (Gr.refl s) re z⟩⟩
def blsOf : List D → Option (List Bool)
  | [] => some []
  | .bl i :: ds => (blsOf ds).map (i :: ·)
  | _ => none
def strsOf : List D → Option (List Str)
  | [] => some []
  | .str i :: ds => (strsOf ds).map (i :: ·)
  | _ => none
theorem strsOf_map (ns : List Str) : strsOf (ns.map D.str) = some ns := by
  induction ns with
  | nil => rfl
  | cons n ns ih => show (strsOf (ns.map D.str)).map (n :: ·) = _; rw [ih]; rfl
theorem blsOf_eq : ∀ {ds : List D} {ns : List Bool}, blsOf ds = some ns → ds = ns.map D.bl
  | [], ns, h => by cases h; rfl
  | d :: ds, ns, h => by
    cases d with
    | bl i =>
      have h' : (blsOf ds).map (i :: ·) = some ns := h
      cases e : blsOf ds with
      | none => rw [e] at h'; cases h'
      | some ms => rw [e] at h'; cases h'; rw [blsOf_eq e]; rfl
    | _ => cases h
theorem strsOf_eq : ∀ {ds : List D} {ns : List Str}, strsOf ds = some ns → ds = ns.map D.str
  | [], ns, h => by cases h; rfl
  | d :: ds, ns, h => by
    cases d with
    | str i =>
      have h' : (strsOf ds).map (i :: ·) = some ns := h
      cases e : strsOf ds with
      | none => rw [e] at h'; cases h'
      | some ms => rw [e] at h'; cases h'; rw [strsOf_eq e]; rfl
    | _ => cases h
def oBls (f : List Bool → D) : List D → (D → Prop) → Prop := fun ds Q => oneQ (lstQ fun xs => someQ (fun ns => Q (f ns)) (blsOf xs)) ds
theorem oBls_of {f : List Bool → D} {ds : List D} {vs : List V} {Q : D → Prop} (s : Same U H) (r : Paired (CR K U H) ds vs) (z : oBls f ds Q) : ∃ a ns, vs = [.ref a] ∧ H a = some (.lst (ns.map V.bl)) ∧ Q (f ns) := by
  obtain ⟨d, rfl, z⟩ := oneQ_of z
  obtain ⟨xs, rfl, z⟩ := lstQ_of z
  obtain ⟨ns, e, z⟩ := someQ_of z
  obtain ⟨v, rfl, c⟩ := paired1 r
  obtain ⟨a, us, rfl, h1, h2⟩ := c.lst s
  rw [blsOf_eq e] at h2
  rw [h2.bls] at h1
  exact ⟨a, ns, rfl, h1, z⟩
abbrev oAll := oBls fun ns => .bl (ns.all id)
abbrev oAny := oBls fun ns => .bl (ns.any id)
theorem bu_all : BuD K (rAll K) oAll := fun U H vs ds Q q s r z k => by
  obtain ⟨a, ns, rfl, h, z⟩ := oBls_of s r z
  exact ⟨a, ns, rfl, SqL.of h, k U H (.bl _) _ (Gr.refl s) rfl z⟩
theorem bu_any : BuD K (rAny K) oAny := fun U H vs ds Q q s r z k => by
  obtain ⟨a, ns, rfl, h, z⟩ := oBls_of s r z
  exact ⟨a, ns, rfl, SqL.of h, k U H (.bl _) _ (Gr.refl s) rfl z⟩
/-- isinstance with a built-in class -/
def tyD : D → Option String
  | .int _ => some "int"
  | .bl _ => some "bool"
  | .str _ => some "str"
  | .non => some "NoneType"
  | .lst _ => some "list"
  | .tup _ => some "tuple"
  | _ => none
def isiD (n m : String) : Bool := n == m || (n == "bool" && m == "int")
def tyQ (Q : String → Prop) : D → Prop
  | .ty n => Q n
  | _ => False
theorem tyQ_of {Q : String → Prop} {d : D} (h : tyQ Q d) : ∃ n, d = .ty n ∧ Q n := by
  cases d <;> first | exact ⟨_, rfl, h⟩ | exact h.elim
def oIsi : List D → (D → Prop) → Prop := fun ds Q => twoQ (fun d e => tyQ (fun m => someQ (fun n => (m = "int" ∨ m = "bool" ∨ m = "str" ∨ m = "list" ∨ m = "tuple") ∧ Q (.bl (isiD n m))) (tyD d)) e) ds
theorem kit_all {n m : String} (hn : n = "int" ∨ n = "bool" ∨ n = "str" ∨ n = "NoneType" ∨ n = "list" ∨ n = "tuple") (hm : m = "int" ∨ m = "bool" ∨ m = "str" ∨ m = "list" ∨ m = "tuple") : PySem.W.kitOne K (.type n) (.type m) = some (isiD n m) := by
  rcases hn with rfl | rfl | rfl | rfl | rfl | rfl <;> rcases hm with rfl | rfl | rfl | rfl | rfl <;> exact kit_ty (by decide +kernel)
theorem bu_isi : BuD K (rIsi K) oIsi := fun U H vs ds Q q s r z k => by
  obtain ⟨d, e, rfl, z⟩ := twoQ_of z
  obtain ⟨m, rfl, z⟩ := tyQ_of z
  obtain ⟨n, hn, hm, z⟩ := someQ_of z
  obtain ⟨v, w, rfl, cd, ce⟩ := paired2 r
  rw [ce.ty]
  have go : ∀ {t : Value}, TyX K H v t → t = .type n → (n = "int" ∨ n = "bool" ∨ n = "str" ∨ n = "NoneType" ∨ n = "list" ∨ n = "tuple") → rIsi K [v, .ty m] H q := fun {t} ht et hn => by
    subst et
    exact ⟨v, .ty m, .type n, .type m, isiD n m, rfl, .ty _, ht, kit_all hn hm, k U H (.bl _) _ (Gr.refl s) rfl z⟩
  cases d with
  | int i => cases hn; rw [cd.int] at go ⊢; exact go (.base (.int _)) rfl (by decide)
  | bl i => cases hn; rw [cd.bl] at go ⊢; exact go (.base (.bl _)) rfl (by decide)
  | str i => cases hn; rw [cd.str] at go ⊢; exact go (.base (.str _)) rfl (by decide)
  | non => cases hn; rw [cd.non] at go ⊢; exact go (.base .non) rfl (by decide)
  | lst ds =>
    cases hn
    obtain ⟨a, xs, rfl, h1, _⟩ := cd.lst s
    exact go (.base (.lst h1)) rfl (by decide)
  | tup ds =>
    cases hn
    obtain ⟨a, xs, rfl, h1, _⟩ := cd.tup s
    rcases h1 with (h1 | ⟨o, h1⟩) | ⟨o, its, n, h1, h2, _⟩
    · exact go (.base (.tup h1)) rfl (by decide)
    · exact go (.fTuple h1) rfl (by decide)
    · exact go (.kTuple h1 h2) rfl (by decide)
  | _ => cases hn
end
theorem op_catAK {X : Cx} {K : PySem.W.Frag} (h : X.K = K) : OpR X (binaryOp .Add) (rCatA K) := by subst h; exact op_catA
theorem sl_tupAK {X : Cx} {K : PySem.W.Frag} (h : X.K = K) : SlR X (rSlA K) := by subst h; exact sl_tupA
theorem ps_raise0 {X : Cx} {E : XK} {e : Expr} {pos : Pos} {C : Addr} (hc : X.calm = true) (tk : Takes X (fun cls d _ H => E cls d H)) (he : PMk X e (fun _ H Q => Q (.ref C) none H)) : PS X (.Raise (some e) none pos) (tRaise0 C E) := ps_raise hc tk he
def A_draw : AF := fun avs q _ => match avs with
  | [.dr, .fz (.int many)] => 0 < many ∧ many < 2 ^ 200 ∧ ∀ r : Int, 0 ≤ r → r < many → q (.fz (.int r))
  | _ => False
theorem FnOk.imp {P : Program} {w : World} {K : PySem.W.Frag} {mg : Str → Option Value} {base : Heap} {CX : CXT} {k : Nat} {f : Addr} {fd : FuncData} {ps : List Str} {sp sp' : Sp} (F : FnOk P w K mg base CX k f fd ps sp) (h : ∀ vs H Q E, sp' vs H Q E → sp vs H Q E) : FnOk P w K mg base CX k f fd ps sp' :=
  ⟨fun vs H Q E z => F.len vs H Q E (h vs H Q E z), fun A outer s H args us vs Q E r e b v z => F.run A outer s H args us vs Q E r e b v (h vs H Q E z)⟩
theorem draw_imp {K : PySem.W.Frag} {tb : List Addr} : ∀ vs H Q E, spD K tb A_draw vs H Q E → spDraw vs H Q E := by
  intro vs H Q E h
  obtain ⟨U, avs, q, x, sU, tbs, rep, kd, l1, hb, kq, kx⟩ := h
  unfold A_draw at hb
  split at hb
  · rename_i many
    obtain ⟨v, w, rfl, ⟨s, rfl, dr⟩, rw'⟩ := paired2 rep
    have ew : w = .int many := rw'
    subst ew
    refine ⟨s, many, U, rfl, hb.1, hb.2.1, sU, dr, fun r H' r0 r1 s' d' ho => ?_⟩
    refine kq U H' (.fz (.int r)) (.int r) ⟨Same.refl U, s', fun a o m _ h => ?_, fun a h => ?_, fun a h _ => h, fun P h => tab_keep h fun b o e n => ?_, id⟩ rfl .fz (fun p hp => ?_) (hb.2.2 r r0 r1)
    · rw [ho a (fun z => m (by rw [z]; exact List.mem_singleton.mpr rfl))]
      exact h
    · by_cases z : a = s
      · subst z
        exact d'.some
      · rw [ho a z]
        exact h
    · rw [ho b fun z => by
        subst z
        obtain ⟨y, e1, e2⟩ := dr.pl
        rw [e1] at e
        cases e
        rw [e2] at n
        cases n]
      exact e
    · have hp' : p ∈ [s] := hp
      rw [List.mem_singleton.mp hp']
      exact d'
  · exact hb.elim
theorem law_run {K : PySem.W.Frag} {t : TS} {a : AS} {U H U' H' : Hp} {s x : Addr} {nl : Nat} {Q : VK} {n b c' : L2.St → Hp → Prop} {tb : List Addr} (tbs : TbOk tb U H) (g : Gr [] U H U' H') (D : Dr U' H' s) (hn : H s = none) (q : ∀ H', Q (.bl true) H')
    (hs : ∀ U0 H0 X E, SimS ⟨K, [], [], [], List.replicate (nl + 2) [], [], U0, H0, X, E, tb⟩ t a) (ha : a ⟨fun _ => False, fun av _ => av = .fz (.bl true), fun _ => False, fun _ => False, fun _ _ => False⟩ (none :: some .dr :: List.replicate nl none)) :
    t ⟨n, Q, b, c'⟩ (some (.ref x) :: some (.ref s) :: List.replicate nl none) H' := by
  have hrep : ∀ m : Nat, Paired (RepS K U' H') (List.replicate m none) (List.replicate m none) := fun m => by
    induction m with
    | zero => exact .nil
    | succ m ih => exact .cons trivial ih
  have how : ∀ m : Nat, owns (List.replicate m none) (List.replicate m none) = [] := fun m => by
    induction m with
    | zero => rfl
    | succ m ih => exact ih
  refine hs U H (fun _ _ => False) (fun _ _ _ _ => False) U' H' (some (.ref x) :: some (.ref s) :: List.replicate nl none) (none :: some .dr :: List.replicate nl none) _ _ rfl ⟨g, .cons trivial (.cons ⟨s, rfl, D⟩ (hrep nl)), ?_, ?_, ⟨rfl, [], rfl, rfl⟩, ⟨fun _ _ _ _ _ _ _ _ _ _ _ _ z => z, tbs⟩, ?_, ?_, ?_⟩ ha ⟨fun _ _ _ _ _ _ z => z.elim, ?_, fun _ _ _ _ _ _ z => z.elim, fun _ _ _ _ _ _ z => z.elim⟩
  · show ([] ++ ([s] ++ owns (List.replicate nl none) (List.replicate nl none))).Nodup
    rw [how]
    simp
  · intro p hp
    have hp' : p ∈ ([] ++ ([s] ++ owns (List.replicate nl none) (List.replicate nl none)) : List Addr) := hp
    rw [how] at hp'
    simp at hp'
    subst hp'
    exact ⟨D.out, .inr hn⟩
  · intro i av v e1 e2 p hp
    refine .inr ?_
    match i, e1, e2 with
    | 1, e1, e2 =>
      cases e1
      cases e2
      rw [List.mem_singleton.mp hp]
      exact hn
    | i + 2, e1, _ =>
      have e1' : (List.replicate nl (none : Option AV))[i]? = some (some av) := e1
      rw [List.getElem?_replicate] at e1'
      split at e1' <;> cases e1'
  · show (List.replicate (nl + 2) ([] : List Addr)).length = (List.replicate nl (none : Option V)).length + 1 + 1
    rw [List.length_replicate, List.length_replicate]
  · intro i _
    show (List.replicate (nl + 2) ([] : List Addr)).getD i [] = []
    rw [List.getD, List.getElem?_replicate]
    split <;> rfl
  · intro U2 H2 σ2 ρ2 av v I r _ _ z
    have z' : av = .fz (.bl true) := z
    subst z'
    rw [show v = .bl true from r]
    exact q H2
end SW
namespace SW
open PySem PySem.Spec PyProof.Rows L2
variable [QN]
mutual
def okD : Nat → D → Bool
  | _, .int _ => true
  | _, .bl _ => true
  | _, .non => true
  | _, .str x => PyData.strOk x
  | n + 1, .tup ds => okDs n ds
  | n + 1, .lst ds => okDs n ds
  | _, _ => false
def okDs : Nat → List D → Bool
  | _, [] => true
  | n, d :: ds => okD n d && okDs n ds
end
mutual
def toPy : D → PyData
  | .int i => .int i
  | .bl b => .bool b
  | .str x => .str x
  | .tup ds => .tuple (toPys ds)
  | .lst ds => .list (toPys ds)
  | _ => .none
def toPys : List D → List PyData
  | [] => []
  | d :: ds => toPy d :: toPys ds
end
mutual
def deq : D → D → Bool
  | .non, .non => true
  | .bl a, .bl b => a == b
  | .bl a, .int j => (if a then 1 else 0) == j
  | .int i, .bl b => i == (if b then 1 else 0)
  | .int i, .int j => i == j
  | .str x, .str y => x == y
  | .lst xs, .lst ys => deqs xs ys
  | .tup xs, .tup ys => deqs xs ys
  | _, _ => false
def deqs : List D → List D → Bool
  | [], [] => true
  | x :: xs, y :: ys => deq x y && deqs xs ys
  | _, _ => false
end
mutual
theorem okD_lay : ∀ (n : Nat) (d : D), okD n d = true → Lay n (toPy d)
  | n, .int _, _ => lay_int
  | n, .bl _, _ => lay_bool
  | n, .non, _ => lay_none
  | n, .str x, h => ⟨by cases n <;> exact h, Nat.zero_le _⟩
  | 0, .tup _, h => by cases h
  | 0, .lst _, h => by cases h
  | n + 1, .tup ds, h => ⟨(okDs_lay n ds h).1, Nat.succ_le_succ (okDs_lay n ds h).2⟩
  | n + 1, .lst ds, h => ⟨(okDs_lay n ds h).1, Nat.succ_le_succ (okDs_lay n ds h).2⟩
  | n, .ty _, h => by cases n <;> cases h
  | n, .dK _ _, h => by cases n <;> cases h
  | n, .dT _ _, h => by cases n <;> cases h
  | n, .obj _ _ _, h => by cases n <;> cases h
  | n, .exn _ _ _ _ _, h => by cases n <;> cases h
theorem okDs_lay : ∀ (n : Nat) (ds : List D), okDs n ds = true → PyData.canLayAll0 (toPys ds) = true ∧ PyData.depthAll (toPys ds) ≤ n
  | n, [], _ => ⟨rfl, Nat.zero_le _⟩
  | n, d :: ds, h => by
    have h' : (okD n d && okDs n ds) = true := h
    rw [Bool.and_eq_true] at h'
    have h1 := okD_lay n d h'.1
    have h2 := okDs_lay n ds h'.2
    refine ⟨?_, ?_⟩
    · show ((toPy d).canLay0 && PyData.canLayAll0 (toPys ds)) = true
      rw [h1.1, h2.1]
      rfl
    · show max (toPy d).depth (PyData.depthAll (toPys ds)) ≤ n
      exact Nat.max_le.mpr ⟨h1.2, h2.2⟩
end
section
variable {K : PySem.W.Frag} {U H : Hp}
mutual
theorem okD_dp (s : Same U H) : ∀ (n : Nat) (d : D) (v : V), okD n d = true → R K U d v → Dp K H v (toPy d)
  | n, .int i, v, _, r => by rw [show v = .int i from r]; exact .int i
  | n, .bl i, v, _, r => by rw [show v = .bl i from r]; exact .bl i
  | n, .non, v, _, r => by rw [show v = .non from r]; exact .non
  | n, .str x, v, h, r => by rw [show v = .str x from r]; exact .str x
  | 0, .tup _, _, h, _ => by cases h
  | 0, .lst _, _, h, _ => by cases h
  | n + 1, .tup ds, v, h, ⟨a, xs, e, h1, h2⟩ => by rw [e]; exact .tup (Same.tup s h1) (okDs_dp s n ds xs h h2)
  | n + 1, .lst ds, v, h, ⟨a, xs, e, h1, h2⟩ => by rw [e]; exact .lst (SqL.of (s _ _ h1)) (okDs_dp s n ds xs h h2)
  | n, .ty _, _, h, _ => by cases n <;> cases h
  | n, .dK _ _, _, h, _ => by cases n <;> cases h
  | n, .dT _ _, _, h, _ => by cases n <;> cases h
  | n, .obj _ _ _, _, h, _ => by cases n <;> cases h
  | n, .exn _ _ _ _ _, _, h, _ => by cases n <;> cases h
theorem okDs_dp (s : Same U H) : ∀ (n : Nat) (ds : List D) (vs : List V), okDs n ds = true → Rs K U ds vs → DpAll K H vs (toPys ds)
  | n, [], vs, _, r => by rw [show vs = [] from r]; exact .nil
  | n, d :: ds, vs, h, ⟨v, r, e, h1, h2⟩ => by
    have h' : (okD n d && okDs n ds) = true := h
    rw [Bool.and_eq_true] at h'
    rw [e]
    exact .cons (okD_dp s n d v h'.1 h1) (okDs_dp s n ds r h'.2 h2)
end
theorem cr_dp {d : D} {v : V} (s : Same U H) (c : CR K U H d v) (h : okD 8 d = true) : Dp K H v (toPy d) := by
  obtain ⟨av, r, f⟩ := c
  cases av with
  | fz d' => cases f; exact okD_dp s 8 _ v h r
  | ol ds =>
    cases f
    obtain ⟨p, xs, rfl, e1, e2⟩ := r
    exact .lst (SqL.of e1) (okDs_dp s 7 ds xs h e2)
  | ok ks ds => cases f; cases h
  | ot ks ds => cases f; cases h
  | on ws as =>
    cases f
    obtain ⟨p, rfl, e1, e2⟩ := r
    exact .lst (SqL.of e1) (okDs_dp s 7 _ _ h (seens_r e2))
  | ut ws as =>
    cases f
    obtain ⟨p, rfl, e1, e2⟩ := r
    exact okD_dp s 8 _ _ h ⟨p, _, rfl, e1, seens_r e2⟩
  | ob C dx ns ws as => cases f; cases h
  | _ => cases f
end
mutual
theorem eqv_deq : ∀ (n m : Nat) (d e : D), okD n d = true → okD m e = true → PyData.eqv (toPy d) (toPy e) = deq d e
  | n, m, .int _, .int _, _, _ => rfl
  | n, m, .int _, .bl _, _, _ => rfl
  | n, m, .bl _, .int _, _, _ => rfl
  | n, m, .bl _, .bl _, _, _ => rfl
  | n, m, .non, .non, _, _ => rfl
  | n, m, .str _, .str _, _, _ => rfl
  | n + 1, m + 1, .tup xs, .tup ys, h, k => eqvs_deqs n m xs ys h k
  | n + 1, m + 1, .lst xs, .lst ys, h, k => eqvs_deqs n m xs ys h k
  | n, m, .int _, .non, _, _ => rfl
  | n, m, .int _, .str _, _, _ => rfl
  | n, m, .int _, .tup _, _, _ => rfl
  | n, m, .int _, .lst _, _, _ => rfl
  | n, m, .bl _, .non, _, _ => rfl
  | n, m, .bl _, .str _, _, _ => rfl
  | n, m, .bl _, .tup _, _, _ => rfl
  | n, m, .bl _, .lst _, _, _ => rfl
  | n, m, .non, .int _, _, _ => rfl
  | n, m, .non, .bl _, _, _ => rfl
  | n, m, .non, .str _, _, _ => rfl
  | n, m, .non, .tup _, _, _ => rfl
  | n, m, .non, .lst _, _, _ => rfl
  | n, m, .str _, .int _, _, _ => rfl
  | n, m, .str _, .bl _, _, _ => rfl
  | n, m, .str _, .non, _, _ => rfl
  | n, m, .str _, .tup _, _, _ => rfl
  | n, m, .str _, .lst _, _, _ => rfl
  | n, m, .tup _, .int _, _, _ => rfl
  | n, m, .tup _, .bl _, _, _ => rfl
  | n, m, .tup _, .non, _, _ => rfl
  | n, m, .tup _, .str _, _, _ => rfl
  | n, m, .tup _, .lst _, _, _ => rfl
  | n, m, .lst _, .int _, _, _ => rfl
  | n, m, .lst _, .bl _, _, _ => rfl
  | n, m, .lst _, .non, _, _ => rfl
  | n, m, .lst _, .str _, _, _ => rfl
  | n, m, .lst _, .tup _, _, _ => rfl
  | 0, m, .tup _, .tup _, h, _ => by cases h
  | n + 1, 0, .tup _, .tup _, _, k => by cases k
  | 0, m, .lst _, .lst _, h, _ => by cases h
  | n + 1, 0, .lst _, .lst _, _, k => by cases k
  | n, m, .ty _, _, h, _ => by cases n <;> cases h
  | n, m, .dK _ _, _, h, _ => by cases n <;> cases h
  | n, m, .dT _ _, _, h, _ => by cases n <;> cases h
  | n, m, .obj _ _ _, _, h, _ => by cases n <;> cases h
  | n, m, .exn _ _ _ _ _, _, h, _ => by cases n <;> cases h
  | n, m, _, .ty _, _, h => by cases m <;> cases h
  | n, m, _, .dK _ _, _, h => by cases m <;> cases h
  | n, m, _, .dT _ _, _, h => by cases m <;> cases h
  | n, m, _, .obj _ _ _, _, h => by cases m <;> cases h
  | n, m, _, .exn _ _ _ _ _, _, h => by cases m <;> cases h
theorem eqvs_deqs : ∀ (n m : Nat) (xs ys : List D), okDs n xs = true → okDs m ys = true → PyData.eqvAll (toPys xs) (toPys ys) = deqs xs ys
  | n, m, [], [], _, _ => rfl
  | n, m, x :: xs, y :: ys, h, k => by
    have h' : (okD n x && okDs n xs) = true := h
    have k' : (okD m y && okDs m ys) = true := k
    rw [Bool.and_eq_true] at h' k'
    show (PyData.eqv (toPy x) (toPy y) && PyData.eqvAll (toPys xs) (toPys ys)) = (deq x y && deqs xs ys)
    rw [eqv_deq n m x y h'.1 k'.1, eqvs_deqs n m xs ys h'.2 k'.2]
  | n, m, [], _ :: _, _, _ => rfl
  | n, m, _ :: _, [], _, _ => rfl
end
section
variable {K : PySem.W.Frag} {U H : Hp}
def oEqD : D → D → (D → Prop) → Prop := fun d e Q => okD 8 d = true ∧ okD 8 e = true ∧ Q (.bl (deq d e))
def oNeD : D → D → (D → Prop) → Prop := fun d e Q => okD 8 d = true ∧ okD 8 e = true ∧ Q (.bl (!deq d e))
theorem op_eqDD : OpD K (rEqD K) oEqD := fun U H v w d e Q q s cd ce z k => by
  obtain ⟨h1, h2, z⟩ := z
  refine ⟨toPy d, toPy e, cr_dp s cd h1, cr_dp s ce h2, (okD_lay 8 d h1).shaped (by decide), (okD_lay 8 e h2).shaped (by decide), ?_⟩
  rw [eqv_deq 8 8 d e h1 h2]
  exact k U H (.bl _) _ (Gr.refl s) rfl z
theorem op_neDD : OpD K (rNeD K) oNeD := fun U H v w d e Q q s cd ce z k => by
  obtain ⟨h1, h2, z⟩ := z
  refine ⟨toPy d, toPy e, cr_dp s cd h1, cr_dp s ce h2, (okD_lay 8 d h1).shaped (by decide), (okD_lay 8 e h2).shaped (by decide), ?_⟩
  rw [eqv_deq 8 8 d e h1 h2]
  exact k U H (.bl _) _ (Gr.refl s) rfl z
end
abbrev AP := Env → (Option Int → Prop) → (Exn → Prop) → Prop
section
variable {c : DC} {U H : Hp} {te : TE} {e : AE}
def SimP (c : DC) (t : TO) (e : AP) : Prop := ∀ (U H : Hp) (σ : L2.St) (ρ : Env) (Q : Option Int → Prop) (q : Option Int → Hp → Prop), DI c U H σ ρ → e ρ Q (c.x ρ) →
  (∀ U' H' o, Gr (drs ρ σ) U H U' H' → DI c U' H' σ ρ → Q o → q o H') → t σ H q
def aNoPart : AP := fun _ Q _ => Q none
def aPart (e : AE) : AP := fun ρ Q X => e ρ (intQ fun i => Q (some i)) X
theorem sim_noPart : SimP c tNoPart aNoPart := fun U H σ ρ Q q I z k => k U H none (Gr.refl I.vh) I z
theorem sim_part (h : SimW c te e) : SimP c (tPart te) (aPart e) := fun U H σ ρ Q q I z k => h U H σ ρ _ _ I z fun U1 H1 d v g1 I1 w1 z1 => by
  obtain ⟨i, rfl, z2⟩ := intQ_of z1
  exact ⟨i, (w1.cr I1).int, k U1 H1 (some i) g1 I1 z2⟩
def SlD (K : PySem.W.Frag) (r : V → Option Int → Option Int → Hp → VK → Prop) (f : D → Option Int → Option Int → (D → Prop) → Prop) : Prop := ∀ (U H : Hp) (v : V) (d : D) (lo hi : Option Int) (Q : D → Prop) (q : VK), Same U H → CR K U H d v → f d lo hi Q →
  (∀ U' H' z u, Gr [] U H U' H' → R K U' z u → Q z → q u H') → r v lo hi H q
def aSl (f : D → Option Int → Option Int → (D → Prop) → Prop) (a : AE) (lo hi : AP) : AE := fun ρ Q X => a ρ (fun d => lo ρ (fun l => hi ρ (fun h => f d l h Q) X) X) X
def aSlO (f : D → Option Int → Option Int → (AV → Prop) → Prop) (a : AE) (lo hi : AP) : AO := fun ρ Q X => a ρ (fun d => lo ρ (fun l => hi ρ (fun h => f d l h Q) X) X) X
theorem sim_sl {r : V → Option Int → Option Int → Hp → VK → Prop} {f : D → Option Int → Option Int → (D → Prop) → Prop} {tl th : TO} {l h : AP} (hf : SlD c.K r f) (ha : SimW c te e) (hl : SimP c tl l) (hh : SimP c th h) : SimE c (tSl r te tl th) (aSl f e l h) := fun U H σ ρ Q q I z k =>
  ha U H σ ρ _ _ I z fun U1 H1 d v g1 I1 w1 z1 => hl U1 H1 σ ρ _ _ I1 z1 fun U2 H2 lo g2 I2 z2 => hh U2 H2 σ ρ _ _ I2 z2 fun U3 H3 hi g3 I3 z3 =>
    hf U3 H3 v d lo hi Q q I3.vh ((w1.mono (g2.vv.trans g3.vv)).cr I3) z3 fun U4 H4 y u g4 r4 z4 => k U4 H4 y u (((g1.trans g2).trans g3).trans g4.any) (I3.grow g4) r4 z4
def cutD (xs : List D) (lo hi : Option Int) : List D := (xs.drop (HT.sIx xs.length 0 lo)).take (HT.sIx xs.length xs.length hi - HT.sIx xs.length 0 lo)
theorem cut_r {K : PySem.W.Frag} {ds : List D} {xs : List V} (r : Rs K U ds xs) (lo hi : Option Int) : Rs K U (cutD ds lo hi) (cutV xs lo hi) := by
  unfold cutD cutV
  rw [r.len]
  exact (r.drop _).take _
def oSlL : D → Option Int → Option Int → (AV → Prop) → Prop := fun d lo hi Q => lstQ (fun ds => Q (.ol (cutD ds lo hi))) d
def oSlT : D → Option Int → Option Int → (D → Prop) → Prop := fun d lo hi Q => tupQ (fun ds => Q (.tup (cutD ds lo hi))) d
theorem sl_tD {K : PySem.W.Frag} : SlD K (rSlA K) oSlT := fun U H v d lo hi Q q s cd z0 k => by
  obtain ⟨ds, rfl, z⟩ := tupQ_of z0
  have rd := cd.tupR
  obtain ⟨a, xs, rfl, h1, h2⟩ := cd.tup s
  refine ⟨a, xs, rfl, h1, fun hw => ?_, fun _ p np => ?_⟩
  · have e : cutD ds lo hi = ds := by
      unfold cutD
      rw [h2.len, hw.1, hw.2, List.drop_zero, Nat.sub_zero, ← h2.len, List.take_length]
    rw [e] at z
    exact k U H _ _ (Gr.refl s) rd z
  · have g := (Gr.refl (M := []) s).new (o := .tup (cutV xs lo hi)) np
    exact k _ _ (.tup (cutD ds lo hi)) (.ref p) g (R.tup upd_same (Rs.mono g.vv _ _ (cut_r h2 lo hi))) z
def aRev (e : AE) : AO := fun ρ Q X => e ρ (lstQ fun ds => Q (.ol ds.reverse)) X
end
def aSeal (i : Nat) (a : AS) : AS := fun N ρ => match ρ[i]? with
  | some (some av) => frzQ (fun d => a N (ρ.set i (some (.fz d)))) av
  | _ => False
theorem sim_seal {c : DC} {t : TS} {a : AS} {i : Nat} (hi : noPar c i = true) (h : SimS c t a) : SimS c t (aSeal i a) := fun U H σ ρ N n hx I z P => by
  unfold aSeal at z
  split at z
  · rename_i av e
    obtain ⟨d, f, z2⟩ := frzQ_some z
    obtain ⟨w, e1, r, m⟩ := rep_at I.rep i av e
    have nu := own_unset I.nd e e1
    have fr : ∀ p ∈ own av w, U p = none := fun p hp => (I.out p (m p hp)).1
    have I1 := (I.unset i hi).sealL (as := own av w) (fun p hp => ⟨fr p hp, I.nw i av w hi e e1 p hp, nu p hp⟩) (own_pl av w r)
    have I2 := I1.setF (i := i) (RepA.frozen fr av w d r f fun _ h => h) hi
    rw [List.set_set, set_same e1] at I2
    exact h _ H σ _ N n hx I2 z2 (P.mono (seal_same fr))
  · exact z.elim
theorem cond_dec {p : Prop} [Decidable p] {A B : Prop} (h1 : p → A) (h2 : ¬ p → B) : cond (decide p) A B := by
  by_cases h : p
  · rw [decide_eq_true h]; exact h1 h
  · rw [decide_eq_false h]; exact h2 h
theorem cond_not {b : Bool} {A B : Prop} (h : cond b B A) : cond (!b) A B := by
  cases b <;> exact h
end SW
namespace SW
open PySem PySem.Spec PyProof.Rows L2
variable [QN]
theorem loop_inv {g : AG} {b : AS} {N : AEnds} {ds : List D} {ρ : Env} (Inv : Nat → Env → Prop) (h0 : Inv 0 ρ)
    (hs : ∀ (i : Nat) (d : D) (ρ : Env) (K : Env → Prop), ds[i]? = some d → Inv i ρ → (∀ ρ', Inv (i + 1) ρ' → K ρ') → g d ρ (fun ρ2 => b ⟨K, N.rt, N.nx, K, N.ex⟩ ρ2)) (hd : ∀ ρ, Inv ds.length ρ → N.nx ρ) : aLoop g b N ds ρ := by
  have go : ∀ (k : Nat) (ρ : Env), k ≤ ds.length → Inv (ds.length - k) ρ → aLoop g b N (ds.drop (ds.length - k)) ρ := by
    intro k
    induction k with
    | zero =>
      intro ρ _ h
      rw [Nat.sub_zero] at h ⊢
      rw [List.drop_length]
      exact hd ρ h
    | succ k ih =>
      intro ρ hk h
      have hl : ds.length - (k + 1) < ds.length := by omega
      have e : ds[ds.length - (k + 1)]? = some ds[ds.length - (k + 1)] := List.getElem?_eq_getElem hl
      rw [drop_at e]
      refine hs _ _ ρ _ e h fun ρ' h' => ?_
      have e2 : ds.length - (k + 1) + 1 = ds.length - k := by omega
      rw [e2] at h' ⊢
      exact ih ρ' (by omega) h'
  have := go ds.length ρ (Nat.le_refl _) (by rw [Nat.sub_self]; exact h0)
  rwa [Nat.sub_self, List.drop_zero] at this
theorem rngD_at {lo : Int} {n i : Nat} {d : D} (h : (rngD lo n)[i]? = some d) : i < n ∧ d = .int (lo + (i : Nat)) := by
  unfold rngD at h
  rw [List.getElem?_map] at h
  cases e : (List.range n)[i]? with
  | none => rw [e] at h; cases h
  | some k =>
    rw [e] at h
    obtain ⟨hk, e2⟩ := List.getElem?_eq_some_iff.mp e
    rw [List.getElem_range] at e2
    rw [List.length_range] at hk
    subst e2
    exact ⟨hk, (Option.some.inj h).symm⟩
theorem rngD_len {lo : Int} {n : Nat} : (rngD lo n).length = n := by unfold rngD; rw [List.length_map, List.length_range]
/-- for k in range(n) -/
theorem loop_rng {g : AG} {b : AS} {N : AEnds} {lo : Int} {n : Nat} {ρ : Env} (Inv : Nat → Env → Prop) (h0 : Inv 0 ρ)
    (hs : ∀ (i : Nat) (ρ : Env) (K : Env → Prop), i < n → Inv i ρ → (∀ ρ', Inv (i + 1) ρ' → K ρ') → g (.int (lo + (i : Nat))) ρ (fun ρ2 => b ⟨K, N.rt, N.nx, K, N.ex⟩ ρ2)) (hd : ∀ ρ, Inv n ρ → N.nx ρ) : aLoop g b N (rngD lo n) ρ :=
  loop_inv Inv h0 (fun i d ρ K e h k => by
    obtain ⟨hi, rfl⟩ := rngD_at e
    exact hs i ρ K hi h k) (fun ρ h => hd ρ (by rw [rngD_len] at h; exact h))
/-- for x in a row of things of one kind -/
theorem loop_map {α : Type} {f : α → D} {g : AG} {b : AS} {N : AEnds} {xs : List α} {ρ : Env} (Inv : Nat → Env → Prop) (h0 : Inv 0 ρ)
    (hs : ∀ (i : Nat) (x : α) (ρ : Env) (K : Env → Prop), xs[i]? = some x → Inv i ρ → (∀ ρ', Inv (i + 1) ρ' → K ρ') → g (f x) ρ (fun ρ2 => b ⟨K, N.rt, N.nx, K, N.ex⟩ ρ2)) (hd : ∀ ρ, Inv xs.length ρ → N.nx ρ) : aLoop g b N (xs.map f) ρ :=
  loop_inv Inv h0 (fun i d ρ K e h k => by
    rw [List.getElem?_map] at e
    cases ex : xs[i]? with
    | none => rw [ex] at e; cases e
    | some x =>
      rw [ex] at e
      cases e
      exact hs i x ρ K ex h k) (fun ρ h => hd ρ (by rw [List.length_map] at h; exact h))
section
variable {g : AG} {tt : AT} {te : AE} {ρ : Env} {X : Exn → Prop} {Q : List D → Prop}
theorem comp_rel {ds acc : List D} (P : D → D → Prop) (hl : acc.length + ds.length ≤ 1000000) (h : ∀ d ∈ ds, ∀ Q : D → Prop, (∀ y, P d y → Q y) → g d ρ (fun ρ2 => te ρ2 Q X)) (q : ∀ ys, Paired P ds ys → Q (acc ++ ys)) : aComp g aYes te ρ X ds acc Q := by
  induction ds generalizing acc with
  | nil =>
    have := q [] .nil
    rwa [List.append_nil] at this
  | cons d ds ih =>
    rw [List.length_cons] at hl
    refine h d List.mem_cons_self _ fun y hy => ⟨by omega, ih (by rw [List.length_append]; show acc.length + 1 + _ ≤ _; omega) (fun e he => h e (List.mem_cons_of_mem _ he)) fun ys hys => ?_⟩
    have := q (y :: ys) (.cons hy hys)
    rwa [List.append_assoc]
theorem comp_map {ds acc : List D} (f : D → D) (hl : acc.length + ds.length ≤ 1000000) (h : ∀ d ∈ ds, ∀ Q : D → Prop, Q (f d) → g d ρ (fun ρ2 => te ρ2 Q X)) (q : Q (acc ++ ds.map f)) : aComp g aYes te ρ X ds acc Q := by
  refine comp_rel (fun d y => y = f d) hl (fun d hd Q k => h d hd Q (k _ rfl)) fun ys hys => ?_
  have : ys = ds.map f := by
    clear q h hl
    induction hys with
    | nil => rfl
    | cons h t ih => rw [h, ih]; rfl
  rw [this]
  exact q
end
theorem atI_nat {α : Type} {xs : List α} {i : Nat} {x : α} (h : xs[i]? = some x) : atI xs (i : Int) = some x := by
  unfold atI
  rw [ixN_of rfl (List.getElem?_eq_some_iff.mp h).1]
  exact h
theorem atI_map {α : Type} {f : α → D} {xs : List α} {i : Nat} {x : α} (h : xs[i]? = some x) : atI (xs.map f) (i : Int) = some (f x) := atI_nat (by rw [List.getElem?_map, h]; rfl)
end SW
namespace SW
open PySem PySem.Spec PyProof.Rows L2
variable [QN]
instance s_len1 {α : Type} {x0 : α} {P : Prop} : Stp (List.length [x0] ≤ 1000000 ∧ P) P := ⟨fun h => ⟨Nat.le_of_ble_eq_true rfl, h⟩⟩
instance s_len2 {α : Type} {x0 x1 : α} {P : Prop} : Stp (List.length [x0, x1] ≤ 1000000 ∧ P) P := ⟨fun h => ⟨Nat.le_of_ble_eq_true rfl, h⟩⟩
instance s_len3 {α : Type} {x0 x1 x2 : α} {P : Prop} : Stp (List.length [x0, x1, x2] ≤ 1000000 ∧ P) P := ⟨fun h => ⟨Nat.le_of_ble_eq_true rfl, h⟩⟩
instance s_len4 {α : Type} {x0 x1 x2 x3 : α} {P : Prop} : Stp (List.length [x0, x1, x2, x3] ≤ 1000000 ∧ P) P := ⟨fun h => ⟨Nat.le_of_ble_eq_true rfl, h⟩⟩
instance s_len5 {α : Type} {x0 x1 x2 x3 x4 : α} {P : Prop} : Stp (List.length [x0, x1, x2, x3, x4] ≤ 1000000 ∧ P) P := ⟨fun h => ⟨Nat.le_of_ble_eq_true rfl, h⟩⟩
instance s_len6 {α : Type} {x0 x1 x2 x3 x4 x5 : α} {P : Prop} : Stp (List.length [x0, x1, x2, x3, x4, x5] ≤ 1000000 ∧ P) P := ⟨fun h => ⟨Nat.le_of_ble_eq_true rfl, h⟩⟩
instance s_len7 {α : Type} {x0 x1 x2 x3 x4 x5 x6 : α} {P : Prop} : Stp (List.length [x0, x1, x2, x3, x4, x5, x6] ≤ 1000000 ∧ P) P := ⟨fun h => ⟨Nat.le_of_ble_eq_true rfl, h⟩⟩
instance s_len8 {α : Type} {x0 x1 x2 x3 x4 x5 x6 x7 : α} {P : Prop} : Stp (List.length [x0, x1, x2, x3, x4, x5, x6, x7] ≤ 1000000 ∧ P) P := ⟨fun h => ⟨Nat.le_of_ble_eq_true rfl, h⟩⟩
instance s_len9 {α : Type} {x0 x1 x2 x3 x4 x5 x6 x7 x8 : α} {P : Prop} : Stp (List.length [x0, x1, x2, x3, x4, x5, x6, x7, x8] ≤ 1000000 ∧ P) P := ⟨fun h => ⟨Nat.le_of_ble_eq_true rfl, h⟩⟩
instance s_len10 {α : Type} {x0 x1 x2 x3 x4 x5 x6 x7 x8 x9 : α} {P : Prop} : Stp (List.length [x0, x1, x2, x3, x4, x5, x6, x7, x8, x9] ≤ 1000000 ∧ P) P := ⟨fun h => ⟨Nat.le_of_ble_eq_true rfl, h⟩⟩
section
variable {ρ ρ' : Env} {nx bk ct : Env → Prop} {rt : AV → Env → Prop} {ex : Exn → Env → Prop} {X : Exn → Prop} {Q : D → Prop} {O : AV → Prop} {L : List D → Prop} {a b e e' : AE} {o : AO} {r : AL} {t u : AT} {sa sb : AS} {i j : Nat} {d d' : D} {ds es : List D} {av : AV}
theorem w_seq (q : sa ⟨fun ρ' => sb ⟨nx, rt, bk, ct, ex⟩ ρ', rt, bk, ct, ex⟩ ρ) : aSeq sa sb ⟨nx, rt, bk, ct, ex⟩ ρ := q
instance s_seq  : Stp (aSeq sa sb ⟨nx, rt, bk, ct, ex⟩ ρ) (sa ⟨fun ρ' => sb ⟨nx, rt, bk, ct, ex⟩ ρ', rt, bk, ct, ex⟩ ρ) := ⟨w_seq⟩
theorem w_next (q : nx ρ) : aNext ⟨nx, rt, bk, ct, ex⟩ ρ := q
instance s_next  : Stp (aNext ⟨nx, rt, bk, ct, ex⟩ ρ) (nx ρ) := ⟨w_next⟩
theorem w_set (q : e ρ (fun d => nx (ρ.set i (some (.fz d)))) (fun x => ex x ρ)) : aSet i e ⟨nx, rt, bk, ct, ex⟩ ρ := q
instance s_set  : Stp (aSet i e ⟨nx, rt, bk, ct, ex⟩ ρ) (e ρ (fun d => nx (ρ.set i (some (.fz d)))) (fun x => ex x ρ)) := ⟨w_set⟩
theorem w_setO (q : o ρ (fun av => nx (ρ.set i (some av))) (fun x => ex x ρ)) : aSetO i o ⟨nx, rt, bk, ct, ex⟩ ρ := q
instance s_setO  : Stp (aSetO i o ⟨nx, rt, bk, ct, ex⟩ ρ) (o ρ (fun av => nx (ρ.set i (some av))) (fun x => ex x ρ)) := ⟨w_setO⟩
theorem w_drop (q : e ρ (fun _ => nx ρ) (fun x => ex x ρ)) : aDrop e ⟨nx, rt, bk, ct, ex⟩ ρ := q
instance s_drop  : Stp (aDrop e ⟨nx, rt, bk, ct, ex⟩ ρ) (e ρ (fun _ => nx ρ) (fun x => ex x ρ)) := ⟨w_drop⟩
theorem w_ret (q : e ρ (fun d => rt (.fz d) ρ) (fun x => ex x ρ)) : aRet e ⟨nx, rt, bk, ct, ex⟩ ρ := q
instance s_ret  : Stp (aRet e ⟨nx, rt, bk, ct, ex⟩ ρ) (e ρ (fun d => rt (.fz d) ρ) (fun x => ex x ρ)) := ⟨w_ret⟩
theorem w_retO (q : o ρ (fun av => rt av ρ) (fun x => ex x ρ)) : aRetO o ⟨nx, rt, bk, ct, ex⟩ ρ := q
instance s_retO  : Stp (aRetO o ⟨nx, rt, bk, ct, ex⟩ ρ) (o ρ (fun av => rt av ρ) (fun x => ex x ρ)) := ⟨w_retO⟩
theorem w_retN (q : rt (.fz .non) ρ) : aRetN ⟨nx, rt, bk, ct, ex⟩ ρ := q
instance s_retN  : Stp (aRetN ⟨nx, rt, bk, ct, ex⟩ ρ) (rt (.fz .non) ρ) := ⟨w_retN⟩
theorem w_retV (h : ρ[i]? = some (some (.ol ds))) (q : rt (.ol ds) (ρ.set i none)) : aRetV i ⟨nx, rt, bk, ct, ex⟩ ρ := by unfold aRetV; rw [h]; exact q
instance s_retV  : St1 (β := List D) (aRetV i ⟨nx, rt, bk, ct, ex⟩ ρ) (fun ds => ρ[i]? = some (some (.ol ds))) (fun ds => rt (.ol ds) (ρ.set i none)) := ⟨fun _ h q => w_retV h q⟩
theorem w_if (q : t ρ (fun x => cond x (sa ⟨nx, rt, bk, ct, ex⟩ ρ) (sb ⟨nx, rt, bk, ct, ex⟩ ρ)) (fun x => ex x ρ)) : aIf t sa sb ⟨nx, rt, bk, ct, ex⟩ ρ := q
instance s_if  : Stp (aIf t sa sb ⟨nx, rt, bk, ct, ex⟩ ρ) (t ρ (fun x => cond x (sa ⟨nx, rt, bk, ct, ex⟩ ρ) (sb ⟨nx, rt, bk, ct, ex⟩ ρ)) (fun x => ex x ρ)) := ⟨w_if⟩
theorem w_brk (q : bk ρ) : aBrk ⟨nx, rt, bk, ct, ex⟩ ρ := q
instance s_brk  : Stp (aBrk ⟨nx, rt, bk, ct, ex⟩ ρ) (bk ρ) := ⟨w_brk⟩
theorem w_cnt (q : ct ρ) : aCnt ⟨nx, rt, bk, ct, ex⟩ ρ := q
instance s_cnt  : Stp (aCnt ⟨nx, rt, bk, ct, ex⟩ ρ) (ct ρ) := ⟨w_cnt⟩
theorem w_raise {C : Addr} (q : ex ⟨C, [], []⟩ ρ) : aRaise C ⟨nx, rt, bk, ct, ex⟩ ρ := q
instance s_raise {C : Addr} : Stp (aRaise C ⟨nx, rt, bk, ct, ex⟩ ρ) (ex ⟨C, [], []⟩ ρ) := ⟨w_raise⟩
theorem w_var (h : ρ[i]? = some (some (.fz d))) (q : Q d) : aVar i ρ Q X := by unfold aVar; rw [h]; exact q
instance s_var  : St1 (β := D) (aVar i ρ Q X) (fun d => ρ[i]? = some (some (.fz d))) (fun d => Q d) := ⟨fun _ h q => w_var h q⟩
theorem w_varW (h : ρ[i]? = some (some av)) (f : av.sh = some d) (q : Q d) : aVarW i ρ Q X := by
  unfold aVarW
  rw [h]
  cases av <;> first | (cases f; exact q) | cases f
instance s_varW  : St2 (β := AV) (γ := D) (aVarW i ρ Q X) (fun av d => ρ[i]? = some (some av)) (fun av d => av.sh = some d) (fun av d => Q d) := ⟨fun _ _ h f q => w_varW h f q⟩
theorem w_c (q : Q d) : aC d ρ Q X := q
instance s_c  : Stp (aC d ρ Q X) (Q d) := ⟨w_c⟩
theorem w_op {f : D → D → (D → Prop) → Prop} (q : a ρ (fun d => b ρ (fun e => f d e Q) X) X) : aOp f a b ρ Q X := q
instance s_op {f : D → D → (D → Prop) → Prop} : Stp (aOp f a b ρ Q X) (a ρ (fun d => b ρ (fun e => f d e Q) X) X) := ⟨w_op⟩
theorem w_opO {f : D → D → (AV → Prop) → Prop} (q : a ρ (fun d => b ρ (fun e => f d e O) X) X) : aOpO f a b ρ O X := q
instance s_opO {f : D → D → (AV → Prop) → Prop} : Stp (aOpO f a b ρ O X) (a ρ (fun d => b ρ (fun e => f d e O) X) X) := ⟨w_opO⟩
theorem w_un {f : D → (D → Prop) → Prop} (q : a ρ (fun d => f d Q) X) : aUn f a ρ Q X := q
instance s_un {f : D → (D → Prop) → Prop} : Stp (aUn f a ρ Q X) (a ρ (fun d => f d Q) X) := ⟨w_un⟩
theorem w_oI {g : Int → Int → D} {x y : Int} (q : Q (g x y)) : oI g (.int x) (.int y) Q := q
instance s_oI {g : Int → Int → D} {x y : Int} : Stp (oI g (.int x) (.int y) Q) (Q (g x y)) := ⟨w_oI⟩
theorem w_oIC {C : Int → Int → Prop} {g : Int → Int → D} {x y : Int} (c : C x y) (q : Q (g x y)) : oIC C g (.int x) (.int y) Q := ⟨c, q⟩
theorem w_oU {g : Int → D} {x : Int} (q : Q (g x)) : oU g (.int x) Q := q
instance s_oU {g : Int → D} {x : Int} : Stp (oU g (.int x) Q) (Q (g x)) := ⟨w_oU⟩
theorem w_oEq {k : Bool} (h : eqS d d' = some k) (q : Q (.bl k)) : oEq d d' Q := by unfold oEq; rw [h]; exact q
instance s_oEq  : St1 (β := Bool) (oEq d d' Q) (fun k => eqS d d' = some k) (fun k => Q (.bl k)) := ⟨fun _ h q => w_oEq h q⟩
theorem w_oNe {k : Bool} (h : eqS d d' = some k) (q : Q (.bl (!k))) : oNe d d' Q := by unfold oNe; rw [h]; exact q
instance s_oNe  : St1 (β := Bool) (oNe d d' Q) (fun k => eqS d d' = some k) (fun k => Q (.bl (!k))) := ⟨fun _ h q => w_oNe h q⟩
theorem w_isN0 (q : Q (.bl true)) : oIsN .non .non Q := q
instance s_isN0  : Stp (oIsN .non .non Q) (Q (.bl true)) := ⟨w_isN0⟩
theorem w_isNi {x : Int} (q : Q (.bl false)) : oIsN (.int x) .non Q := q
instance s_isNi {x : Int} : Stp (oIsN (.int x) .non Q) (Q (.bl false)) := ⟨w_isNi⟩
theorem w_isNl (q : Q (.bl false)) : oIsN (.lst ds) .non Q := q
instance s_isNl  : Stp (oIsN (.lst ds) .non Q) (Q (.bl false)) := ⟨w_isNl⟩
theorem w_isNt (q : Q (.bl false)) : oIsN (.tup ds) .non Q := q
instance s_isNt  : Stp (oIsN (.tup ds) .non Q) (Q (.bl false)) := ⟨w_isNt⟩
theorem w_isNs {x : Str} (q : Q (.bl false)) : oIsN (.str x) .non Q := q
instance s_isNs {x : Str} : Stp (oIsN (.str x) .non Q) (Q (.bl false)) := ⟨w_isNs⟩
theorem w_isNo {C : Addr} {ns : List Str} (q : Q (.bl false)) : oIsN (.obj C ns ds) .non Q := q
instance s_isNo {C : Addr} {ns : List Str} : Stp (oIsN (.obj C ns ds) .non Q) (Q (.bl false)) := ⟨w_isNo⟩
theorem w_notN0 (q : Q (.bl false)) : oNotN .non .non Q := q
instance s_notN0  : Stp (oNotN .non .non Q) (Q (.bl false)) := ⟨w_notN0⟩
theorem w_notNi {x : Int} (q : Q (.bl true)) : oNotN (.int x) .non Q := q
instance s_notNi {x : Int} : Stp (oNotN (.int x) .non Q) (Q (.bl true)) := ⟨w_notNi⟩
theorem w_notNl (q : Q (.bl true)) : oNotN (.lst ds) .non Q := q
instance s_notNl  : Stp (oNotN (.lst ds) .non Q) (Q (.bl true)) := ⟨w_notNl⟩
theorem w_notNt (q : Q (.bl true)) : oNotN (.tup ds) .non Q := q
instance s_notNt  : Stp (oNotN (.tup ds) .non Q) (Q (.bl true)) := ⟨w_notNt⟩
theorem w_notNs {x : Str} (q : Q (.bl true)) : oNotN (.str x) .non Q := q
instance s_notNs {x : Str} : Stp (oNotN (.str x) .non Q) (Q (.bl true)) := ⟨w_notNs⟩
theorem w_notNo {C : Addr} {ns : List Str} (q : Q (.bl true)) : oNotN (.obj C ns ds) .non Q := q
instance s_notNo {C : Addr} {ns : List Str} : Stp (oNotN (.obj C ns ds) .non Q) (Q (.bl true)) := ⟨w_notNo⟩
theorem w_ixL {k : Int} (h : atI ds k = some d) (q : Q d) : oIxL (.lst ds) (.int k) Q := by unfold oIxL; show someQ Q (atI ds k); rw [h]; exact q
theorem w_ixT {k : Int} (h : atI ds k = some d) (q : Q d) : oIxT (.tup ds) (.int k) Q := by unfold oIxT; show someQ Q (atI ds k); rw [h]; exact q
theorem w_ixS {x : Str} {k : Int} {c : Nat} (l : x.length ≤ 1000000) (h : atI x.cps.toList k = some c) (q : Q (.str ⟨#[c]⟩)) : oIxS (.str x) (.int k) Q := ⟨l, by show someQ _ (atI x.cps.toList k); rw [h]; exact q⟩
theorem w_inL (h : flatD d = true) (h' : ds.all flatD = true) (q : Q (.bl (inF d ds))) : oIn d (.lst ds) Q := ⟨h, h', q⟩
theorem w_inT (h : flatD d = true) (h' : ds.all flatD = true) (q : Q (.bl (inF d ds))) : oIn d (.tup ds) Q := ⟨h, h', q⟩
theorem w_ninL (h : flatD d = true) (h' : ds.all flatD = true) (q : Q (.bl (!inF d ds))) : oNotIn d (.lst ds) Q := ⟨h, h', q⟩
theorem w_ninT (h : flatD d = true) (h' : ds.all flatD = true) (q : Q (.bl (!inF d ds))) : oNotIn d (.tup ds) Q := ⟨h, h', q⟩
theorem w_cat (h : ds.length + es.length ≤ 1000000) (q : O (.ol (ds ++ es))) : oCat (.lst ds) (.lst es) O := ⟨h, q⟩
theorem w_catT (h : ds.length + es.length ≤ 1000000) (q : Q (.tup (ds ++ es))) : oCatT (.tup ds) (.tup es) Q := ⟨h, q⟩
theorem w_fz (q : o ρ (frzQ Q) X) : aFz o ρ Q X := q
instance s_fz  : Stp (aFz o ρ Q X) (o ρ (frzQ Q) X) := ⟨w_fz⟩
theorem w_frzL (q : Q (.lst ds)) : frzQ Q (.ol ds) := q
instance s_frzL  : Stp (frzQ Q (.ol ds)) (Q (.lst ds)) := ⟨w_frzL⟩
theorem w_frzF (q : Q d) : frzQ Q (.fz d) := q
instance s_frzF  : Stp (frzQ Q (.fz d)) (Q d) := ⟨w_frzF⟩
theorem w_up (q : e ρ (fun d => O (.fz d)) X) : aUp e ρ O X := q
instance s_up  : Stp (aUp e ρ O X) (e ρ (fun d => O (.fz d)) X) := ⟨w_up⟩
theorem w_call0 {A : AF} {r : AA} (q : r ρ (callQ A ρ O fun _ => False) X) : aCall0 A r ρ O X := q
instance s_call0 {A : AF} {r : AA} : Stp (aCall0 A r ρ O X) (r ρ (callQ A ρ O fun _ => False) X) := ⟨w_call0⟩
theorem w_call {A : AF} {r : AA} (q : r ρ (callQ A ρ O X) X) : aCall A r ρ O X := q
instance s_call {A : AF} {r : AA} : Stp (aCall A r ρ O X) (r ρ (callQ A ρ O X) X) := ⟨w_call⟩
theorem w_arg {r : AA} {P : List Arg → Prop} (q : a ρ (fun d => r ρ (fun ds => P (.val d :: ds)) X) X) : aArg a r ρ P X := q
instance s_arg {r : AA} {P : List Arg → Prop} : Stp (aArg a r ρ P X) (a ρ (fun d => r ρ (fun ds => P (.val d :: ds)) X) X) := ⟨w_arg⟩
theorem w_slot {r : AA} {P : List Arg → Prop} (h : ρ[i]? = some (some .dr)) (q : r ρ (fun ds => P (.slot i :: ds)) X) : aSlot i r ρ P X := by unfold aSlot; rw [h]; exact q
instance s_slot {r : AA} {P : List Arg → Prop} : St0 (aSlot i r ρ P X) (ρ[i]? = some (some .dr)) (r ρ (fun ds => P (.slot i :: ds)) X) := ⟨fun h q => w_slot h q⟩
theorem w_args {P : List Arg → Prop} (q : P []) : aArgs ρ P X := q
instance s_args {P : List Arg → Prop} : Stp (aArgs ρ P X) (P []) := ⟨w_args⟩
theorem w_callQ {A : AF} {as : List Arg} {avs : List AV} (h1 : slots as ≤ 1) (h : argsAV ρ as = some avs) (q : A avs O X) : callQ A ρ O X as := ⟨h1, by rw [h]; exact q⟩
theorem w_draw {m : Int} (h0 : 0 < m) (h1 : m < 2 ^ 200) (q : ∀ r : Int, 0 ≤ r → r < m → O (.fz (.int r))) : A_draw [.dr, .fz (.int m)] O X := ⟨h0, h1, q⟩
theorem w_nil (q : L []) : aNil ρ L X := q
instance s_nil  : Stp (aNil ρ L X) (L []) := ⟨w_nil⟩
theorem w_cons (q : a ρ (fun d => r ρ (fun ds => L (d :: ds)) X) X) : aCons a r ρ L X := q
instance s_cons  : Stp (aCons a r ρ L X) (a ρ (fun d => r ρ (fun ds => L (d :: ds)) X) X) := ⟨w_cons⟩
theorem w_tup (q : r ρ (fun ds => ds.length ≤ 1000000 ∧ Q (.tup ds)) X) : aTup r ρ Q X := q
instance s_tup  : Stp (aTup r ρ Q X) (r ρ (fun ds => ds.length ≤ 1000000 ∧ Q (.tup ds)) X) := ⟨w_tup⟩
theorem w_lst (q : r ρ (fun ds => ds.length ≤ 1000000 ∧ O (.ol ds)) X) : aLst r ρ O X := q
instance s_lst  : Stp (aLst r ρ O X) (r ρ (fun ds => ds.length ≤ 1000000 ∧ O (.ol ds)) X) := ⟨w_lst⟩
theorem w_test {P : Bool → Prop} (q : e ρ (blQ P) X) : aTest e ρ P X := q
instance s_test {P : Bool → Prop} : Stp (aTest e ρ P X) (e ρ (blQ P) X) := ⟨w_test⟩
theorem w_blQ {P : Bool → Prop} {k : Bool} (q : P k) : blQ P (.bl k) := q
instance s_blQ {P : Bool → Prop} {k : Bool} : Stp (blQ P (.bl k)) (P k) := ⟨w_blQ⟩
theorem w_not {P : Bool → Prop} (q : t ρ (fun k => P (!k)) X) : aNot t ρ P X := q
instance s_not {P : Bool → Prop} : Stp (aNot t ρ P X) (t ρ (fun k => P (!k)) X) := ⟨w_not⟩
theorem w_and {P : Bool → Prop} (q : t ρ (fun x => cond x (u ρ P X) (P false)) X) : aAnd t u ρ P X := q
instance s_and {P : Bool → Prop} : Stp (aAnd t u ρ P X) (t ρ (fun x => cond x (u ρ P X) (P false)) X) := ⟨w_and⟩
theorem w_or {P : Bool → Prop} (q : t ρ (fun x => cond x (P true) (u ρ P X)) X) : aOr t u ρ P X := q
instance s_or {P : Bool → Prop} : Stp (aOr t u ρ P X) (t ρ (fun x => cond x (P true) (u ρ P X)) X) := ⟨w_or⟩
theorem w_andV (q : a ρ (blQ fun x => cond x (b ρ Q X) (Q (.bl false))) X) : aAndV a b ρ Q X := q
instance s_andV  : Stp (aAndV a b ρ Q X) (a ρ (blQ fun x => cond x (b ρ Q X) (Q (.bl false))) X) := ⟨w_andV⟩
theorem w_orV (q : a ρ (blQ fun x => cond x (Q (.bl true)) (b ρ Q X)) X) : aOrV a b ρ Q X := q
instance s_orV  : Stp (aOrV a b ρ Q X) (a ρ (blQ fun x => cond x (Q (.bl true)) (b ρ Q X)) X) := ⟨w_orV⟩
theorem w_notV (q : a ρ (blQ fun x => Q (.bl (!x))) X) : aNotV a ρ Q X := q
instance s_notV  : Stp (aNotV a ρ Q X) (a ρ (blQ fun x => Q (.bl (!x))) X) := ⟨w_notV⟩
theorem w_ifE (q : t ρ (fun x => cond x (a ρ Q X) (b ρ Q X)) X) : aIfE t a b ρ Q X := q
instance s_ifE  : Stp (aIfE t a b ρ Q X) (t ρ (fun x => cond x (a ρ Q X) (b ρ Q X)) X) := ⟨w_ifE⟩
theorem w_chain {f g : D → D → (D → Prop) → Prop} (q : a ρ (fun x => b ρ (fun y => f x y (blQ fun k => cond k (e ρ (fun z => g y z Q) X) (Q (.bl false)))) X) X) : aChain f g a b e ρ Q X := q
instance s_chain {f g : D → D → (D → Prop) → Prop} : Stp (aChain f g a b e ρ Q X) (a ρ (fun x => b ρ (fun y => f x y (blQ fun k => cond k (e ρ (fun z => g y z Q) X) (Q (.bl false)))) X) X) := ⟨w_chain⟩
theorem w_cT {A B : Prop} (q : A) : cond true A B := q
instance s_cT {A B : Prop} : Stp (cond true A B) (A) := ⟨w_cT⟩
theorem w_cF {A B : Prop} (q : B) : cond false A B := q
instance s_cF {A B : Prop} : Stp (cond false A B) (B) := ⟨w_cF⟩
theorem w_cNT {A B : Prop} (q : B) : cond (!true) A B := q
instance s_cNT {A B : Prop} : Stp (cond (!true) A B) (B) := ⟨w_cNT⟩
theorem w_cNF {A B : Prop} (q : A) : cond (!false) A B := q
instance s_cNF {A B : Prop} : Stp (cond (!false) A B) (A) := ⟨w_cNF⟩
theorem w_cN {k : Bool} {A B : Prop} (q : cond k B A) : cond (!k) A B := cond_not q
instance s_cN {k : Bool} {A B : Prop} : Stp (cond (!k) A B) (cond k B A) := ⟨w_cN⟩
theorem w_cb {f : List D → (D → Prop) → Prop} (q : r ρ (fun ds => f ds Q) X) : aCB f r ρ Q X := q
instance s_cb {f : List D → (D → Prop) → Prop} : Stp (aCB f r ρ Q X) (r ρ (fun ds => f ds Q) X) := ⟨w_cb⟩
theorem w_cbO {f : List D → (AV → Prop) → Prop} (q : r ρ (fun ds => f ds O) X) : aCBO f r ρ O X := q
instance s_cbO {f : List D → (AV → Prop) → Prop} : Stp (aCBO f r ρ O X) (r ρ (fun ds => f ds O) X) := ⟨w_cbO⟩
theorem w_lenL (q : Q (.int ds.length)) : oLen [.lst ds] Q := q
instance s_lenL  : Stp (oLen [.lst ds] Q) (Q (.int ds.length)) := ⟨w_lenL⟩
theorem w_lenT (q : Q (.int ds.length)) : oLen [.tup ds] Q := q
instance s_lenT  : Stp (oLen [.tup ds] Q) (Q (.int ds.length)) := ⟨w_lenT⟩
theorem w_listL (q : O (.ol ds)) : oList [.lst ds] O := q
instance s_listL  : Stp (oList [.lst ds] O) (O (.ol ds)) := ⟨w_listL⟩
theorem w_listT (q : O (.ol ds)) : oList [.tup ds] O := q
instance s_listT  : Stp (oList [.tup ds] O) (O (.ol ds)) := ⟨w_listT⟩
theorem w_tupleL (q : Q (.tup ds)) : oTuple [.lst ds] Q := q
instance s_tupleL  : Stp (oTuple [.lst ds] Q) (Q (.tup ds)) := ⟨w_tupleL⟩
theorem w_tupleT (q : Q (.tup ds)) : oTuple [.tup ds] Q := q
instance s_tupleT  : Stp (oTuple [.tup ds] Q) (Q (.tup ds)) := ⟨w_tupleT⟩
theorem w_bls {f : List Bool → D} {ns : List Bool} (h : blsOf ds = some ns) (q : Q (f ns)) : oBls f [.lst ds] Q := by unfold oBls; show someQ _ (blsOf ds); rw [h]; exact q
theorem w_isi {m n : String} (h : tyD d = some n) (hm : m = "int" ∨ m = "bool" ∨ m = "str" ∨ m = "list" ∨ m = "tuple") (q : Q (.bl (isiD n m))) : oIsi [d, .ty m] Q := by unfold oIsi; show someQ _ (tyD d); rw [h]; exact ⟨hm, q⟩
theorem w_isiT {m n : String} (h : tyD d = some n) (hm : m = "int" ∨ m = "bool" ∨ m = "str" ∨ m = "list" ∨ m = "tuple") (hk : isiD n m = true) (q : Q (.bl true)) : oIsi [d, .ty m] Q := w_isi h hm (by rw [hk]; exact q)
theorem w_isiF {m n : String} (h : tyD d = some n) (hm : m = "int" ∨ m = "bool" ∨ m = "str" ∨ m = "list" ∨ m = "tuple") (hk : isiD n m = false) (q : Q (.bl false)) : oIsi [d, .ty m] Q := w_isi h hm (by rw [hk]; exact q)
theorem w_fld {C : Addr} {f : Str} (q : a ρ (fldQ C f Q) X) : aFld C f a ρ Q X := q
instance s_fld {C : Addr} {f : Str} : Stp (aFld C f a ρ Q X) (a ρ (fldQ C f Q) X) := ⟨w_fld⟩
theorem w_fldQ {C : Addr} {f : Str} {ns : List Str} (h : lookD f ns ds = some d) (q : Q d) : fldQ C f Q (.obj C ns ds) := by unfold fldQ; exact ⟨rfl, by rw [h]; exact q⟩
instance s_fldQ {C : Addr} {f : Str} {ns : List Str} : St1 (β := D) (fldQ C f Q (.obj C ns ds)) (fun d => lookD f ns ds = some d) (fun d => Q d) := ⟨fun _ h q => w_fldQ h q⟩
theorem w_olQ (h : ρ[i]? = some (some (.ol ds))) (q : L ds) : olQ ρ i L := by unfold olQ; rw [h]; exact q
instance s_olQ  : St1 (β := List D) (olQ ρ i L) (fun ds => ρ[i]? = some (some (.ol ds))) (fun ds => L ds) := ⟨fun _ h q => w_olQ h q⟩
theorem w_app (h : ρ[i]? = some (some (.ol ds))) (q : e ρ (fun d => olQ ρ i fun ds => ds.length < 1000000 ∧ nx (ρ.set i (some (.ol (ds ++ [d]))))) (fun x => ex x ρ)) : aApp i e ⟨nx, rt, bk, ct, ex⟩ ρ := w_olQ h q
instance s_app  : St1 (β := List D) (aApp i e ⟨nx, rt, bk, ct, ex⟩ ρ) (fun ds => ρ[i]? = some (some (.ol ds))) (fun ds => e ρ (fun d => olQ ρ i fun ds => ds.length < 1000000 ∧ nx (ρ.set i (some (.ol (ds ++ [d]))))) (fun x => ex x ρ)) := ⟨fun _ h q => w_app h q⟩
theorem w_put (h : ρ[i]? = some (some (.ol ds))) (q : e ρ (fun d => e' ρ (fun k => olQ ρ i fun ds => ixQ ds.length (fun j => nx (ρ.set i (some (.ol (ds.set j d))))) k) (fun x => ex x ρ)) (fun x => ex x ρ)) : aPut i e' e ⟨nx, rt, bk, ct, ex⟩ ρ := w_olQ h q
instance s_put  : St1 (β := List D) (aPut i e' e ⟨nx, rt, bk, ct, ex⟩ ρ) (fun ds => ρ[i]? = some (some (.ol ds))) (fun ds => e ρ (fun d => e' ρ (fun k => olQ ρ i fun ds => ixQ ds.length (fun j => nx (ρ.set i (some (.ol (ds.set j d))))) k) (fun x => ex x ρ)) (fun x => ex x ρ)) := ⟨fun _ h q => w_put h q⟩
theorem w_ext (h : ρ[i]? = some (some (.ol ds))) (q : e ρ (lstQ fun es => olQ ρ i fun ds => ds.length + es.length ≤ 1000000 ∧ nx (ρ.set i (some (.ol (ds ++ es))))) (fun x => ex x ρ)) : aExt i e ⟨nx, rt, bk, ct, ex⟩ ρ := w_olQ h q
instance s_ext  : St1 (β := List D) (aExt i e ⟨nx, rt, bk, ct, ex⟩ ρ) (fun ds => ρ[i]? = some (some (.ol ds))) (fun ds => e ρ (lstQ fun es => olQ ρ i fun ds => ds.length + es.length ≤ 1000000 ∧ nx (ρ.set i (some (.ol (ds ++ es))))) (fun x => ex x ρ)) := ⟨fun _ h q => w_ext h q⟩
theorem w_lstQ (q : L ds) : lstQ L (.lst ds) := q
instance s_lstQ  : Stp (lstQ L (.lst ds)) (L ds) := ⟨w_lstQ⟩
theorem w_tupQ (q : L ds) : tupQ L (.tup ds) := q
instance s_tupQ  : Stp (tupQ L (.tup ds)) (L ds) := ⟨w_tupQ⟩
theorem w_intQ {P : Int → Prop} {x : Int} (q : P x) : intQ P (.int x) := q
instance s_intQ {P : Int → Prop} {x : Int} : Stp (intQ P (.int x)) (P x) := ⟨w_intQ⟩
theorem w_oneQ (q : Q d) : oneQ Q [d] := q
instance s_oneQ  : Stp (oneQ Q [d]) (Q d) := ⟨w_oneQ⟩
theorem w_twoQ {P : D → D → Prop} (q : P d d') : twoQ P [d, d'] := q
instance s_twoQ {P : D → D → Prop} : Stp (twoQ P [d, d']) (P d d') := ⟨w_twoQ⟩
theorem w_for {it : AL} {g : AG} (q : it ρ (fun ds => aLoop g sa ⟨nx, rt, bk, ct, ex⟩ ds ρ) (fun x => ex x ρ)) : aFor it g sa ⟨nx, rt, bk, ct, ex⟩ ρ := q
instance s_for {it : AL} {g : AG} : Stp (aFor it g sa ⟨nx, rt, bk, ct, ex⟩ ρ) (it ρ (fun ds => aLoop g sa ⟨nx, rt, bk, ct, ex⟩ ds ρ) (fun x => ex x ρ)) := ⟨w_for⟩
theorem w_itL (q : e ρ (lstQ L) X) : aItL e ρ L X := q
instance s_itL  : Stp (aItL e ρ L X) (e ρ (lstQ L) X) := ⟨w_itL⟩
theorem w_itT (q : e ρ (tupQ L) X) : aItT e ρ L X := q
instance s_itT  : Stp (aItT e ρ L X) (e ρ (tupQ L) X) := ⟨w_itT⟩
theorem w_rng1 (q : r ρ (oneQ (intQ fun j => (-(2 ^ 62) ≤ j ∧ j < 2 ^ 62) ∧ L (rngD 0 j.toNat))) X) : aRng1 r ρ L X := q
instance s_rng1  : Stp (aRng1 r ρ L X) (r ρ (oneQ (intQ fun j => (-(2 ^ 62) ≤ j ∧ j < 2 ^ 62) ∧ L (rngD 0 j.toNat))) X) := ⟨w_rng1⟩
theorem w_rng2 (q : r ρ (twoQ fun d e => intQ (fun i => intQ (fun j => (-(2 ^ 62) ≤ i ∧ i < 2 ^ 62 ∧ -(2 ^ 62) ≤ j ∧ j < 2 ^ 62) ∧ L (rngD i (j - i).toNat)) e) d) X) : aRng2 r ρ L X := q
instance s_rng2  : Stp (aRng2 r ρ L X) (r ρ (twoQ fun d e => intQ (fun i => intQ (fun j => (-(2 ^ 62) ≤ i ∧ i < 2 ^ 62 ∧ -(2 ^ 62) ≤ j ∧ j < 2 ^ 62) ∧ L (rngD i (j - i).toNat)) e) d) X) := ⟨w_rng2⟩
theorem w_enum (q : r ρ (oneQ (lstQ fun xs => L (enumD xs))) X) : aEnum r ρ L X := q
instance s_enum  : Stp (aEnum r ρ L X) (r ρ (oneQ (lstQ fun xs => L (enumD xs))) X) := ⟨w_enum⟩
theorem w_zip (q : r ρ (twoQ fun d e => lstQ (fun xs => lstQ (fun ys => L (zipD xs ys)) e) d) X) : aZip r ρ L X := q
instance s_zip  : Stp (aZip r ρ L X) (r ρ (twoQ fun d e => lstQ (fun xs => lstQ (fun ys => L (zipD xs ys)) e) d) X) := ⟨w_zip⟩
theorem w_asg {g : AG} (q : e ρ (fun d => g d ρ nx) (fun x => ex x ρ)) : aAsg e g ⟨nx, rt, bk, ct, ex⟩ ρ := q
instance s_asg {g : AG} : Stp (aAsg e g ⟨nx, rt, bk, ct, ex⟩ ρ) (e ρ (fun d => g d ρ nx) (fun x => ex x ρ)) := ⟨w_asg⟩
theorem w_gN {P : Env → Prop} (q : P (ρ.set i (some (.fz d)))) : gN i d ρ P := q
instance s_gN {P : Env → Prop} : Stp (gN i d ρ P) (P (ρ.set i (some (.fz d)))) := ⟨w_gN⟩
theorem w_gT {n : Nat} {rs : AGs} {P : Env → Prop} (h : ds.length = n) (q : rs ds ρ P) : gT n rs (.tup ds) ρ P := ⟨h, q⟩
instance s_gT {n : Nat} {rs : AGs} {P : Env → Prop} : St0 (gT n rs (.tup ds) ρ P) (ds.length = n) (rs ds ρ P) := ⟨fun h q => w_gT h q⟩
theorem w_gsCons {g : AG} {rs : AGs} {P : Env → Prop} (q : g d ρ (fun ρ' => rs ds ρ' P)) : gsCons g rs (d :: ds) ρ P := q
instance s_gsCons {g : AG} {rs : AGs} {P : Env → Prop} : Stp (gsCons g rs (d :: ds) ρ P) (g d ρ (fun ρ' => rs ds ρ' P)) := ⟨w_gsCons⟩
theorem w_gsNil {P : Env → Prop} (q : P ρ) : gsNil [] ρ P := q
instance s_gsNil {P : Env → Prop} : Stp (gsNil [] ρ P) (P ρ) := ⟨w_gsNil⟩
theorem w_par (q : r ρ (twoQ fun d e => nx ((ρ.set i (some (.fz d))).set j (some (.fz e)))) (fun x => ex x ρ)) : aPar i j r ⟨nx, rt, bk, ct, ex⟩ ρ := q
instance s_par  : Stp (aPar i j r ⟨nx, rt, bk, ct, ex⟩ ρ) (r ρ (twoQ fun d e => nx ((ρ.set i (some (.fz d))).set j (some (.fz e)))) (fun x => ex x ρ)) := ⟨w_par⟩
theorem w_aug {f : D → D → (D → Prop) → Prop} (h : ρ[i]? = some (some (.fz d))) (q : e ρ (fun y => f d y fun z => nx (ρ.set i (some (.fz z)))) (fun x => ex x ρ)) : aAug i f e ⟨nx, rt, bk, ct, ex⟩ ρ := by unfold aAug; rw [h]; exact q
instance s_aug {f : D → D → (D → Prop) → Prop} : St1 (β := D) (aAug i f e ⟨nx, rt, bk, ct, ex⟩ ρ) (fun d => ρ[i]? = some (some (.fz d))) (fun d => e ρ (fun y => f d y fun z => nx (ρ.set i (some (.fz z)))) (fun x => ex x ρ)) := ⟨fun _ h q => w_aug h q⟩
theorem w_lc {it : AL} {g : AG} {vs : List Nat} (q : it ρ (fun ds => aComp g t e (wipeA ρ vs) X ds [] (fun acc => O (.ol acc))) X) : aLc it g t e vs ρ O X := q
instance s_lc {it : AL} {g : AG} {vs : List Nat} : Stp (aLc it g t e vs ρ O X) (it ρ (fun ds => aComp g t e (wipeA ρ vs) X ds [] (fun acc => O (.ol acc))) X) := ⟨w_lc⟩
theorem w_yes {P : Bool → Prop} (q : P true) : aYes ρ P X := q
instance s_yes {P : Bool → Prop} : Stp (aYes ρ P X) (P true) := ⟨w_yes⟩
theorem w_sealL (h : ρ[i]? = some (some (.ol ds))) (q : sa ⟨nx, rt, bk, ct, ex⟩ (ρ.set i (some (.fz (.lst ds))))) : aSeal i sa ⟨nx, rt, bk, ct, ex⟩ ρ := by unfold aSeal; rw [h]; exact q
theorem w_sealF (h : ρ[i]? = some (some (.fz d))) (q : sa ⟨nx, rt, bk, ct, ex⟩ (ρ.set i (some (.fz d)))) : aSeal i sa ⟨nx, rt, bk, ct, ex⟩ ρ := by unfold aSeal; rw [h]; exact q
theorem w_rev (q : e ρ (lstQ fun ds => O (.ol ds.reverse)) X) : aRev e ρ O X := q
instance s_rev  : Stp (aRev e ρ O X) (e ρ (lstQ fun ds => O (.ol ds.reverse)) X) := ⟨w_rev⟩
theorem w_sl {f : D → Option Int → Option Int → (D → Prop) → Prop} {lo hi : AP} (q : a ρ (fun d => lo ρ (fun l => hi ρ (fun h => f d l h Q) X) X) X) : aSl f a lo hi ρ Q X := q
instance s_sl {f : D → Option Int → Option Int → (D → Prop) → Prop} {lo hi : AP} : Stp (aSl f a lo hi ρ Q X) (a ρ (fun d => lo ρ (fun l => hi ρ (fun h => f d l h Q) X) X) X) := ⟨w_sl⟩
theorem w_slO {f : D → Option Int → Option Int → (AV → Prop) → Prop} {lo hi : AP} (q : a ρ (fun d => lo ρ (fun l => hi ρ (fun h => f d l h O) X) X) X) : aSlO f a lo hi ρ O X := q
instance s_slO {f : D → Option Int → Option Int → (AV → Prop) → Prop} {lo hi : AP} : Stp (aSlO f a lo hi ρ O X) (a ρ (fun d => lo ρ (fun l => hi ρ (fun h => f d l h O) X) X) X) := ⟨w_slO⟩
theorem w_noPart {P : Option Int → Prop} (q : P none) : aNoPart ρ P X := q
instance s_noPart {P : Option Int → Prop} : Stp (aNoPart ρ P X) (P none) := ⟨w_noPart⟩
theorem w_part {P : Option Int → Prop} (q : e ρ (intQ fun i => P (some i)) X) : aPart e ρ P X := q
instance s_part {P : Option Int → Prop} : Stp (aPart e ρ P X) (e ρ (intQ fun i => P (some i)) X) := ⟨w_part⟩
theorem w_slL {lo hi : Option Int} (q : O (.ol (cutD ds lo hi))) : oSlL (.lst ds) lo hi O := q
instance s_slL {lo hi : Option Int} : Stp (oSlL (.lst ds) lo hi O) (O (.ol (cutD ds lo hi))) := ⟨w_slL⟩
theorem w_slT {lo hi : Option Int} (q : Q (.tup (cutD ds lo hi))) : oSlT (.tup ds) lo hi Q := q
instance s_slT {lo hi : Option Int} : Stp (oSlT (.tup ds) lo hi Q) (Q (.tup (cutD ds lo hi))) := ⟨w_slT⟩
theorem w_eqD (h : okD 8 d = true) (h' : okD 8 d' = true) (q : Q (.bl (deq d d'))) : oEqD d d' Q := ⟨h, h', q⟩
theorem w_neD (h : okD 8 d = true) (h' : okD 8 d' = true) (q : Q (.bl (!deq d d'))) : oNeD d d' Q := ⟨h, h', q⟩
end
end SW
namespace SW
open PySem PySem.Spec PyProof.Rows L2
variable [QN]
def ownK (ρ : Env) (σ : L2.St) (k : Nat) : List Addr := match ρ[k]?, σ[k]? with
  | some a, some v => ownS a v
  | _, _ => []
theorem ownK_mem : ∀ {ρ : Env} {σ : L2.St} {p : Addr}, p ∈ owns ρ σ ↔ ∃ k, p ∈ ownK ρ σ k
  | [], σ, p => ⟨fun h => by simp [owns] at h, fun ⟨k, h⟩ => by simp [ownK] at h⟩
  | a :: ρ, [], p => ⟨fun h => by simp [owns] at h, fun ⟨k, h⟩ => by simp [ownK] at h⟩
  | a :: ρ, v :: σ, p => by
    constructor
    · intro h
      rcases List.mem_append.mp h with h | h
      · exact ⟨0, h⟩
      · obtain ⟨k, hk⟩ := ownK_mem.mp h
        exact ⟨k + 1, hk⟩
    · rintro ⟨k, h⟩
      cases k with
      | zero => exact List.mem_append_left _ h
      | succ k => exact List.mem_append_right _ (ownK_mem.mpr ⟨k, h⟩)
theorem ownK_nodup : ∀ {ρ : Env} {σ : L2.St}, (owns ρ σ).Nodup ↔ (∀ k, (ownK ρ σ k).Nodup) ∧ ∀ k l p, k ≠ l → p ∈ ownK ρ σ k → p ∉ ownK ρ σ l
  | [], σ => ⟨fun _ => ⟨fun k => by simp [ownK], fun k l p _ h => by simp [ownK] at h⟩, fun _ => by simp [owns]⟩
  | a :: ρ, [] => ⟨fun _ => ⟨fun k => by simp [ownK], fun k l p _ h => by simp [ownK] at h⟩, fun _ => by simp [owns]⟩
  | a :: ρ, v :: σ => by
    have ih := ownK_nodup (ρ := ρ) (σ := σ)
    have e0 : ownK (a :: ρ) (v :: σ) 0 = ownS a v := rfl
    have es : ∀ k, ownK (a :: ρ) (v :: σ) (k + 1) = ownK ρ σ k := fun k => rfl
    constructor
    · intro h
      obtain ⟨n1, n2, n3⟩ := List.nodup_append.mp (show (ownS a v ++ owns ρ σ).Nodup from h)
      obtain ⟨i1, i2⟩ := ih.mp n2
      refine ⟨fun k => ?_, fun k l p hkl hk hl => ?_⟩
      · cases k with
        | zero => exact n1
        | succ k => exact i1 k
      · cases k with
        | zero =>
          cases l with
          | zero => exact hkl rfl
          | succ l => exact n3 p hk p (ownK_mem.mpr ⟨l, hl⟩) rfl
        | succ k =>
          cases l with
          | zero => exact n3 p hl p (ownK_mem.mpr ⟨k, hk⟩) rfl
          | succ l => exact i2 k l p (fun z => hkl (by rw [z])) hk hl
    · rintro ⟨h1, h2⟩
      refine List.nodup_append.mpr ⟨h1 0, ih.mpr ⟨fun k => h1 (k + 1), fun k l p hkl hk hl => h2 (k + 1) (l + 1) p (fun z => hkl (Nat.succ.inj z)) hk hl⟩, fun x hx y hy z => ?_⟩
      subst z
      obtain ⟨k, hk⟩ := ownK_mem.mp hy
      exact h2 0 (k + 1) x (by omega) hx hk
theorem paired_at {α β : Type} {F : α → β → Prop} {xs : List α} {ys : List β} (hl : xs.length = ys.length) (h : ∀ (k : Nat) (x : α) (y : β), xs[k]? = some x → ys[k]? = some y → F x y) : Paired F xs ys := by
  induction xs generalizing ys with
  | nil => cases ys with
    | nil => exact .nil
    | cons y ys => cases hl
  | cons x xs ih =>
    cases ys with
    | nil => cases hl
    | cons y ys => exact .cons (h 0 x y rfl rfl) (ih (Nat.succ.inj hl) fun k a b ha hb => h (k + 1) a b ha hb)
section
variable {c : DC} {U H U' H' : Hp} {σ : L2.St} {ρ ρ' : Env}
/-- a step that changes some slots' things: J tells which -/
theorem DI.multiG {M : List Addr} (J : Nat → Bool) (I : DI c U H σ ρ) (g : Gr M U H U' H') (len : ρ'.length = ρ.length) (keep : ∀ k, J k = false → ρ'[k]? = ρ[k]?) (own1 : ∀ k, J k = true → ∃ a a' v, ρ[k]? = some (some a) ∧ ρ'[k]? = some (some a') ∧ σ[k]? = some (some v) ∧ a'.kind = a.kind ∧ RepA c.K U' H' a' v ∧ (own a' v).Nodup)
    (hM : ∀ p ∈ M, ∃ k, J k = true ∧ p ∈ ownK ρ σ k) (out : ∀ k p, J k = true → p ∈ ownK ρ' σ k → U' p = none ∧ (p ∈ ownK ρ σ k ∨ (p ∉ owns ρ σ ∧ c.H0 p = none))) (dis : ∀ k l p, k ≠ l → J k = true → J l = true → p ∈ ownK ρ' σ k → p ∉ ownK ρ' σ l) : DI c U' H' σ ρ' := by
  obtain ⟨nd1, nd2⟩ := ownK_nodup.mp I.nd
  have ek : ∀ k, J k = false → ownK ρ' σ k = ownK ρ σ k := fun k hk => by
    unfold ownK
    rw [keep k hk]
  have memo : ∀ k p, p ∈ ownK ρ σ k → p ∈ owns ρ σ := fun k p h => ownK_mem.mpr ⟨k, h⟩
  have nM : ∀ k p, J k = false → p ∈ ownK ρ σ k → p ∉ M := fun k p hk hp z => by
    obtain ⟨l, hl, hp'⟩ := hM p z
    exact nd2 k l p (fun e => by rw [e, hl] at hk; cases hk) hp hp'
  have rl : ρ.length = σ.length := I.rep.length
  refine ⟨⟨I.gr.vv.trans g.vv, g.vh, fun a o ma nn ha => ?_, fun a ha => g.dom a (I.gr.dom a ha), fun a h k => g.fr a (I.gr.fr a h k) (I.gr.dom a k), fun P h => g.tb P (I.gr.tb P h), fun h => g.nt (I.gr.nt h)⟩, ?_, ownK_nodup.mpr ⟨fun k => ?_, fun k l p hkl hk hl => ?_⟩, fun p hp => ?_, ?_, I.ko, fun k av v e1 e2 p hp => ?_, I.on⟩
  · refine g.hh a o (fun z => ?_) nn (I.gr.hh a o ma nn ha)
    obtain ⟨l, _, hp'⟩ := hM a z
    rcases (I.out a (memo l a hp')).2 with y | y
    · exact ma y
    · rw [y] at ha
      cases ha
  · refine paired_at (len.trans rl) fun k x y hx hy => ?_
    cases hj : J k with
    | true =>
      obtain ⟨a, a', v, e1, e2, e3, _, r, _⟩ := own1 k hj
      rw [e2] at hx
      rw [e3] at hy
      cases hx
      cases hy
      exact r
    | false =>
      rw [keep k hj] at hx
      obtain ⟨y', ey, ry⟩ := Paired.at' I.rep k x hx
      rw [hy] at ey
      cases ey
      cases x with
      | none => trivial
      | some av =>
        cases y with
        | none => exact ry
        | some v =>
          have hok : ownK ρ σ k = own av v := by unfold ownK; rw [hx, hy]; rfl
          exact RepA.keep g.vv av v (fun p hp => ⟨keep_at g (own_pl av v ry p hp) (nM k p hj (by rw [hok]; exact hp)), g.fr p (I.out p (memo k p (by rw [hok]; exact hp))).1 (own_some av v ry p hp)⟩) ry
  · cases hj : J k with
    | true =>
      obtain ⟨a, a', v, e1, e2, e3, _, _, n⟩ := own1 k hj
      unfold ownK
      rw [e2, e3]
      exact n
    | false =>
      rw [ek k hj]
      exact nd1 k
  · cases hj : J k with
    | true =>
      cases hj' : J l with
      | true => exact dis k l p hkl hj hj' hk hl
      | false =>
        rw [ek l hj'] at hl
        rcases (out k p hj hk).2 with z | z
        · exact nd2 k l p hkl z hl
        · exact z.1 (memo l p hl)
    | false =>
      rw [ek k hj] at hk
      cases hj' : J l with
      | true =>
        rcases (out l p hj' hl).2 with z | z
        · exact nd2 k l p hkl hk z
        · exact z.1 (memo k p hk)
      | false =>
        rw [ek l hj'] at hl
        exact nd2 k l p hkl hk hl
  · obtain ⟨k, hk⟩ := ownK_mem.mp hp
    cases hj : J k with
    | true =>
      obtain ⟨o1, o2⟩ := out k p hj hk
      refine ⟨o1, ?_⟩
      rcases o2 with z | z
      · exact (I.out p (memo k p z)).2
      · exact .inr z.2
    | false =>
      rw [ek k hj] at hk
      have hin := I.out p (memo k p hk)
      exact ⟨g.fr p hin.1 (I.ex p (memo k p hk)), hin.2⟩
  · obtain ⟨p1, avs, p2, p3⟩ := I.par
    refine ⟨p1, ?_⟩
    have go : ∀ (ks : List Bool) (ρ ρ' : Env) (avs : List AV), ρ'.length = ρ.length → (∀ k : Nat, ρ'[k]? = ρ[k]? ∨ ∃ a a' : AV, ρ[k]? = some (some a) ∧ ρ'[k]? = some (some a') ∧ a'.kind = a.kind) → selM ks ρ = avs.map some → ∃ bs : List AV, selM ks ρ' = bs.map some ∧ bs.map AV.kind = avs.map AV.kind := by
      intro ks
      induction ks with
      | nil =>
        intro ρ ρ' avs _ _ e
        refine ⟨avs, ?_, rfl⟩
        rw [← e]
        cases ρ <;> cases ρ' <;> rfl
      | cons b ks ih =>
        intro ρ ρ' avs hl hh e
        cases ρ with
        | nil =>
          cases ρ' with
          | nil => exact ⟨avs, e, rfl⟩
          | cons _ _ => cases hl
        | cons a ρ =>
          cases ρ' with
          | nil => cases hl
          | cons a' ρ' =>
            have hh' : ∀ k : Nat, ρ'[k]? = ρ[k]? ∨ ∃ a a' : AV, ρ[k]? = some (some a) ∧ ρ'[k]? = some (some a') ∧ a'.kind = a.kind := fun k => hh (k + 1)
            cases b with
            | false => exact ih ρ ρ' avs (Nat.succ.inj hl) hh' e
            | true =>
              cases avs with
              | nil => cases e
              | cons a0 avs =>
                obtain ⟨g1, g2⟩ := List.cons.inj e
                subst g1
                obtain ⟨bs, k1, k2⟩ := ih ρ ρ' avs (Nat.succ.inj hl) hh' g2
                rcases hh 0 with z | ⟨x, x', z1, z2, z3⟩
                · have z' := Option.some.inj z
                  subst z'
                  exact ⟨a0 :: bs, by show some a0 :: selM ks ρ' = _; rw [k1]; rfl, by rw [List.map_cons, List.map_cons, k2]⟩
                · have z1' := Option.some.inj z1
                  have z2' := Option.some.inj z2
                  have z1'' := Option.some.inj z1'
                  subst z1'' z2'
                  exact ⟨x' :: bs, by show some x' :: selM ks ρ' = _; rw [k1]; rfl, by rw [List.map_cons, List.map_cons, k2, z3]⟩
    obtain ⟨bs, k1, k2⟩ := go c.ks ρ ρ' avs len (fun k => by
      cases hj : J k with
      | true =>
        obtain ⟨a, a', v, e1, e2, _, e4, _⟩ := own1 k hj
        exact .inr ⟨a, a', e1, e2, e4⟩
      | false => exact .inl (keep k hj)) p2
    exact ⟨bs, k1, k2.trans p3⟩
  · have hok : ownK ρ' σ k = own av v := by unfold ownK; rw [e1, e2]; rfl
    cases hj : J k with
    | true =>
      obtain ⟨a, a', w, f1, f2, f3, _⟩ := own1 k hj
      rcases (out k p hj (by rw [hok]; exact hp)).2 with z | z
      · unfold ownK at z
        rw [f1, f3] at z
        rw [f3] at e2
        cases e2
        exact I.ow k a _ f1 f3 p z
      · exact .inr z.2
    | false =>
      rw [keep k hj] at e1
      exact I.ow k av v e1 e2 p hp
theorem DI.multi {M : List Addr} (J : Nat → Bool) (I : DI c U H σ ρ) (g : Gr M U H U' H') (len : ρ'.length = ρ.length) (keep : ∀ k, J k = false → ρ'[k]? = ρ[k]?) (own1 : ∀ k, J k = true → ∃ a a' v, ρ[k]? = some (some a) ∧ ρ'[k]? = some (some a') ∧ σ[k]? = some (some v) ∧ a'.kind = a.kind ∧ RepA c.K U' H' a' v ∧ (own a' v).Nodup)
    (hM : ∀ p ∈ M, ∃ k, J k = true ∧ p ∈ ownK ρ σ k) (out : ∀ k p, J k = true → p ∈ ownK ρ' σ k → U' p = none ∧ (p ∈ ownK ρ σ k ∨ H p = none)) (dis : ∀ k l p, k ≠ l → J k = true → J l = true → p ∈ ownK ρ' σ k → p ∉ ownK ρ' σ l) : DI c U' H' σ ρ' :=
  I.multiG J g len keep own1 hM (fun k p hj hp => ⟨(out k p hj hp).1, (out k p hj hp).2.imp id fun z => ⟨fun y => I.ex p y z, I.gr.fresh z⟩⟩) dis
abbrev AFM := List AV → (AV → List AV → Prop) → (Exn → List AV → Prop) → Prop
/-- each one's places are those it had, or new -/
def PerA (H : Hp) : List AV → List AV → List V → Prop
  | a' :: as', a :: as, v :: vs => (∀ p ∈ own a' v, p ∈ own a v ∨ H p = none) ∧ PerA H as' as vs
  | [], [], _ => True
  | _, _, _ => False
def spM (K : PySem.W.Frag) (tb : List Addr) (A : AFM) : Sp := fun vs H Q E => ∃ (U : Hp) (avs : List AV) (q : AV → List AV → Prop) (x : Exn → List AV → Prop), Same U H ∧ TbOk tb U H ∧ Paired (RepA K U H) avs vs ∧ (ownAs avs vs).Nodup ∧ (∀ p ∈ ownAs avs vs, U p = none) ∧ A avs q x ∧
  (∀ U' H' av v avs', Gr (ownAs avs vs) U H U' H' → RepA K U' H' av v → (own av v).Nodup → (∀ p ∈ own av v, U' p = none ∧ H p = none ∧ p ∉ ownAs avs' vs) → Paired (RepA K U' H') avs' vs → (ownAs avs' vs).Nodup → (∀ p ∈ ownAs avs' vs, U' p = none) → avs'.map AV.kind = avs.map AV.kind → PerA H avs' avs vs → q av avs' → Q v H') ∧
  (∀ U' H' ex cls o avs', Gr (ownAs avs vs) U H U' H' → XRep K U' H' ex cls o → Paired (RepA K U' H') avs' vs → (ownAs avs' vs).Nodup → (∀ p ∈ ownAs avs' vs, U' p = none) → avs'.map AV.kind = avs.map AV.kind → PerA H avs' avs vs → x ex avs' → E cls o H')
/-- the parameters as they stand: what never changes as it came, what is one's own from its slot -/
def mrg : List AV → List (Option AV) → List AV
  | .fz d :: as, r => .fz d :: mrg as r
  | _ :: as, some a :: r => a :: mrg as r
  | a :: as, none :: r => a :: mrg as r
  | a :: as, [] => a :: mrg as []
  | [], _ => []
/-- the marked parameters put back -/
theorem mrg_rep {K : PySem.W.Frag} {U H U' H' : Hp} (s : Same U U') : ∀ {avs : List AV} {vs : List V} (bs : List AV), Paired (RepA K U H) avs vs → RepAs K U' H' bs (selM (avs.map AV.isOwn) vs) → bs.map AV.kind = (selM (avs.map AV.isOwn) avs).map AV.kind →
    Paired (RepA K U' H') (mrg avs (bs.map some)) vs ∧ ownAs (mrg avs (bs.map some)) vs = ownAs bs (selM (avs.map AV.isOwn) vs) ∧ (mrg avs (bs.map some)).map AV.kind = avs.map AV.kind
  | [], [], bs, .nil, _, e => by
    cases bs with
    | nil => exact ⟨.nil, rfl, rfl⟩
    | cons b bs => cases e
  | a :: avs, v :: vs, bs, .cons h t, r, e => by
    by_cases ho : a.isOwn = true
    · cases bs with
      | nil =>
        have e' : ([] : List Nat) = (selM (a.isOwn :: avs.map AV.isOwn) (a :: avs)).map AV.kind := e
        rw [ho] at e'
        cases e'
      | cons b bs =>
        have e' : b.kind :: bs.map AV.kind = (selM (a.isOwn :: avs.map AV.isOwn) (a :: avs)).map AV.kind := e
        rw [ho] at e'
        obtain ⟨e1, e2⟩ := List.cons.inj e'
        have r' : RepAs K U' H' (b :: bs) (selM (a.isOwn :: avs.map AV.isOwn) (v :: vs)) := r
        rw [ho] at r'
        obtain ⟨w, ws, ew, r1, r2⟩ := r'
        obtain ⟨g1, g2⟩ := List.cons.inj ew
        subst g1
        have r2' : RepAs K U' H' bs (selM (avs.map AV.isOwn) vs) := by rw [g2]; exact r2
        obtain ⟨i1, i2, i3⟩ := mrg_rep s bs t r2' e2
        have em : mrg (a :: avs) ((b :: bs).map some) = b :: mrg avs (bs.map some) := by
          cases a <;> first | rfl | cases ho
        have es : selM ((a :: avs).map AV.isOwn) (v :: vs) = v :: selM (avs.map AV.isOwn) vs := by
          show selM (a.isOwn :: avs.map AV.isOwn) (v :: vs) = _
          rw [ho]
          rfl
        rw [em, es]
        exact ⟨.cons r1 i1, by show own b v ++ _ = own b v ++ _; rw [i2], by rw [List.map_cons, List.map_cons, i3, e1]⟩
    · cases a with
      | fz d =>
        obtain ⟨i1, i2, i3⟩ := mrg_rep s bs t r e
        exact ⟨.cons (R.mono s d v h) i1, by
          show own (.fz d) v ++ ownAs (mrg avs (bs.map some)) vs = ownAs bs (selM (avs.map AV.isOwn) vs)
          rw [i2]
          cases v <;> rfl, by rw [show mrg (.fz d :: avs) (bs.map some) = .fz d :: mrg avs (bs.map some) from rfl, List.map_cons, List.map_cons, i3]⟩
      | _ => exact absurd rfl ho
theorem mrg_per {H : Hp} : ∀ (avs : List AV) (vs : List V) (bs : List AV) (n : Nat), avs.length = vs.length → PerO H bs (selM (avs.map AV.isOwn) vs) (selM (avs.map AV.isOwn) (ownL (avs.map some ++ List.replicate n none) (vs.map some ++ List.replicate n none))) → PerA H (mrg avs (bs.map some)) avs vs
  | [], [], bs, n, _, h => by cases bs <;> trivial
  | a :: avs, v :: vs, bs, n, hl, h => by
    have ih := mrg_per (H := H) avs vs
    by_cases ho : a.isOwn = true
    · have h' : PerO H bs (selM (a.isOwn :: avs.map AV.isOwn) (v :: vs)) (selM (a.isOwn :: avs.map AV.isOwn) (own a v :: ownL (avs.map some ++ List.replicate n none) (vs.map some ++ List.replicate n none))) := h
      rw [ho] at h'
      cases bs with
      | nil => exact h'.elim
      | cons b bs =>
        have em : mrg (a :: avs) ((b :: bs).map some) = b :: mrg avs (bs.map some) := by
          cases a <;> first | rfl | cases ho
        rw [em]
        exact ⟨h'.1, ih bs n (Nat.succ.inj hl) h'.2⟩
    · cases a with
      | fz d => exact ⟨fun p hp => (by cases v <;> cases hp), ih bs n (Nat.succ.inj hl) h⟩
      | _ => exact absurd rfl ho
def bodyM (kk : List Nat) (nl : Nat) (a : AS) : AFM := fun avs q x => avs.map AV.kind = kk ∧ a ⟨fun ρ => q (.fz .non) (mrg avs (selM (avs.map AV.isOwn) ρ)), fun av ρ => q av (mrg avs (selM (avs.map AV.isOwn) ρ)), fun _ => False, fun _ => False, fun e ρ => x e (mrg avs (selM (avs.map AV.isOwn) ρ))⟩ (avs.map some ++ List.replicate nl none)
def ownM (kk : List Nat) : List Bool := kk.map fun k => k != 0
theorem ownM_of : ∀ (avs : List AV), avs.map AV.isOwn = ownM (avs.map AV.kind)
  | [] => rfl
  | a :: avs => by
    show a.isOwn :: avs.map AV.isOwn = (a.kind != 0) :: ownM (avs.map AV.kind)
    rw [ownM_of avs]
    cases a <;> rfl
theorem run_bodyM {K : PySem.W.Frag} {kk : List Nat} {nl : Nat} {a : AS} {vs : List V} {H : Hp} {Q : VK} {E : XK} {t : TS} {σ : L2.St} {tb : List Addr} (h : spM K tb (bodyM kk nl a) vs H Q E) (hσ : σ = vs.map some ++ List.replicate nl none) (hs : ∀ pk pv O M U0 H0 X, SimS ⟨K, ownM kk, pk, pv, O, M, U0, H0, X, fun _ => E, tb⟩ t a) :
    t { nx := fun _ H' => Q .non H', rt := Q } σ H := by
  obtain ⟨U, avs, q, x, sU, tbs, rep, nd, out, ⟨hk, hb⟩, kq, kx⟩ := h
  subst hσ
  have lv : avs.length = vs.length := rep.length
  have ek : avs.map AV.isOwn = ownM kk := by rw [ownM_of, hk]
  have key : ∀ {U' H' : Hp} {as : List (Option AV)} {X : Exn → List (Option AV) → Prop}, Same U U' → ParRep ⟨K, avs.map AV.isOwn, (selM (avs.map AV.isOwn) avs).map AV.kind, selM (avs.map AV.isOwn) vs, ownL (avs.map some ++ List.replicate nl none) (vs.map some ++ List.replicate nl none), ownAs avs vs, U, H, X, fun _ => E, tb⟩ U' H' as →
      Paired (RepA K U' H') (mrg avs as) vs ∧ (ownAs (mrg avs as) vs).Nodup ∧ (∀ p ∈ ownAs (mrg avs as) vs, U' p = none) ∧ (mrg avs as).map AV.kind = avs.map AV.kind ∧ PerA H (mrg avs as) avs vs := fun {U' H' as X} s pr => by
    obtain ⟨bs, eb, r, k, n1, n2, n3⟩ := pr.ex
    subst eb
    obtain ⟨i1, i2, i3⟩ := mrg_rep s bs rep r k
    exact ⟨i1, by rw [i2]; exact n1, by rw [i2]; exact n2, i3, mrg_per avs vs bs nl lv n3⟩
  have I := start_DI (K := K) (nl := nl) (X := fun e as => x e (mrg avs as)) (E := E) sU rep nd out ⟨fun U' H' _ as ex cls o _ _ g pr xr z => by
    obtain ⟨k1, k2, k3, k4, k5⟩ := key g.vv pr
    exact kx U' H' ex cls o _ g xr k1 k2 k3 k4 k5 z, tbs⟩
  have hs' : SimS ⟨K, avs.map AV.isOwn, (selM (avs.map AV.isOwn) avs).map AV.kind, selM (avs.map AV.isOwn) vs, ownL (avs.map some ++ List.replicate nl none) (vs.map some ++ List.replicate nl none), ownAs avs vs, U, H, fun e as => x e (mrg avs as), fun _ => E, tb⟩ t a := by rw [ek]; exact hs _ _ _ _ _ _ _
  refine hs' U H _ _ _ _ rfl I hb ⟨?_, ?_, ?_, ?_⟩
  · intro U' H' σ' ρ' _ I z
    obtain ⟨k1, k2, k3, k4, k5⟩ := key I.gr.vv I.pars
    exact kq U' H' (.fz .non) .non _ I.gr rfl List.nodup_nil (fun p hp => by cases hp) k1 k2 k3 k4 k5 z
  · intro U' H' σ' ρ' av v I r n1 n z
    obtain ⟨k1, k2, k3, k4, k5⟩ := key I.gr.vv I.pars
    obtain ⟨e1, bs, e2, e3⟩ := I.par
    obtain ⟨r1, r2⟩ := sel_owns _ ρ' σ' bs _ I.rep e2 e1
    refine kq U' H' av v _ I.gr r n1 (fun p hp => ⟨(n p hp).1, (n p hp).2.1, fun hz => (n p hp).2.2 ?_⟩) k1 k2 k3 k4 k5 z
    have e2' : selM (avs.map AV.isOwn) ρ' = bs.map some := e2
    rw [e2', (mrg_rep I.gr.vv bs rep r1 e3).2.1] at hz
    exact r2.mem hz
  · exact fun U' H' σ' ρ' _ I z => z.elim
  · exact fun U' H' σ' ρ' _ I z => z.elim
theorem spM_len {K : PySem.W.Frag} {kk : List Nat} {nl : Nat} {a : AS} {vs : List V} {H : Hp} {Q : VK} {E : XK} {tb : List Addr} (h : spM K tb (bodyM kk nl a) vs H Q E) : vs.length = kk.length := by
  obtain ⟨U, avs, q, x, sU, tbs, rep, nd, out, ⟨hk, hb⟩, kq, kx⟩ := h
  rw [← rep.length, ← hk, List.length_map]
abbrev AM := Env → (D → Env → Prop) → (Exn → Env → Prop) → Prop
abbrev AMO := Env → (AV → Env → Prop) → (Exn → Env → Prop) → Prop
abbrev AML := Env → (List D → Env → Prop) → (Exn → Env → Prop) → Prop
def OldNew (H : Hp) (ρ ρ' : Env) (σ : L2.St) : Prop := ∀ p ∈ owns ρ' σ, p ∈ owns ρ σ ∨ H p = none
theorem Gr.comp {M N : List Addr} {U0 H0 U1 H1 U2 H2 : Hp} (a : Gr M U0 H0 U1 H1) (b : Gr N U1 H1 U2 H2) (h : ∀ p ∈ N, p ∈ M ∨ H0 p = none) : Gr M U0 H0 U2 H2 :=
  ⟨a.vv.trans b.vv, b.vh, fun x o m nn e => b.hh x o (fun z => by
    rcases h x z with y | y
    · exact m y
    · rw [y] at e; cases e) nn (a.hh x o m nn e), fun x e => b.dom x (a.dom x e), fun x e k => b.fr x (a.fr x e k) (a.dom x k), fun P h => b.tb P (a.tb P h), fun h => b.nt (a.nt h)⟩
theorem OldNew.trans {H H1 : Hp} {M : List Addr} {U U1 : Hp} {ρ ρ1 ρ2 : Env} {σ : L2.St} (g : Gr M U H U1 H1) (a : OldNew H ρ ρ1 σ) (b : OldNew H1 ρ1 ρ2 σ) : OldNew H ρ ρ2 σ := fun p hp => by
  rcases b p hp with z | z
  · exact a p z
  · exact .inr (g.fresh z)
def SimM (c : DC) (t : TE) (e : AM) : Prop := ∀ (U H : Hp) (σ : L2.St) (ρ : Env) (Q : D → Env → Prop) (q : VK), DI c U H σ ρ → e ρ Q (fun x ρ => c.x ρ x) →
  (∀ U' H' ρ' d v, Gr (owns ρ σ) U H U' H' → DI c U' H' σ ρ' → OldNew H ρ ρ' σ → R c.K U' d v → Q d ρ' → q v H') → t σ H q
def SimMO (c : DC) (t : TE) (e : AMO) : Prop := ∀ (U H : Hp) (σ : L2.St) (ρ : Env) (Q : AV → Env → Prop) (q : VK), DI c U H σ ρ → e ρ Q (fun x ρ => c.x ρ x) →
  (∀ U' H' ρ' av v, Gr (owns ρ σ) U H U' H' → DI c U' H' σ ρ' → OldNew H ρ ρ' σ → RepA c.K U' H' av v → Fresh U' H av v → (∀ p ∈ own av v, p ∉ owns ρ' σ) → Q av ρ' → q v H') → t σ H q
def SimML (c : DC) (t : TA) (e : AML) : Prop := ∀ (U H : Hp) (σ : L2.St) (ρ : Env) (Q : List D → Env → Prop) (q : List V → Hp → Prop), DI c U H σ ρ → e ρ Q (fun x ρ => c.x ρ x) →
  (∀ U' H' ρ' ds vs, Gr (owns ρ σ) U H U' H' → DI c U' H' σ ρ' → OldNew H ρ ρ' σ → Rs c.K U' ds vs → Q ds ρ' → q vs H') → t σ H q
theorem OldNew.refl {H : Hp} {ρ : Env} {σ : L2.St} : OldNew H ρ ρ σ := fun _ h => .inl h
section
variable {t ta : TE} {e : AE} {o : AO} {m : AM} {mo : AMO} {i : Nat}
def mE (e : AE) : AM := fun ρ Q X => e ρ (fun d => Q d ρ) (fun x => X x ρ)
def mO (e : AO) : AMO := fun ρ Q X => e ρ (fun d => Q d ρ) (fun x => X x ρ)
theorem simM_E (h : SimE c t e) : SimM c t (mE e) := fun U H σ ρ Q q I z k => h U H σ ρ _ _ I z fun U1 H1 d v g1 I1 r1 z1 => k U1 H1 ρ d v (g1.weak drs_sub) I1 .refl r1 z1
theorem simM_O (h : SimO c t o) : SimMO c t (mO o) := fun U H σ ρ Q q I z k => h U H σ ρ _ _ I z fun U1 H1 av v g1 I1 r1 n1 z1 => k U1 H1 ρ av v (g1.weak drs_sub) I1 .refl r1 n1 (fun p hp y => I.ex p y (n1.out p hp).2) z1
def mFz (e : AMO) : AM := fun ρ Q X => e ρ (fun av ρ' => frzQ (fun d => Q d ρ') av) X
theorem simM_fz (h : SimMO c t mo) : SimM c t (mFz mo) := fun U H σ ρ Q q I z k => h U H σ ρ _ _ I z fun U1 H1 ρ1 av v g1 I1 o1 r1 n1 d1 z1 => by
  obtain ⟨d, f, z2⟩ := frzQ_some z1
  exact k (sealU U1 H1 (own av v)) H1 ρ1 d v (g1.sealL n1.out (own_pl av v r1)) (I1.sealL (fun p hp => ⟨(n1.out p hp).1, I.gr.fresh (n1.out p hp).2, d1 p hp⟩) (own_pl av v r1)) o1 (RepA.frozen (fun p hp => (n1.out p hp).1) av v d r1 f fun _ h => h) z2
def mNil : AML := fun ρ Q _ => Q [] ρ
def mCons (a : AM) (r : AML) : AML := fun ρ Q X => a ρ (fun d ρ1 => r ρ1 (fun ds ρ2 => Q (d :: ds) ρ2) X) X
theorem simM_nil : SimML c tNil mNil := fun U H σ ρ Q q I z k => k U H ρ [] [] (Gr.refl I.vh) I .refl rfl z
theorem simM_cons {tr : TA} {r : AML} (ha : SimM c ta m) (hr : SimML c tr r) : SimML c (tCons ta tr) (mCons m r) := fun U H σ ρ Q q I z k =>
  ha U H σ ρ _ _ I z fun U1 H1 ρ1 d v g1 I1 o1 r1 z1 => hr U1 H1 σ ρ1 _ _ I1 z1 fun U2 H2 ρ2 ds vs g2 I2 o2 r2 z2 => k U2 H2 ρ2 (d :: ds) (v :: vs) (g1.comp g2 o1) I2 (o1.trans g1 o2) ⟨v, vs, rfl, R.mono g2.vv d v r1, r2⟩ z2
def mTup (r : AML) : AM := fun ρ Q X => r ρ (fun ds ρ1 => ds.length ≤ 1000000 ∧ Q (.tup ds) ρ1) X
theorem simM_tup {tr : TA} {r : AML} (hr : SimML c tr r) : SimM c (tTup tr) (mTup r) := fun U H σ ρ Q q I z k =>
  hr U H σ ρ _ _ I z fun U1 H1 ρ1 ds vs g1 I1 o1 r1 z1 => ⟨le_size (by rw [← r1.len]; exact z1.1), fun p np => by
    have g2 : Gr [] U1 H1 (upd U1 p (.tup vs)) (upd H1 p (.tup vs)) := (Gr.refl I1.vh).new np
    exact k _ _ ρ1 (.tup ds) (.ref p) (g1.trans g2.any) (I1.grow g2) o1 (R.tup upd_same (Rs.mono g2.vv _ _ r1)) z1.2⟩
def mLst (r : AML) : AMO := fun ρ Q X => r ρ (fun ds ρ1 => ds.length ≤ 1000000 ∧ Q (.ol ds) ρ1) X
theorem simM_lst {tr : TA} {r : AML} (hr : SimML c tr r) : SimMO c (tLst tr) (mLst r) := fun U H σ ρ Q q I z k =>
  hr U H σ ρ _ _ I z fun U1 H1 ρ1 ds vs g1 I1 o1 r1 z1 => ⟨le_size (by rw [← r1.len]; exact z1.1), fun p np => by
    have g2 : Gr [] U1 H1 U1 (upd H1 p (.lst vs)) := (Gr.refl I1.vh).newM np
    exact k _ _ ρ1 (.ol ds) (.ref p) (g1.trans g2.any) (I1.grow g2) o1 ⟨p, vs, rfl, upd_same, r1⟩ (.one rfl (I1.vh.free np) (g1.fresh np)) (fun q hq y => by
      rw [List.mem_singleton.mp hq] at y
      exact I1.ex p y np) z1.2⟩
def mSet (i : Nat) (e : AM) : AS := fun N ρ => e ρ (fun d ρ1 => N.nx (ρ1.set i (some (.fz d)))) N.ex
def mSetO (i : Nat) (e : AMO) : AS := fun N ρ => e ρ (fun av ρ1 => N.nx (ρ1.set i (some av))) N.ex
def mDrop (e : AM) : AS := fun N ρ => e ρ (fun _ ρ1 => N.nx ρ1) N.ex
def mRet (e : AM) : AS := fun N ρ => e ρ (fun d ρ1 => N.rt (.fz d) ρ1) N.ex
def mRetO (e : AMO) : AS := fun N ρ => e ρ (fun av ρ1 => N.rt av ρ1) N.ex
theorem simM_set (hi : noPar c i = true) (h : SimM c t m) : SimS c (tAsg t (gName i)) (mSet i m) := fun U H σ ρ N n hx I z P => by
  unfold mSet at z
  rw [hx] at z
  exact h U H σ ρ _ _ I z fun U1 H1 ρ1 d v g1 I1 _ r1 z1 => P.nx U1 H1 _ _ g1.vv (I1.setF r1 hi) z1
theorem simM_setO (hi : noPar c i = true) (h : SimMO c t mo) : SimS c (tAsg t (gName i)) (mSetO i mo) := fun U H σ ρ N n hx I z P => by
  unfold mSetO at z
  rw [hx] at z
  exact h U H σ ρ _ _ I z fun U1 H1 ρ1 av v g1 I1 _ r1 n1 d1 z1 => P.nx U1 H1 _ _ g1.vv (I1.setO r1 n1.nd (fun p hp => ⟨(n1.out p hp).1, I.gr.fresh (n1.out p hp).2, d1 p hp⟩) hi) z1
def mApp (i : Nat) (e : AM) : AS := fun N ρ => olQ ρ i fun _ => e ρ (fun d ρ1 => olQ ρ1 i fun ds => ds.length < 1000000 ∧ N.nx (ρ1.set i (some (.ol (ds ++ [d]))))) N.ex
theorem simM_app (he : SimM c t m) : SimS c (tDrop (tBM c.K "list" rAppend (tVar i) (tCons t tNil))) (mApp i m) := fun U H σ ρ N n hx I z P => by
  obtain ⟨ds0, e0, z⟩ := olQ_of z
  rw [hx] at z
  obtain ⟨p, xs, hs, hp, hr⟩ := ol_at I e0
  refine ⟨.ref p, hs, .inl ⟨rfl, xs, SqL.of hp⟩, he U H σ ρ _ _ I z fun U1 H1 ρ1 d v g1 I1 _ r1 z1 => ?_⟩
  obtain ⟨ds, e1, z2, z3⟩ := olQ_of z1
  obtain ⟨p', xs', hs', hp', hr'⟩ := ol_at I1 e1
  rw [hs] at hs'
  have e' := V.ref.inj (Option.some.inj (Option.some.inj hs'))
  subst e'
  exact ⟨p, xs', v, rfl, rfl, hp', lt_size (by rw [← hr'.len]; exact z2), P.nx U1 _ σ _ g1.vv (I1.mutL e1 hs (hr'.snoc r1)) z3⟩
def argM (ρ : Env) : Arg → Option AV
  | .val d => some (.fz d)
  | .slot i => match ρ[i]? with
    | some (some av) => if av.isOwn = true then some av else none
    | _ => none
def argsM (ρ : Env) : List Arg → Option (List AV)
  | [] => some []
  | a :: as => match argM ρ a, argsM ρ as with
    | some x, some xs => some (x :: xs)
    | _, _ => none
def slotIx : List Arg → List Nat
  | [] => []
  | .slot i :: as => i :: slotIx as
  | .val _ :: as => slotIx as
def putA (ρ : Env) : List Arg → List AV → Env
  | .slot i :: as, a :: avs => (putA ρ as avs).set i (some a)
  | .val _ :: as, _ :: avs => putA ρ as avs
  | _, _ => ρ
theorem putA_len (ρ : Env) : ∀ (as : List Arg) (avs : List AV), (putA ρ as avs).length = ρ.length
  | [], _ => by unfold putA; rfl
  | .slot i :: as, [] => by unfold putA; rfl
  | .val _ :: as, [] => by unfold putA; rfl
  | .slot i :: as, a :: avs => by show ((putA ρ as avs).set i (some a)).length = _; rw [List.length_set]; exact putA_len ρ as avs
  | .val _ :: as, a :: avs => putA_len ρ as avs
theorem putA_out (ρ : Env) {k : Nat} : ∀ (as : List Arg) (avs : List AV), k ∉ slotIx as → (putA ρ as avs)[k]? = ρ[k]?
  | [], _, _ => by unfold putA; rfl
  | .slot i :: as, [], _ => by unfold putA; rfl
  | .val _ :: as, [], _ => by unfold putA; rfl
  | .slot i :: as, a :: avs, h => by
    show ((putA ρ as avs).set i (some a))[k]? = _
    rw [List.getElem?_set_ne (fun z => h (by rw [z]; exact List.mem_cons_self)), putA_out ρ as avs fun z => h (List.mem_cons_of_mem _ z)]
  | .val _ :: as, a :: avs, h => putA_out ρ as avs h
theorem slotIx_mem {i : Nat} : ∀ {as : List Arg}, i ∈ slotIx as ↔ ∃ n : Nat, as[n]? = some (.slot i)
  | [] => ⟨fun h => (by cases h), fun ⟨n, h⟩ => (by simp at h)⟩
  | .slot j :: as => by
    constructor
    · intro h
      rcases List.mem_cons.mp h with rfl | h
      · exact ⟨0, rfl⟩
      · obtain ⟨n, hn⟩ := (slotIx_mem (as := as)).mp h
        exact ⟨n + 1, hn⟩
    · rintro ⟨n, h⟩
      cases n with
      | zero => cases h; exact List.mem_cons_self
      | succ n => exact List.mem_cons_of_mem _ ((slotIx_mem (as := as)).mpr ⟨n, h⟩)
  | .val d :: as => by
    constructor
    · intro h
      obtain ⟨n, hn⟩ := (slotIx_mem (as := as)).mp (show i ∈ slotIx as from h)
      exact ⟨n + 1, hn⟩
    · rintro ⟨n, h⟩
      cases n with
      | zero => cases h
      | succ n => exact (show i ∈ slotIx as from (slotIx_mem (as := as)).mpr ⟨n, h⟩)
theorem slot_uniq {i : Nat} : ∀ {as : List Arg} {n m : Nat}, (slotIx as).Nodup → as[n]? = some (.slot i) → as[m]? = some (.slot i) → n = m
  | [], n, m, _, h, _ => by simp at h
  | .val d :: as, 0, m, _, h, _ => by cases h
  | .val d :: as, n + 1, 0, _, _, h => by cases h
  | .val d :: as, n + 1, m + 1, nd, h, k => congrArg (· + 1) (slot_uniq (as := as) nd h k)
  | .slot j :: as, 0, 0, _, _, _ => rfl
  | .slot j :: as, 0, m + 1, nd, h, k => by
    cases h
    exact absurd (slotIx_mem.mpr ⟨m, k⟩) (List.nodup_cons.mp (show (i :: slotIx as).Nodup from nd)).1
  | .slot j :: as, n + 1, 0, nd, h, k => by
    cases k
    exact absurd (slotIx_mem.mpr ⟨n, h⟩) (List.nodup_cons.mp (show (i :: slotIx as).Nodup from nd)).1
  | .slot j :: as, n + 1, m + 1, nd, h, k => congrArg (· + 1) (slot_uniq (as := as) (List.nodup_cons.mp (show (j :: slotIx as).Nodup from nd)).2 h k)
theorem putA_in (ρ : Env) {i : Nat} {a' : AV} (hi : i < ρ.length) : ∀ (as : List Arg) (avs : List AV) (n : Nat), (slotIx as).Nodup → as[n]? = some (.slot i) → avs[n]? = some a' → (putA ρ as avs)[i]? = some (some a')
  | [], _, n, _, h, _ => by simp at h
  | _ :: _, [], n, _, _, h => by simp at h
  | .slot j :: as, a :: avs, 0, _, h, k => by
    cases h
    cases k
    show ((putA ρ as avs).set i (some a'))[i]? = _
    rw [List.getElem?_set_self (by rw [putA_len]; exact hi)]
  | .slot j :: as, a :: avs, n + 1, nd, h, k => by
    have nd' := List.nodup_cons.mp (show (j :: slotIx as).Nodup from nd)
    show ((putA ρ as avs).set j (some a))[i]? = _
    rw [List.getElem?_set_ne (fun z => nd'.1 (slotIx_mem.mpr ⟨n, by rw [z]; exact h⟩))]
    exact putA_in ρ hi as avs n nd'.2 h k
  | .val d :: as, a :: avs, 0, _, h, _ => by cases h
  | .val d :: as, a :: avs, n + 1, nd, h, k => putA_in ρ hi as avs n nd h k
theorem argsM_at {ρ : Env} : ∀ {as : List Arg} {avs : List AV}, argsM ρ as = some avs → avs.length = as.length ∧ ∀ (n : Nat) (x : Arg), as[n]? = some x → ∃ a, avs[n]? = some a ∧ argM ρ x = some a
  | [], avs, e => by
    cases e
    exact ⟨rfl, fun n x h => by simp at h⟩
  | y :: as, avs, e => by
    unfold argsM at e
    cases ea : argM ρ y with
    | none => rw [ea] at e; cases e
    | some a =>
      rw [ea] at e
      cases es : argsM ρ as with
      | none => rw [es] at e; cases e
      | some xs =>
        rw [es] at e
        cases e
        obtain ⟨l, h⟩ := argsM_at es
        refine ⟨by rw [List.length_cons, List.length_cons, l], fun n x hx => ?_⟩
        cases n with
        | zero => cases hx; exact ⟨a, rfl, ea⟩
        | succ n => exact h n x hx
theorem argM_slot {ρ : Env} {i : Nat} {a : AV} (h : argM ρ (.slot i) = some a) : ρ[i]? = some (some a) ∧ a.isOwn = true := by
  unfold argM at h
  dsimp only at h
  split at h
  · rename_i av e
    split at h
    · cases h; exact ⟨e, by assumption⟩
    · cases h
  · cases h
theorem perA_at {H : Hp} : ∀ {as' as : List AV} {vs : List V} {n : Nat} {a' a : AV} {v : V}, PerA H as' as vs → as'[n]? = some a' → as[n]? = some a → vs[n]? = some v → ∀ p ∈ own a' v, p ∈ own a v ∨ H p = none
  | [], _, _, n, _, _, _, _, h, _, _ => by simp at h
  | _ :: _, [], _, n, _, _, _, _, _, h, _ => by simp at h
  | _ :: _, _ :: _, [], n, _, _, _, _, _, _, h => by simp at h
  | x' :: as', x :: as, w :: vs, 0, a', a, v, h, e1, e2, e3 => by
    cases e1
    cases e2
    cases e3
    exact h.1
  | x' :: as', x :: as, w :: vs, n + 1, a', a, v, h, e1, e2, e3 => perA_at (as' := as') (as := as) (vs := vs) (n := n) h.2 e1 e2 e3
theorem ownAs_K (avs : List AV) (vs : List V) (h : avs.length = vs.length) : ownAs avs vs = owns (avs.map some) (vs.map some) := by
  have := owns_args avs vs 0 0 h
  rw [← this]
  simp
theorem ownK_args {avs : List AV} {vs : List V} {n : Nat} {a : AV} {v : V} (h1 : avs[n]? = some a) (h2 : vs[n]? = some v) : ownK (avs.map some) (vs.map some) n = own a v := by
  unfold ownK
  rw [List.getElem?_map, List.getElem?_map, h1, h2]
  rfl
def callM (A : AFM) (ρ : Env) (Q : AV → Env → Prop) (X : Exn → Env → Prop) (as : List Arg) : Prop := (slotIx as).Nodup ∧ match argsM ρ as with
  | some avs => A avs (fun av avs' => Q av (putA ρ as avs')) (fun x avs' => X x (putA ρ as avs'))
  | none => False
theorem callM_of {A : AFM} {Q : AV → Env → Prop} {X : Exn → Env → Prop} {as : List Arg} (h : callM A ρ Q X as) : (slotIx as).Nodup ∧ ∃ avs, argsM ρ as = some avs ∧ A avs (fun av avs' => Q av (putA ρ as avs')) (fun x avs' => X x (putA ρ as avs')) := by
  obtain ⟨h1, h2⟩ := h
  refine ⟨h1, ?_⟩
  cases e : argsM ρ as with
  | none => rw [e] at h2; exact h2.elim
  | some avs => rw [e] at h2; exact ⟨avs, rfl, h2⟩
theorem run_spM {A : AFM} {as : List Arg} {vs : List V} {Q : AV → Env → Prop} {q : VK} {E : XK} {X : Exn → Env → Prop} (I : DI c U H σ ρ) (r : Paired (ArgR c.K U σ) as vs) (h : callM A ρ Q X as)
    (k : ∀ U' H' ρ' av v, Gr (owns ρ σ) U H U' H' → DI c U' H' σ ρ' → OldNew H ρ ρ' σ → RepA c.K U' H' av v → Fresh U' H av v → (∀ p ∈ own av v, p ∉ owns ρ' σ) → Q av ρ' → q v H')
    (kx : ∀ U' H' ρ' x cls o, DI c U' H' σ ρ' → XRep c.K U' H' x cls o → X x ρ' → E cls o H') : spM c.K c.tb A vs H q E := by
  obtain ⟨nd, avs, ea, hA⟩ := callM_of h
  obtain ⟨la, hat⟩ := argsM_at ea
  have lv : as.length = vs.length := r.length
  obtain ⟨nd1, nd2⟩ := ownK_nodup.mp I.nd
  have rl : ρ.length = σ.length := I.rep.length
  -- position by position
  have slot : ∀ (n i : Nat), as[n]? = some (.slot i) → ∃ a v, avs[n]? = some a ∧ vs[n]? = some v ∧ ρ[i]? = some (some a) ∧ σ[i]? = some (some v) ∧ RepA c.K U H a v ∧ ownK ρ σ i = own a v := fun n i hn => by
    obtain ⟨a, e1, e2⟩ := hat n _ hn
    obtain ⟨e3, _⟩ := argM_slot e2
    obtain ⟨v, e4, e5⟩ := Paired.at' r n _ hn
    obtain ⟨w, e6, e7, _⟩ := rep_at I.rep i a e3
    have e5' : σ[i]? = some (some v) := e5
    rw [e5'] at e6
    cases e6
    exact ⟨a, v, e1, e4, e3, e5', e7, by unfold ownK; rw [e3, e5']; rfl⟩
  have val : ∀ (n : Nat) (d : D), as[n]? = some (.val d) → avs[n]? = some (.fz d) := fun n d hn => by
    obtain ⟨a, e1, e2⟩ := hat n _ hn
    cases e2
    exact e1
  have rep : Paired (RepA c.K U H) avs vs := paired_at (la.trans lv) fun n a v ha hv => by
    obtain ⟨x, ex⟩ : ∃ x, as[n]? = some x := ⟨as[n]'(by rw [lv]; exact (List.getElem?_eq_some_iff.mp hv).1), List.getElem?_eq_getElem _⟩
    cases x with
    | val d =>
      rw [val n d ex] at ha
      cases ha
      obtain ⟨w, e1, e2⟩ := Paired.at' r n _ ex
      rw [hv] at e1
      cases e1
      exact e2
    | slot i =>
      obtain ⟨a', v', f1, f2, _, _, f5, _⟩ := slot n i ex
      rw [ha] at f1
      rw [hv] at f2
      cases f1
      cases f2
      exact f5
  have ownN : ∀ (n : Nat) (a : AV) (v : V) (p : Addr), avs[n]? = some a → vs[n]? = some v → p ∈ own a v → ∃ i, as[n]? = some (.slot i) ∧ p ∈ ownK ρ σ i := fun n a v p ha hv hp => by
    obtain ⟨x, ex⟩ : ∃ x, as[n]? = some x := ⟨as[n]'(by rw [lv]; exact (List.getElem?_eq_some_iff.mp hv).1), List.getElem?_eq_getElem _⟩
    cases x with
    | val d =>
      rw [val n d ex] at ha
      cases ha
      cases v <;> cases hp
    | slot i =>
      obtain ⟨a', v', f1, f2, _, _, _, f6⟩ := slot n i ex
      rw [ha] at f1
      rw [hv] at f2
      cases f1
      cases f2
      exact ⟨i, ex, by rw [f6]; exact hp⟩
  have memA : ∀ {bs : List AV} {p : Addr}, bs.length = vs.length → p ∈ ownAs bs vs → ∃ (n : Nat) (b : AV) (v : V), bs[n]? = some b ∧ vs[n]? = some v ∧ p ∈ own b v := fun {bs p} hl hp => by
    rw [ownAs_K bs vs hl] at hp
    obtain ⟨n, hn⟩ := ownK_mem.mp hp
    unfold ownK at hn
    rw [List.getElem?_map, List.getElem?_map] at hn
    cases e1 : bs[n]? with
    | none => rw [e1] at hn; cases hn
    | some b =>
      rw [e1] at hn
      cases e2 : vs[n]? with
      | none => rw [e2] at hn; cases hn
      | some v => rw [e2] at hn; exact ⟨n, b, v, e1, e2, hn⟩
  have inA : ∀ p ∈ ownAs avs vs, ∃ i, i ∈ slotIx as ∧ p ∈ ownK ρ σ i := fun p hp => by
    obtain ⟨n, a, v, e1, e2, e3⟩ := memA (la.trans lv) hp
    obtain ⟨i, f1, f2⟩ := ownN n a v p e1 e2 e3
    exact ⟨i, slotIx_mem.mpr ⟨n, f1⟩, f2⟩
  have ndA : (ownAs avs vs).Nodup := by
    rw [ownAs_K avs vs (la.trans lv)]
    refine ownK_nodup.mpr ⟨fun n => ?_, fun n m p hnm hn hm => ?_⟩
    · cases e1 : avs[n]? with
      | none => unfold ownK; rw [List.getElem?_map, e1]; exact List.nodup_nil
      | some a =>
        cases e2 : vs[n]? with
        | none => unfold ownK; rw [List.getElem?_map, List.getElem?_map, e1, e2]; exact List.nodup_nil
        | some v =>
          rw [ownK_args e1 e2]
          by_cases hz : own a v = []
          · rw [hz]; exact List.nodup_nil
          · obtain ⟨p, hp⟩ := List.exists_mem_of_ne_nil _ hz
            obtain ⟨i, f1, _⟩ := ownN n a v p e1 e2 hp
            obtain ⟨a', v', g1, g2, _, _, _, g6⟩ := slot n i f1
            rw [e1] at g1
            rw [e2] at g2
            cases g1
            cases g2
            rw [← g6]
            exact nd1 i
    · have at1 : ∀ l, p ∈ ownK (avs.map some) (vs.map some) l → ∃ i, as[l]? = some (.slot i) ∧ p ∈ ownK ρ σ i := fun l hl => by
        unfold ownK at hl
        rw [List.getElem?_map, List.getElem?_map] at hl
        cases e1 : avs[l]? with
        | none => rw [e1] at hl; cases hl
        | some a =>
          rw [e1] at hl
          cases e2 : vs[l]? with
          | none => rw [e2] at hl; cases hl
          | some v => rw [e2] at hl; exact ownN l a v p e1 e2 hl
      obtain ⟨i, f1, f2⟩ := at1 n hn
      obtain ⟨j, g1, g2⟩ := at1 m hm
      by_cases hij : i = j
      · subst hij
        exact hnm (slot_uniq nd f1 g1)
      · exact nd2 i j p hij f2 g2
  have step : ∀ {U' H' : Hp} {avs' : List AV}, Gr (ownAs avs vs) U H U' H' → Paired (RepA c.K U' H') avs' vs → (ownAs avs' vs).Nodup → (∀ p ∈ ownAs avs' vs, U' p = none) → avs'.map AV.kind = avs.map AV.kind → PerA H avs' avs vs →
      DI c U' H' σ (putA ρ as avs') ∧ OldNew H ρ (putA ρ as avs') σ ∧ Gr (owns ρ σ) U H U' H' ∧ ∀ p ∈ owns (putA ρ as avs') σ, p ∈ owns ρ σ ∨ p ∈ ownAs avs' vs := fun {U' H' avs'} g r' n' u' kd per => by
    have l' : avs'.length = vs.length := r'.length
    obtain ⟨nd1', nd2'⟩ := ownK_nodup.mp (by rw [← ownAs_K avs' vs l']; exact n')
    have sl' : ∀ (n i : Nat), as[n]? = some (.slot i) → ∃ a a' v, avs[n]? = some a ∧ avs'[n]? = some a' ∧ vs[n]? = some v ∧ ρ[i]? = some (some a) ∧ (putA ρ as avs')[i]? = some (some a') ∧ σ[i]? = some (some v) ∧ a'.kind = a.kind ∧ RepA c.K U' H' a' v ∧ ownK (putA ρ as avs') σ i = own a' v ∧ ownK ρ σ i = own a v := fun n i hn => by
      obtain ⟨a, v, e1, e2, e3, e4, _, e6⟩ := slot n i hn
      obtain ⟨a', f1⟩ : ∃ x, avs'[n]? = some x := ⟨avs'[n]'(by rw [l']; exact (List.getElem?_eq_some_iff.mp e2).1), List.getElem?_eq_getElem _⟩
      have f2 := putA_in ρ (i := i) (a' := a') (List.getElem?_eq_some_iff.mp e3).1 as avs' n nd hn f1
      obtain ⟨w, f3, f4⟩ := Paired.at' r' n a' f1
      rw [e2] at f3
      cases f3
      have f5 : a'.kind = a.kind := by
        have : (avs'.map AV.kind)[n]? = (avs.map AV.kind)[n]? := by rw [kd]
        rw [List.getElem?_map, List.getElem?_map, f1, e1] at this
        exact Option.some.inj this
      exact ⟨a, a', v, e1, f1, e2, e3, f2, e4, f5, f4, by unfold ownK; rw [f2, e4]; rfl, e6⟩
    have J : ∀ k, (slotIx as).contains k = true ↔ ∃ n : Nat, as[n]? = some (.slot k) := fun k => by rw [List.contains_iff_mem, slotIx_mem]
    have nJ : ∀ k, (slotIx as).contains k = false → k ∉ slotIx as := fun k hk z => by rw [List.contains_iff_mem.mpr z] at hk; cases hk
    have hin : ∀ p ∈ owns (putA ρ as avs') σ, p ∈ owns ρ σ ∨ p ∈ ownAs avs' vs := fun p hp => by
      obtain ⟨k, hk⟩ := ownK_mem.mp hp
      cases hj : (slotIx as).contains k with
      | true =>
        obtain ⟨n, hn⟩ := (J k).mp hj
        obtain ⟨a, a', v, _, f1, e2, _, _, _, _, _, f9, _⟩ := sl' n k hn
        refine .inr ?_
        rw [ownAs_K avs' vs l']
        exact ownK_mem.mpr ⟨n, by rw [ownK_args f1 e2, ← f9]; exact hk⟩
      | false =>
        refine .inl (ownK_mem.mpr ⟨k, ?_⟩)
        unfold ownK at hk ⊢
        rw [putA_out ρ as avs' (nJ k hj)] at hk
        exact hk
    have gw : Gr (owns ρ σ) U H U' H' := g.weak fun p hp => by
      obtain ⟨i, _, hi⟩ := inA p hp
      exact ownK_mem.mpr ⟨i, hi⟩
    refine ⟨I.multi (M := ownAs avs vs) (fun k => (slotIx as).contains k) g (putA_len ρ as avs') (fun k hk => putA_out ρ as avs' (nJ k hk)) (fun k hk => ?_) (fun p hp => ?_) (fun k p hk hp => ?_) (fun k l p hkl hk hl hp hq => ?_), fun p hp => ?_, gw, hin⟩
    · obtain ⟨n, hn⟩ := (J k).mp hk
      obtain ⟨a, a', v, e1, f1, e2, e3, f2, e4, f5, f6, f7, _⟩ := sl' n k hn
      exact ⟨a, a', v, e3, f2, e4, f5, f6, by have := nd1' n; rwa [ownK_args f1 e2] at this⟩
    · obtain ⟨i, h1, h2⟩ := inA p hp
      exact ⟨i, List.contains_iff_mem.mpr h1, h2⟩
    · obtain ⟨n, hn⟩ := (J k).mp hk
      obtain ⟨a, a', v, e1, f1, e2, e3, f2, e4, f5, f6, f7, f8⟩ := sl' n k hn
      rw [f7] at hp
      refine ⟨u' p (by rw [ownAs_K avs' vs l']; exact ownK_mem.mpr ⟨n, by rw [ownK_args f1 e2]; exact hp⟩), ?_⟩
      rw [f8]
      exact perA_at per f1 e1 e2 p hp
    · obtain ⟨n, hn⟩ := (J k).mp hk
      obtain ⟨m, hm⟩ := (J l).mp hl
      obtain ⟨a, a', v, _, f1, e2, _, _, _, _, _, f7, _⟩ := sl' n k hn
      obtain ⟨b, b', w, _, g1, h2, _, _, _, _, _, g7, _⟩ := sl' m l hm
      rw [f7] at hp
      rw [g7] at hq
      refine nd2' n m p (fun z => ?_) (by rw [ownK_args f1 e2]; exact hp) (by rw [ownK_args g1 h2]; exact hq)
      rw [z] at hn
      rw [hn] at hm
      cases hm
      exact hkl rfl
    · rcases hin p hp with z | z
      · exact .inl z
      · obtain ⟨n, a', v, f1, e2, f3⟩ := memA l' z
        obtain ⟨a, e1⟩ : ∃ x, avs[n]? = some x := ⟨avs[n]'(by rw [la, lv]; exact (List.getElem?_eq_some_iff.mp e2).1), List.getElem?_eq_getElem _⟩
        rcases perA_at per f1 e1 e2 p f3 with y | y
        · obtain ⟨i, _, hi⟩ := ownN n a v p e1 e2 y
          exact .inl (ownK_mem.mpr ⟨i, hi⟩)
        · exact .inr y
  refine ⟨U, avs, _, _, I.vh, I.tbs, rep, ndA, fun p hp => ?_, hA, fun U' H' av v avs' g ra n1 n2 r' n3 n4 kd per z => ?_, fun U' H' ex cls o avs' g xr r' n3 n4 kd per z => ?_⟩
  · obtain ⟨i, _, hi⟩ := inA p hp
    exact (I.out p (ownK_mem.mpr ⟨i, hi⟩)).1
  · obtain ⟨s1, s2, s3, s4⟩ := step g r' n3 n4 kd per
    refine k U' H' _ av v s3 s1 s2 ra ⟨n1, fun p hp => ⟨(n2 p hp).1, (n2 p hp).2.1⟩⟩ (fun p hp y => ?_) z
    rcases s4 p y with w | w
    · exact I.ex p w (n2 p hp).2.1
    · exact (n2 p hp).2.2 w
  · obtain ⟨s1, _⟩ := step g r' n3 n4 kd per
    exact kx U' H' _ ex cls o s1 xr z
def aSlotO (i : Nat) (r : AA) : AA := fun ρ Q X => match ρ[i]? with
  | some (some _) => r ρ (fun ds => Q (.slot i :: ds)) X
  | _ => False
theorem sim_slotO {tr : TA} {r : AA} (hr : SimA c tr r) : SimA c (tCons (tVar i) tr) (aSlotO i r) := fun U H σ ρ Q q I z k => by
  unfold aSlotO at z
  split at z
  · rename_i e0
    obtain ⟨v, e, _⟩ := rep_at I.rep i _ e0
    exact ⟨v, e, hr U H σ ρ _ _ I z fun U2 H2 ds vs g2 I2 r2 z2 => k U2 H2 (.slot i :: ds) (v :: vs) g2 I2 (.cons e r2) z2⟩
  · exact z.elim
def mCall (A : AFM) (r : AA) : AMO := fun ρ Q X => r ρ (callM A ρ Q X) (fun x => X x ρ)
def mCall0 (A : AFM) (r : AA) : AMO := fun ρ Q X => r ρ (callM A ρ Q fun _ _ => False) (fun x => X x ρ)
theorem simM_call {A : AFM} {tr : TA} {r : AA} {E : XK} (hr : SimA c tr r) : SimMO c (tCall (spM c.K c.tb A) [] E tr) (mCall0 A r) := fun U H σ ρ Q q I z k =>
  hr U H σ ρ _ _ I z fun U1 H1 as vs g1 I1 r1 z1 => by
    rw [List.append_nil]
    exact run_spM I1 r1 z1 (fun U2 H2 ρ2 av v g2 I2 o2 r2 n2 d2 z2 => k U2 H2 ρ2 av v ((g1.weak drs_sub).trans g2) I2 (OldNew.trans g1 .refl o2) r2 (n2.back fun _ h => g1.fresh h) d2 z2) (fun _ _ _ _ _ _ _ _ z => z.elim)
end
end
end SW
namespace SW
open PySem PySem.Spec PyProof.Rows L2
variable [QN]
def rMulS : R2 := fun x y H Q => ∃ a k, x = .str a ∧ y = .int k ∧ 0 ≤ k ∧ k ≤ 1000000 ∧ a.length * k.toNat ≤ 1000000 ∧ Q (.str (Txt.mul a k)) H
theorem op_mulS {X : Cx} : OpR X (binaryOp .Mult) rMulS := by
  intro pins s σ H x y v u Q I rx ry h
  obtain ⟨a, k, rfl, rfl, h1, h2, hz, q⟩ := h
  obtain ⟨t, rfl⟩ := rx
  obtain ⟨t', rfl⟩ := ry
  refine PySem.SB.mul ⟨?_, fun h3 _ => ?_, fun _ _ => PyProof.Rows.short24 (by omega)⟩ fun t' n => ⟨.str _, H, I.tok n, ⟨t', rfl⟩, q⟩
  · rw [decide_eq_false (by omega), decide_eq_false (by omega)]
    rfl
  · have hk : (a.length : Int) * k ≤ 1000000 := by
      have e : (k.toNat : Int) = k := Int.toNat_of_nonneg h1
      have e2 : ((a.length * k.toNat : Nat) : Int) = (a.length : Int) * k := by rw [Int.natCast_mul, e]
      omega
    have : (a.length : Int) ≤ (2 ^ 63 - 1) / k := Int.le_ediv_of_mul_le (by omega) (by omega)
    omega
def rCatS : R2 := fun x y H Q => ∃ i j, x = .str i ∧ y = .str j ∧ i.length + j.length ≤ sizeLine ∧ Q (.str (i ++ j)) H
theorem op_catS {X : Cx} : OpR X (binaryOp .Add) rCatS := op_add_str
def rJoinK (K : PySem.W.Frag) : V → List V → Hp → VK → Prop := fun x xs H Q => ∃ a p, ∃ ys : List Str, x = .str a ∧ xs = [.ref p] ∧ (SqL K H p (ys.map V.str) ∨ SqT K H p (ys.map V.str)) ∧
    (ys.map (·.length)).sum + ys.length * a.length ≤ 16777216 ∧ Q (.str (Txt.join a ys)) H
theorem mt_joinK {X : Cx} {K : PySem.W.Frag} (h : X.K = K) : MtR X "str.join" (rJoinK K) := by subst h; exact mt_join
section
variable {K : PySem.W.Frag} {c : DC} {U H : Hp} {ta : TE} {tr : TA} {a : AE} {r : AL}
def MtD (K : PySem.W.Frag) (m : V → List V → Hp → VK → Prop) (f : D → List D → (D → Prop) → Prop) : Prop := ∀ (U H : Hp) (v : V) (vs : List V) (d : D) (ds : List D) (Q : D → Prop) (q : VK), Same U H → CR K U H d v → Paired (CR K U H) ds vs → f d ds Q →
  (∀ U' H' z u, Gr [] U H U' H' → R K U' z u → Q z → q u H') → m v vs H q
def aBmS (f : D → List D → (D → Prop) → Prop) (a : AE) (r : AL) : AE := fun ρ Q X => a ρ (strQ fun x => r ρ (fun ds => f (.str x) ds Q) X) X
theorem sim_bmS {m : V → List V → Hp → VK → Prop} {f : D → List D → (D → Prop) → Prop} (h : MtD c.K m f) (ha : SimW c ta a) (hr : SimLW c tr r) : SimE c (tBM c.K "str" m ta tr) (aBmS f a r) := fun U H σ ρ Q q I z k =>
  ha U H σ ρ _ _ I z fun U1 H1 d v g1 I1 w1 z1 => by
    obtain ⟨x, rfl, z2⟩ := strQ_of z1
    have e := (w1.cr I1).str
    subst e
    exact ⟨rfl, hr U1 H1 σ ρ _ _ I1 z2 fun U2 H2 ds vs g2 I2 w2 z3 => h U2 H2 _ vs (.str x) ds Q q I2.vh (.of rfl) (wks_cr I2 w2) z3 fun U3 H3 y u g3 r3 z4 => k U3 H3 y u ((g1.trans g2).trans g3.any) (I2.grow g3) r3 z4⟩
def oMulS : D → D → (D → Prop) → Prop := fun d e Q => strQ (fun x => intQ (fun k => 0 ≤ k ∧ k ≤ 1000000 ∧ x.length * k.toNat ≤ 1000000 ∧ Q (.str (Txt.mul x k))) e) d
theorem op_mulSD : OpD K rMulS oMulS := fun U H v w d e Q q s cd ce z k => by
  obtain ⟨x, rfl, z⟩ := strQ_of z
  obtain ⟨i, rfl, z1, z2, z3, z⟩ := intQ_of z
  exact ⟨x, i, cd.str, ce.int, z1, z2, z3, k U H (.str _) _ (Gr.refl s) rfl z⟩
def oCatS : D → D → (D → Prop) → Prop := fun d e Q => strQ (fun x => strQ (fun y => x.length + y.length ≤ 1000000 ∧ Q (.str (x ++ y))) e) d
theorem op_catSD : OpD K rCatS oCatS := fun U H v w d e Q q s cd ce z k => by
  obtain ⟨x, rfl, z0⟩ := strQ_of z
  obtain ⟨y, rfl, z1, z⟩ := strQ_of z0
  exact ⟨x, y, cd.str, ce.str, le_size z1, k U H (.str _) _ (Gr.refl s) rfl z⟩
def charQ (Q : Nat → Prop) (x : Str) : Prop := ∃ n, x = ⟨#[n]⟩ ∧ Q n
def oInS : D → D → (D → Prop) → Prop := fun d e Q => strQ (fun x => strQ (fun y => charQ (fun n => Q (.bl (decide (n ∈ y.cps.toList)))) x) e) d
theorem op_inSS : OpD K rInS oInS := fun U H v w d e Q q s cd ce z k => by
  obtain ⟨x, rfl, z0⟩ := strQ_of z
  obtain ⟨y, rfl, n, rfl, z9⟩ := strQ_of z0
  exact ⟨n, y, cd.str, ce.str, k U H (.bl _) _ (Gr.refl s) rfl z9⟩
def oJoin : D → List D → (D → Prop) → Prop := fun d ds Q => strQ (fun x => oneQ (seqQ fun es => someQ (fun ys => (ys.map (·.length)).sum + ys.length * x.length ≤ 1000000 ∧ Q (.str (Txt.join x ys))) (strsOf es)) ds) d
theorem mt_joinD : MtD K (rJoinK K) oJoin := fun U H v vs d ds Q q s cd cs z k => by
  obtain ⟨x, rfl, z⟩ := strQ_of z
  obtain ⟨e, rfl, z⟩ := oneQ_of z
  obtain ⟨es, he, z⟩ := seqQ_of z
  obtain ⟨ys, hy, z1, z⟩ := someQ_of z
  obtain ⟨w, rfl, ce⟩ := paired1 cs
  obtain ⟨p, xs, rfl, h1, h2⟩ := ce.seq s he
  rw [strsOf_eq hy] at h2
  rw [h2.strs] at h1
  exact ⟨x, p, ys, cd.str, rfl, h1, by omega, k U H (.str _) _ (Gr.refl s) rfl z⟩
end
end SW
namespace SW
open PySem PySem.Spec PyProof.Rows L2
variable [QN]
section
variable {c : DC} {U H U' H' : Hp} {σ τ : L2.St} {ρ ρ' : Env}
/-- slots of which nothing is told may hold anything -/
theorem owns_resig : ∀ {ρ : Env} {σ τ : L2.St}, σ.length = τ.length → (∀ k : Nat, ρ[k]? = some none ∨ σ[k]? = τ[k]?) → owns ρ σ = owns ρ τ
  | [], σ, τ, _, _ => by cases σ <;> cases τ <;> rfl
  | a :: ρ, [], [], _, _ => rfl
  | a :: ρ, x :: σ, y :: τ, hl, h => by
    show ownS a x ++ owns ρ σ = ownS a y ++ owns ρ τ
    rw [owns_resig (Nat.succ.inj hl) fun k => h (k + 1)]
    rcases h 0 with z | z
    · have z' := Option.some.inj z
      subst z'
      rfl
    · have z' := Option.some.inj z
      subst z'
      rfl
theorem reps_resig {K : PySem.W.Frag} : ∀ {ρ : Env} {σ τ : L2.St}, σ.length = τ.length → (∀ k : Nat, ρ[k]? = some none ∨ σ[k]? = τ[k]?) → Paired (RepS K U H) ρ σ → Paired (RepS K U H) ρ τ
  | _, _, [], _, _, .nil => .nil
  | _, _, _ :: _, hl, _, .nil => by cases hl
  | a :: ρ, x :: σ, y :: τ, hl, h, .cons r t => by
    refine .cons ?_ (reps_resig (Nat.succ.inj hl) (fun k => h (k + 1)) t)
    rcases h 0 with z | z
    · have z' := Option.some.inj z
      subst z'
      trivial
    · have z' := Option.some.inj z
      subst z'
      exact r
theorem DI.resig (I : DI c U H σ ρ) (hl : σ.length = τ.length) (h : ∀ k : Nat, ρ[k]? = some none ∨ σ[k]? = τ[k]?) (hp : selM c.ks τ = selM c.ks σ) : DI c U H τ ρ :=
  ⟨I.gr, reps_resig hl h I.rep, by rw [← owns_resig hl h]; exact I.nd, by rw [← owns_resig hl h]; exact I.out, ⟨hp.trans I.par.1, I.par.2⟩, I.ko, fun k av v e1 e2 p hp => by
    rcases h k with z | z
    · rw [z] at e1
      cases e1
    · exact I.ow k av v e1 (z.trans e2) p hp, by rw [← hl]; exact I.on⟩
theorem wipeA_at {vs : List Nat} : ∀ (k : Nat), (wipeA ρ vs)[k]? = if k ∈ vs then (if k < ρ.length then some none else none) else ρ[k]? := by
  induction vs with
  | nil => intro k; simp [wipeA]
  | cons v vs ih =>
    intro k
    have hl : ∀ (ws : List Nat), (wipeA ρ ws).length = ρ.length := fun ws => by
      induction ws with
      | nil => rfl
      | cons w ws ih => unfold wipeA; rw [List.length_set, ih]
    unfold wipeA
    rw [List.getElem?_set, hl, ih k]
    by_cases h : v = k
    · subst h
      simp
    · have h' : ¬ k = v := fun z => h z.symm
      simp [h, h']
/-- a comprehension whose element changes slots -/
def aCompM (g : AG) (e : AM) (vs : List Nat) : List D → List D → Env → (List D → Env → Prop) → (Exn → Env → Prop) → Prop
  | [], acc, ρ, Q, _ => Q acc ρ
  | d :: r, acc, ρ, Q, X => g d ρ (fun ρ2 => e ρ2 (fun y ρ3 => acc.length < 1000000 ∧ aCompM g e vs r (acc ++ [y]) (wipeA ρ3 vs) Q X) X)
def mLc (it : AL) (g : AG) (e : AM) (vs : List Nat) : AMO := fun ρ Q X => it ρ (fun ds => aCompM g e vs ds [] (wipeA ρ vs) (fun acc ρ' => Q (.ol acc) ρ') X) (fun x => X x ρ)
theorem owns_wipe {vs : List Nat} : ∀ p ∈ owns (wipeA ρ vs) (wipe σ vs), p ∈ owns ρ σ := by
  induction vs with
  | nil => exact fun p hp => hp
  | cons v vs ih => exact fun p hp => ih p ((owns_set_sub (wipeA ρ vs) (wipe σ vs) v none none rfl).mem hp)
theorem simM_lc {js vs : List Nat} {wi : TI} {it : AL} {g : TG} {ag : AG} {te : TE} {e : AM} (hi : SimI c wi it) (hg : SimG c js g ag) (he : SimM c te e) (hj : (js.all fun j => vs.contains j) = true) (hv : (vs.all fun i => noPar c i) = true) :
    SimMO c (tLc wi g tYes te vs) (mLc it ag e vs) := fun U H σ ρ Q q I z k => by
  refine hi U H σ ρ _ _ I z fun U1 H1 J ds g1 I1 W z1 => ?_
  obtain ⟨Y, w, hY⟩ := W
  intro Da nD
  have nD0 : H Da = none := g1.fresh nD
  have nDH : c.H0 Da = none := I1.gr.fresh nD
  have hjs : ∀ j ∈ js, j ∈ vs := fun j hj' => List.contains_iff_mem.mp (List.all_eq_true.mp hj j hj')
  have o0 : ∀ p ∈ owns (wipeA ρ vs) (wipe σ vs), p ∈ owns ρ σ := owns_wipe
  have lw : (wipe σ vs).length = σ.length := wipe_length _ _
  have lr : ρ.length = σ.length := I.rep.length
  refine lc_it (Qd := fun H' => q (.ref Da) H') w (fun n H' => ∃ U' ρn acc accD, Gr (owns ρ σ) U1 H1 U' H' ∧ DI c U' H' (wipe σ vs) ρn ∧ (∀ v ∈ vs, v < σ.length → ρn[v]? = some none) ∧ (∀ p ∈ owns ρn (wipe σ vs), p ∈ owns ρ σ ∨ H1 p = none) ∧ H' Da = some (.lst acc) ∧ U' Da = none ∧ Da ∉ owns ρn (wipe σ vs) ∧ Rs c.K U' accD acc ∧ aCompM ag e vs (ds.drop n) accD ρn (fun acc ρ' => Q (.ol acc) ρ') (fun x ρ => c.x ρ x)) ?_ ?_ ?_ ?_
  · have g2 : Gr [] U1 H1 U1 (upd H1 Da (.lst [])) := (Gr.refl I1.vh).newM nD
    obtain ⟨Iw, _, _⟩ := (I1.grow g2).wipe hv
    exact ⟨U1, wipeA ρ vs, [], [], g2.any, Iw, fun v hv' hl => by rw [wipeA_at, if_pos hv', if_pos (by omega)], fun p hp => .inl (o0 p hp), upd_same, I1.vh.free nD, fun h => I1.ex Da (o0 Da h) nD, rfl, z1⟩
  · rintro n H' hn ⟨U', ρn, acc, accD, gg, I', _⟩
    exact fun a o ha => gg.vh a o (gg.vv a o ha)
  · rintro n x H' H'' hn ⟨U', ρn, acc, accD, gg, I', hw, on, hD, uD, nDn, hr, z2⟩ hy
    have ed : ds[n]? = some ds[n] := List.getElem?_eq_getElem hn
    obtain ⟨U3, g3, r3⟩ := hY n H' x H'' _ U' gg.vv I'.vh hy ed
    rw [drop_at ed] at z2
    have I3 := I'.grow g3
    refine hg U3 H'' _ _ _ x _ _ I3 r3 z2 fun σ2 ρ2 I2 p2 z3 => ⟨wipe_put p2 hjs, ?_⟩
    unfold tYes
    refine i_itT (he U3 H'' σ2 ρ2 _ _ I2 z3 fun U6 H6 ρ6 y vy g6 I6 o6 r6 z6 => ?_)
    have hD3 := g3.hh _ _ (by simp) (ntb rfl) hD
    have uD3 : U3 Da = none := g3.fr Da uD (by rw [hD]; intro z; cases z)
    have nD2 : Da ∉ owns ρ2 σ2 := fun h => nDn (p2.ow Da h)
    have hD6 := g6.hh _ _ nD2 (ntb rfl) hD3
    have uD6 : U6 Da = none := g6.fr Da uD3 (by rw [hD3]; intro z; cases z)
    obtain ⟨Iw, _, _⟩ := I6.wipe hv
    have ew : wipe σ2 vs = wipe σ vs := wipe_put p2 hjs
    have o6w : ∀ p ∈ owns (wipeA ρ6 vs) (wipe σ2 vs), p ∈ owns ρ6 σ2 := owns_wipe
    rw [ew] at Iw o6w
    have oldD : ∀ p ∈ owns (wipeA ρ6 vs) (wipe σ vs), p ∈ owns ρn (wipe σ vs) ∨ H'' p = none := fun p hp => (o6 p (o6w p hp)).imp (p2.ow p) id
    have nD6 : Da ∉ owns (wipeA ρ6 vs) (wipe σ vs) := fun h => by
      rcases oldD Da h with z | z
      · exact nDn z
      · rw [hD3] at z
        cases z
    have gg3 : Gr (owns ρ σ) U1 H1 U3 H'' := gg.trans g3.any
    have gg6 : Gr (owns ρ σ) U1 H1 U6 H6 := gg3.comp g6 fun p hp => on p (p2.ow p hp)
    refine ⟨acc, hD6, lt_size (by rw [← hr.len]; exact z6.1), U6, wipeA ρ6 vs, acc ++ [vy], accD ++ [y], gg6.mut uD6 (.inr nD) (.of hD6 rfl), Iw.mutFree uD6 nDH nD6 (.of hD6 rfl), fun v hv' hl => ?_, fun p hp => ?_, upd_same, uD6, nD6, (Rs.mono (g3.vv.trans g6.vv) _ _ hr).snoc r6, z6.2⟩
    · rw [wipeA_at, if_pos hv', if_pos (by rw [I6.rep.length, p2.len, lw]; exact hl)]
    · rcases oldD p hp with z | z
      · exact on p z
      · exact .inr (gg3.fresh z)
  · rintro H' ⟨U', ρn, acc, accD, gg, I', hw, on, hD, uD, nDn, hr, z2⟩
    rw [List.drop_length] at z2
    have hk : ∀ k : Nat, ρn[k]? = some none ∨ (wipe σ vs)[k]? = σ[k]? := fun k => by
      rw [wipe_at]
      by_cases hv' : k ∈ vs
      · by_cases hl : k < σ.length
        · exact .inl (hw k hv' hl)
        · refine .inr ?_
          rw [if_pos hv', if_neg hl, List.getElem?_eq_none (by omega)]
      · exact .inr (if_neg hv')
    have hsel : selM c.ks σ = selM c.ks (wipe σ vs) := sel_at c.ks _ _ fun k hk' => by
      rw [wipe_at, if_neg fun z => by
        have := noPar_of (List.all_eq_true.mp hv k z)
        rw [this] at hk'
        cases hk']
    have If := I'.resig lw hk hsel
    have eo := owns_resig lw hk
    refine k U' H' ρn (.ol accD) (.ref Da) ((g1.weak drs_sub).trans gg) If (fun p hp => ?_) ⟨Da, acc, rfl, hD, hr⟩ (.one rfl uD nD0) (fun p hp hz => ?_) z2
    · rw [← eo] at hp
      exact (on p hp).imp id g1.fresh
    · rw [List.mem_singleton.mp hp, ← eo] at hz
      exact nDn hz
end
end SW
namespace SW
open PySem PySem.Spec PyProof.Rows L2
variable [QN]
section
variable {c : DC} {U H U' H' : Hp} {σ : L2.St} {ρ ρ' : Env}
inductive Swap : AV → V → AV → V → AV → AV → Prop
  | here {b b' : AV} {w : V} : Swap b w b w b' b'
  | on {ws : List V} {as : List AV} {v : V} {k : Nat} {a a' b b' : AV} {x w : V} : as[k]? = some a → ws[k]? = some x → Swap a x b w b' a' → Swap (.on ws as) v b w b' (.on ws (as.set k a'))
theorem ownAs_set : ∀ {as : List AV} {ws : List V} {k : Nat} {a a' : AV} {x : V}, as[k]? = some a → ws[k]? = some x → own a' x = own a x → ownAs (as.set k a') ws = ownAs as ws
  | [], _, k, a, a', x, e, _, _ => by simp at e
  | _ :: _, [], k, a, a', x, _, e, _ => by simp at e
  | b :: as, y :: ws, 0, a, a', x, e, f, h => by
    cases e
    cases f
    show own a' _ ++ ownAs as ws = own _ _ ++ ownAs as ws
    rw [h]
  | b :: as, y :: ws, k + 1, a, a', x, e, f, h => by
    show own b y ++ ownAs (as.set k a') ws = own b y ++ ownAs as ws
    rw [ownAs_set (as := as) (ws := ws) e f h]
theorem repAs_set {K : PySem.W.Frag} : ∀ {as : List AV} {ws : List V} {k : Nat} {a a' : AV} {x : V}, RepAs K U H as ws → as[k]? = some a → ws[k]? = some x → RepA K U H' a' x → (ownAs as ws).Nodup → (∀ p, p ∉ own a x → H' p = H p) → (∀ p ∈ ownAs as ws, U p = none) → RepAs K U H' (as.set k a') ws
  | [], _, k, a, a', x, _, e, _, _, _, _, _ => by simp at e
  | _ :: _, [], k, a, a', x, _, _, e, _, _, _, _ => by simp at e
  | b :: as, y :: ws, 0, a, a', x, ⟨v, r, e1, h1, h2⟩, e, f, h, nd, hH, hu => by
    cases e
    cases f
    obtain ⟨rfl, rfl⟩ := List.cons.inj e1
    obtain ⟨n1, n2, n3⟩ := List.nodup_append.mp (show (own b y ++ ownAs as ws).Nodup from nd)
    exact ⟨y, ws, rfl, h, RepAs.keep (Same.refl U) as ws (fun p hp => ⟨hH p (fun z => n3 p z p hp rfl), hu p (List.mem_append_right _ hp)⟩) h2⟩
  | b :: as, y :: ws, k + 1, a, a', x, ⟨v, r, e1, h1, h2⟩, e, f, h, nd, hH, hu => by
    obtain ⟨rfl, rfl⟩ := List.cons.inj e1
    obtain ⟨n1, n2, n3⟩ := List.nodup_append.mp (show (own b y ++ ownAs as ws).Nodup from nd)
    exact ⟨y, ws, rfl, RepA.keep (Same.refl U) b y (fun p hp => ⟨hH p (fun z => n3 p hp p (ownAs_at (as := as) e f p z) rfl), hu p (List.mem_append_left _ hp)⟩) h1, repAs_set (as := as) h2 e f h n2 hH fun p hp => hu p (List.mem_append_right _ hp)⟩
theorem Swap.sub {K : PySem.W.Frag} {a b b' a' : AV} {v w : V} (h : Swap a v b w b' a') : RepA K U H a v → ∀ p ∈ own b w, p ∈ own a v := by
  induction h with
  | here => exact fun _ p hp => hp
  | on h1 h2 _ ih =>
    rintro ⟨q, rfl, _, k⟩ p hp
    exact List.mem_cons_of_mem _ (ownAs_at h1 h2 p (ih (RepAs.at k _ _ _ h1 h2) p hp))
theorem ownAs_nd : ∀ {as : List AV} {ws : List V} {k : Nat} {a : AV} {x : V}, as[k]? = some a → ws[k]? = some x → (ownAs as ws).Nodup → (own a x).Nodup
  | [], _, k, a, x, e, _, _ => by simp at e
  | _ :: _, [], k, a, x, _, e, _ => by simp at e
  | b :: as, y :: ws, 0, a, x, e, f, h => by
    cases e
    cases f
    exact (List.nodup_append.mp (show (own b y ++ ownAs as ws).Nodup from h)).1
  | b :: as, y :: ws, k + 1, a, x, e, f, h => ownAs_nd (as := as) (ws := ws) e f (List.nodup_append.mp (show (own b y ++ ownAs as ws).Nodup from h)).2.1
theorem Swap.ok {K : PySem.W.Frag} {a b b' a' : AV} {v w : V} (h : Swap a v b w b' a') : RepA K U H a v → (own a v).Nodup → (∀ p ∈ own a v, U p = none) → RepA K U H' b' w → own b' w = own b w → b'.kind = b.kind → (∀ p, p ∉ own b w → H' p = H p) → RepA K U H' a' v ∧ own a' v = own a v ∧ a'.kind = a.kind := by
  induction h with
  | here => exact fun _ _ _ h1 h2 h3 _ => ⟨h1, h2, h3⟩
  | @on ws as v k a a' b b' x w h1 h2 hs ih =>
    rintro ⟨q, rfl, hq, k1⟩ nd hu r1 o1 kd hH
    have nd' : (q :: ownAs as ws).Nodup := nd
    obtain ⟨nq, nd2⟩ := List.nodup_cons.mp nd'
    have ra := RepAs.at k1 _ _ _ h1 h2
    have sub : ∀ p ∈ own a x, p ∈ ownAs as ws := ownAs_at h1 h2
    obtain ⟨i1, i2, i3⟩ := ih ra (ownAs_nd h1 h2 nd2) (fun p hp => hu p (List.mem_cons_of_mem _ (sub p hp))) r1 o1 kd hH
    have eo := ownAs_set h1 h2 i2
    have qn : q ∉ own b w := fun z => nq (sub q (hs.sub ra q z))
    refine ⟨⟨q, rfl, (hH q qn).trans hq, repAs_set k1 h1 h2 i1 nd2 (fun p hp => hH p fun z => hp (hs.sub ra p z)) fun p hp => hu p (List.mem_cons_of_mem _ hp)⟩, ?_, rfl⟩
    show q :: ownAs (as.set k a') ws = q :: ownAs as ws
    rw [eo]
theorem DI.swap {j : Nat} {a b b' a' : AV} {v w : V} (I : DI c U H σ ρ) (e1 : ρ[j]? = some (some a)) (e2 : σ[j]? = some (some v)) (h : Swap a v b w b' a') (r : RepA c.K U H' b' w) (ho : own b' w = own b w) (hk : b'.kind = b.kind) (hH : ∀ p, p ∉ own b w → H' p = H p) (hd : ∀ p ∈ own b w, H' p ≠ none) : DI c U H' σ (ρ.set j (some a')) := by
  obtain ⟨v', f1, f2, f3⟩ := rep_at I.rep j a e1
  rw [e2] at f1
  cases f1
  have hu : ∀ p ∈ own a v, U p = none := fun p hp => (I.out p (f3 p hp)).1
  obtain ⟨k1, k2, k3⟩ := h.ok f2 (own_nd I.nd e1 e2) hu r ho hk hH
  have sub := h.sub f2
  have hj : j < ρ.length := (List.getElem?_eq_some_iff.mp e1).1
  have ej : (ρ.set j (some a'))[j]? = some (some a') := List.getElem?_set_self hj
  have ok1 : ownK ρ σ j = own a v := by unfold ownK; rw [e1, e2]; rfl
  have ok2 : ownK (ρ.set j (some a')) σ j = own a v := by unfold ownK; rw [ej, e2]; exact k2
  have g : Gr (own b w) U H U H' := ⟨Same.refl U, fun x o e => by
    have : x ∉ own b w := fun z => by rw [hu x (sub x z)] at e; cases e
    rw [hH x this]
    exact I.vh x o e, fun x o m _ e => by rw [hH x m]; exact e, fun x e => by
    by_cases z : x ∈ own b w
    · exact hd x z
    · rw [hH x z]; exact e, fun x e _ => e, fun P h => tab_keep h fun x o e n => by
    rw [hH x fun z => by
      obtain ⟨y, y1, y2⟩ := I.pl x (f3 x (sub x z))
      rw [y1] at e
      cases e
      rw [y2] at n
      cases n]
    exact e, id⟩
  refine I.multi (M := own b w) (fun k => k == j) g (List.length_set ..) (fun k hk => ?_) (fun k hk => ?_) (fun p hp => ⟨j, by simp, by rw [ok1]; exact sub p hp⟩) (fun k p hk hp => ?_) (fun k l p hkl h1 h2 => ?_)
  · rw [List.getElem?_set_ne fun z => by rw [z] at hk; simp at hk]
  · have : k = j := by simpa using hk
    subst this
    exact ⟨a, a', v, e1, ej, e2, k3, k1, by rw [k2]; exact own_nd I.nd e1 e2⟩
  · have : k = j := by simpa using hk
    subst this
    rw [ok2] at hp
    exact ⟨hu p hp, .inl (by rw [ok1]; exact hp)⟩
  · have a1 : k = j := by simpa using h1
    have a2 : l = j := by simpa using h2
    exact absurd (a1.trans a2.symm) hkl
def lnIx : List V → Addr → Option Nat
  | .ref p :: ws, q => if p = q then some 0 else (lnIx ws q).map (· + 1)
  | _ :: ws, q => (lnIx ws q).map (· + 1)
  | [], _ => none
theorem lnIx_at : ∀ {ws : List V} {q : Addr} {m : Nat}, lnIx ws q = some m → ws[m]? = some (.ref q)
  | [], q, m, h => by cases h
  | v :: ws, q, m, h => by
    have go : ∀ {n : Nat}, (lnIx ws q).map (· + 1) = some n → (v :: ws)[n]? = some (.ref q) := fun {n} h => by
      cases e : lnIx ws q with
      | none => rw [e] at h; cases h
      | some k =>
        rw [e] at h
        cases h
        exact lnIx_at (ws := ws) e
    unfold lnIx at h
    split at h
    · rename_i p ws' q' e1
      cases e1
      split at h
      · rename_i e
        cases h
        rw [← e]
        rfl
      · exact go h
    · rename_i e1
      cases e1
      exact go h
    · rename_i e1
      cases e1
def lnQ (ρ : Env) (j ln : Nat) (Q : List V → List AV → Nat → List V → List AV → Prop) : Prop := match ρ[j]?, ρ[ln]? with
  | some (some (.on ws as)), some (some (.fz (.adr q))) => match lnIx ws q with
    | some m => match as[m]? with
      | some (.on xs bs) => Q ws as m xs bs
      | _ => False
    | none => False
  | _, _ => False
theorem lnQ_of {j ln : Nat} {Q : List V → List AV → Nat → List V → List AV → Prop} (h : lnQ ρ j ln Q) : ∃ ws as q m xs bs, ρ[j]? = some (some (.on ws as)) ∧ ρ[ln]? = some (some (.fz (.adr q))) ∧ ws[m]? = some (.ref q) ∧ as[m]? = some (.on xs bs) ∧ Q ws as m xs bs := by
  unfold lnQ at h
  split at h
  · rename_i ws as q e1 e2
    split at h
    · rename_i m e3
      split at h
      · rename_i xs bs e4
        exact ⟨ws, as, q, m, xs, bs, e1, e2, lnIx_at e3, e4, h⟩
      · exact h.elim
    · exact h.elim
  · exact h.elim
def shQ (Q : D → Prop) : Option AV → Prop
  | some a => someQ Q a.sh
  | none => False
theorem shQ_of {Q : D → Prop} {o : Option AV} (h : shQ Q o) : ∃ a d, o = some a ∧ a.sh = some d ∧ Q d := by
  cases o with
  | none => exact h.elim
  | some a =>
    obtain ⟨d, e, z⟩ := someQ_of h
    exact ⟨a, d, rfl, e, z⟩
def fzOf (Q : D → Prop) : Option AV → Prop
  | some (.fz d) => Q d
  | _ => False
theorem fzOf_of {Q : D → Prop} {o : Option AV} (h : fzOf Q o) : ∃ d, o = some (.fz d) ∧ Q d := by
  unfold fzOf at h
  split at h
  · exact ⟨_, rfl, h⟩
  · exact h.elim
theorem atI_rep {K : PySem.W.Frag} {as : List AV} {xs : List V} {i : Int} {a : AV} (r : RepAs K U H as xs) (h : atI as i = some a) : ∃ (k : Nat) (v : V), ixN as.length i = some k ∧ as[k]? = some a ∧ xs[k]? = some v ∧ atI xs i = some v ∧ RepA K U H a v := by
  unfold atI at h ⊢
  rw [← r.len]
  cases e : ixN as.length i with
  | none => rw [e] at h; cases h
  | some j =>
    rw [e] at h
    have h' : as[j]? = some a := h
    obtain ⟨v, h1, h2⟩ := Paired.at' r.paired j a h'
    exact ⟨j, v, rfl, h', h1, h1, h2⟩
def aLn (j ln : Nat) (i : Int) : AE := fun ρ Q _ => lnQ ρ j ln fun _ _ _ _ bs => shQ Q (atI bs i)
def aLnE (j ln : Nat) (i : Int) : AE := fun ρ Q _ => lnQ ρ j ln fun _ _ _ _ bs => fzOf Q (atI bs i)
theorem ln_at {j ln : Nat} {ws : List V} {as : List AV} {q : Addr} {m : Nat} {xs : List V} {bs : List AV} (I : DI c U H σ ρ) (e1 : ρ[j]? = some (some (.on ws as))) (e2 : ρ[ln]? = some (some (.fz (.adr q)))) (e3 : ws[m]? = some (.ref q)) (e4 : as[m]? = some (.on xs bs)) : ∃ v0, σ[j]? = some (some v0) ∧ σ[ln]? = some (some (.ref q)) ∧ H q = some (.lst xs) ∧ RepAs c.K U H bs xs ∧ RepA c.K U H (.on ws as) v0 := by
  obtain ⟨v0, f1, f2, f3⟩ := rep_at I.rep j _ e1
  obtain ⟨w, g1, g2, _⟩ := rep_at I.rep ln _ e2
  have g2' : w = .ref q := g2
  subst g2'
  obtain ⟨p0, h1, h2, h3⟩ := f2
  obtain ⟨p1, k1, k2, k3⟩ := RepAs.at h3 _ _ _ e4 e3
  cases k1
  exact ⟨v0, f1, g1, k2, k3, p0, h1, h2, h3⟩
theorem sim_ln {j ln : Nat} {i : Int} : SimW c (tOp (rIxL c.K) (tVar ln) (tC (.int i))) (aLn j ln i) := fun U H σ ρ Q q I z k => by
  obtain ⟨ws, as, a, m, xs, bs, e1, e2, e3, e4, z⟩ := lnQ_of z
  obtain ⟨b, d, e5, e6, z⟩ := shQ_of z
  obtain ⟨v0, s1, s2, s3, s4, s5⟩ := ln_at I e1 e2 e3 e4
  obtain ⟨n, w, x1, x2, x3, x4, x5⟩ := atI_rep s4 e5
  exact ⟨.ref a, s2, a, xs, i, w, rfl, rfl, SqL.of s3, x4, k U H d w (Gr.refl I.vh) I (.inr ⟨j, _, v0, b, e1, s1, .on e4 e3 (.on x2 x3 .here), e6⟩) z⟩
theorem sim_lnE {j ln : Nat} {i : Int} : SimE c (tOp (rIxL c.K) (tVar ln) (tC (.int i))) (aLnE j ln i) := fun U H σ ρ Q q I z k => by
  obtain ⟨ws, as, a, m, xs, bs, e1, e2, e3, e4, z⟩ := lnQ_of z
  obtain ⟨d, e5, z⟩ := fzOf_of z
  obtain ⟨v0, s1, s2, s3, s4, s5⟩ := ln_at I e1 e2 e3 e4
  obtain ⟨n, w, x1, x2, x3, x4, x5⟩ := atI_rep s4 e5
  exact ⟨.ref a, s2, a, xs, i, w, rfl, rfl, SqL.of s3, x4, k U H d w (Gr.refl I.vh) I x5 z⟩
def olOf (bs : List AV) (i : Int) (Q : Nat → List D → Prop) : Prop := match ixN bs.length i with
  | some k => match bs[k]? with
    | some (.ol ds) => Q k ds
    | _ => False
  | none => False
theorem olOf_of {bs : List AV} {i : Int} {Q : Nat → List D → Prop} (h : olOf bs i Q) : ∃ k ds, ixN bs.length i = some k ∧ bs[k]? = some (.ol ds) ∧ Q k ds := by
  unfold olOf at h
  split at h
  · rename_i k e
    split at h
    · exact ⟨k, _, e, by assumption, h⟩
    · exact h.elim
  · exact h.elim
/-- an inner list grows -/
def aAppLn (j ln : Nat) (i : Int) (e : AE) : AS := fun N ρ => lnQ ρ j ln fun ws as m xs bs => olOf bs i fun k ds => e ρ (fun d => ds.length < 1000000 ∧ N.nx (ρ.set j (some (.on ws (as.set m (.on xs (bs.set k (.ol (ds ++ [d])))))))) ) (fun x => N.ex x ρ)
theorem sim_appLn {j ln : Nat} {i : Int} {te : TE} {e : AE} (he : SimE c te e) : SimS c (tDrop (tBM c.K "list" rAppend (tOp (rIxL c.K) (tVar ln) (tC (.int i))) (tCons te tNil))) (aAppLn j ln i e) := fun U H σ ρ N n hx I z P => by
  obtain ⟨ws, as, a, m, xs, bs, e1, e2, e3, e4, z⟩ := lnQ_of z
  obtain ⟨k, ds, e5, e6, z⟩ := olOf_of z
  rw [hx] at z
  obtain ⟨v0, s1, s2, s3, s4, s5⟩ := ln_at I e1 e2 e3 e4
  have e7 : atI bs i = some (.ol ds) := by unfold atI; rw [e5]; exact e6
  obtain ⟨k', w, x1, x2, x3, x4, p, ys, x5, x6, x7⟩ := atI_rep s4 e7
  rw [e5] at x1
  cases x1
  subst x5
  refine ⟨.ref a, s2, a, xs, i, .ref p, rfl, rfl, SqL.of s3, x4, .inl ⟨rfl, ys, SqL.of x6⟩, he U H σ ρ _ _ I z fun U1 H1 d v g1 I1 r1 z1 => ?_⟩
  obtain ⟨v1, t1, t2, t3, t4, t5⟩ := ln_at I1 e1 e2 e3 e4
  rw [s1] at t1
  cases t1
  obtain ⟨p', ys', y5, y6, y7⟩ := RepAs.at t4 _ _ _ e6 x3
  cases y5
  have sw : Swap (.on ws as) v0 (.ol ds) (.ref p) (.ol (ds ++ [d])) (.on ws (as.set m (.on xs (bs.set k (.ol (ds ++ [d])))))) := .on e4 e3 (.on e6 x3 .here)
  refine ⟨p, ys', v, rfl, rfl, y6, lt_size (by rw [← y7.len]; exact z1.1), P.nx U1 _ σ _ g1.vv (I1.swap e1 s1 sw ⟨p, _, rfl, upd_same, y7.snoc r1⟩ rfl rfl (fun x hx' => upd_ne fun z => hx' (by rw [z]; exact List.mem_singleton.mpr rfl)) (fun x hx' => by rw [List.mem_singleton.mp hx', upd_same]; intro z; cases z)) z1.2⟩
/-- lines[i][k], where that never changes -/
def onQ (ρ : Env) (j : Nat) (Q : List V → List AV → Prop) : Prop := match ρ[j]? with
  | some (some (.on ws as)) => Q ws as
  | _ => False
theorem onQ_of {j : Nat} {Q : List V → List AV → Prop} (h : onQ ρ j Q) : ∃ ws as, ρ[j]? = some (some (.on ws as)) ∧ Q ws as := by
  unfold onQ at h
  split at h
  · exact ⟨_, _, by assumption, h⟩
  · exact h.elim
def onOf (Q : List AV → Prop) : Option AV → Prop
  | some (.on _ bs) => Q bs
  | _ => False
theorem onOf_of {Q : List AV → Prop} {o : Option AV} (h : onOf Q o) : ∃ xs bs, o = some (.on xs bs) ∧ Q bs := by
  unfold onOf at h
  split at h
  · exact ⟨_, _, rfl, h⟩
  · exact h.elim
def aOnIx (j : Nat) (e : AE) (i : Int) : AE := fun ρ Q X => onQ ρ j fun _ as => e ρ (intQ fun n => onOf (fun bs => fzOf Q (atI bs i)) (atI as n)) X
theorem sim_onIx {j : Nat} {i : Int} {te : TE} {e : AE} (he : SimE c te e) : SimE c (tOp (rIxL c.K) (tOp (rIxL c.K) (tVar j) te) (tC (.int i))) (aOnIx j e i) := fun U H σ ρ Q q I z k => by
  obtain ⟨ws, as, e1, z⟩ := onQ_of z
  obtain ⟨v0, f1, _⟩ := rep_at I.rep j _ e1
  refine ⟨v0, f1, he U H σ ρ _ _ I z fun U1 H1 d v g1 I1 r1 z1 => ?_⟩
  obtain ⟨n, rfl, z1⟩ := intQ_of z1
  obtain ⟨xs, bs, e2, z1⟩ := onOf_of z1
  obtain ⟨d, e3, z1⟩ := fzOf_of z1
  obtain ⟨v1, f2, f3, _⟩ := rep_at I1.rep j _ e1
  rw [f1] at f2
  cases f2
  obtain ⟨p, rfl, g2, g3⟩ := f3
  obtain ⟨m, w, x1, x2, x3, x4, p', x5, x6, x7⟩ := atI_rep g3 e2
  subst x5
  obtain ⟨m', w', y1, y2, y3, y4, y5⟩ := atI_rep x7 e3
  exact ⟨p, ws, n, .ref p', rfl, r1, SqL.of g2, x4, p', xs, i, w', rfl, rfl, SqL.of x6, y4, k U1 H1 d w' g1 I1 y5 z1⟩
abbrev AMLO := Env → (List AV → Env → Prop) → (Exn → Env → Prop) → Prop
def SimMLO (c : DC) (t : TA) (e : AMLO) : Prop := ∀ (U H : Hp) (σ : L2.St) (ρ : Env) (Q : List AV → Env → Prop) (q : List V → Hp → Prop), DI c U H σ ρ → e ρ Q (fun x ρ => c.x ρ x) →
  (∀ U' H' ρ' avs vs, Gr (owns ρ σ) U H U' H' → DI c U' H' σ ρ' → OldNew H ρ ρ' σ → RepAs c.K U' H' avs vs → (ownAs avs vs).Nodup → (∀ p ∈ ownAs avs vs, U' p = none ∧ H p = none ∧ p ∉ owns ρ' σ) → Q avs ρ' → q vs H') → t σ H q
def mNilO : AMLO := fun ρ Q _ => Q [] ρ
def mConsO (a : AMO) (r : AMLO) : AMLO := fun ρ Q X => a ρ (fun d ρ1 => r ρ1 (fun ds ρ2 => Q (d :: ds) ρ2) X) X
theorem simM_nilO : SimMLO c tNil mNilO := fun U H σ ρ Q q I z k => k U H ρ [] [] (Gr.refl I.vh) I .refl rfl List.nodup_nil (fun p hp => by cases hp) z
theorem simM_consO {ta : TE} {tr : TA} {m : AMO} {r : AMLO} (ha : SimMO c ta m) (hr : SimMLO c tr r) : SimMLO c (tCons ta tr) (mConsO m r) := fun U H σ ρ Q q I z k =>
  ha U H σ ρ _ _ I z fun U1 H1 ρ1 av v g1 I1 o1 r1 n1 d1 z1 => hr U1 H1 σ ρ1 _ _ I1 z1 fun U2 H2 ρ2 avs vs g2 I2 o2 r2 nd2 f2 z2 => by
    have ex1 : ∀ p ∈ own av v, H1 p ≠ none := own_some av v r1
    refine k U2 H2 ρ2 (av :: avs) (v :: vs) (g1.comp g2 o1) I2 (o1.trans g1 o2) ⟨v, vs, rfl, RepA.keep g2.vv av v (fun p hp => ⟨keep_at g2 (own_pl av v r1 p hp) (d1 p hp), g2.fr p (n1.out p hp).1 (ex1 p hp)⟩) r1, r2⟩ ?_ (fun p hp => ?_) z2
    · exact List.nodup_append.mpr ⟨n1.nd, nd2, fun x hx y hy e => ex1 x hx (by rw [e]; exact (f2 y hy).2.1)⟩
    · rcases List.mem_append.mp hp with hp | hp
      · refine ⟨g2.fr p (n1.out p hp).1 (ex1 p hp), (n1.out p hp).2, fun z => ?_⟩
        rcases o2 p z with y | y
        · exact d1 p hp y
        · exact ex1 p hp y
      · exact ⟨(f2 p hp).1, g1.fresh (f2 p hp).2.1, (f2 p hp).2.2⟩
/-- a value that never changes, among things of one's own -/
def mUp (e : AM) : AMO := fun ρ Q X => e ρ (fun d ρ1 => Q (.fz d) ρ1) X
theorem simM_up {t : TE} {m : AM} (h : SimM c t m) : SimMO c t (mUp m) := fun U H σ ρ Q q I z k => h U H σ ρ _ _ I z fun U1 H1 ρ1 d v g1 I1 o1 r1 z1 => k U1 H1 ρ1 (.fz d) v g1 I1 o1 r1 .fz (fun p hp => by cases v <;> cases hp) z1
def mLstO (r : AMLO) : AMO := fun ρ Q X => r ρ (fun as ρ1 => as.length ≤ 1000000 ∧ ∀ ws : List V, ws.length = as.length → Q (.on ws as) ρ1) X
theorem simM_lstO {tr : TA} {r : AMLO} (hr : SimMLO c tr r) : SimMO c (tLst tr) (mLstO r) := fun U H σ ρ Q q I z k =>
  hr U H σ ρ _ _ I z fun U1 H1 ρ1 avs vs g1 I1 o1 r1 nd1 f1 z1 => ⟨le_size (by rw [← r1.len]; exact z1.1), fun p np => by
    have g2 : Gr [] U1 H1 U1 (upd H1 p (.lst vs)) := (Gr.refl I1.vh).newM np
    have ex1 : ∀ q ∈ ownAs avs vs, H1 q ≠ none := ownAs_some avs vs r1
    have np' : p ∉ ownAs avs vs := fun z => ex1 p z np
    refine k _ _ ρ1 (.on vs avs) (.ref p) (g1.trans g2.any) (I1.grow g2) o1 ⟨p, rfl, upd_same, RepAs.keep (Same.refl U1) avs vs (fun q hq => ⟨upd_ne (fun z => np' (z ▸ hq)), (f1 q hq).1⟩) r1⟩ ⟨List.nodup_cons.mpr ⟨np', nd1⟩, fun q hq => ?_⟩ (fun q hq y => ?_) (z1.2 vs r1.len.symm)
    · rcases List.mem_cons.mp hq with rfl | hq
      · exact ⟨I1.vh.free np, g1.fresh np⟩
      · exact ⟨(f1 q hq).1, (f1 q hq).2.1⟩
    · rcases List.mem_cons.mp hq with rfl | hq
      · exact I1.ex q y np
      · exact (f1 q hq).2.2 y⟩
theorem repAs_snoc {K : PySem.W.Frag} : ∀ {as : List AV} {ws : List V} {a : AV} {w : V}, RepAs K U H as ws → RepA K U H a w → RepAs K U H (as ++ [a]) (ws ++ [w])
  | [], _, a, w, h, k => by
    rw [show _ = [] from h]
    exact ⟨w, [], rfl, k, rfl⟩
  | b :: as, _, a, w, ⟨v, r, e, h1, h2⟩, k => by
    subst e
    exact ⟨v, r ++ [w], rfl, h1, repAs_snoc h2 k⟩
theorem ownAs_snoc {K : PySem.W.Frag} : ∀ {as : List AV} {ws : List V} {a : AV} {w : V}, RepAs K U H as ws → ownAs (as ++ [a]) (ws ++ [w]) = ownAs as ws ++ own a w
  | [], _, a, w, h => by
    rw [show _ = [] from h]
    show own a w ++ [] = [] ++ own a w
    rw [List.append_nil]
    rfl
  | b :: as, _, a, w, ⟨v, r, e, h1, h2⟩ => by
    subst e
    show own b v ++ ownAs (as ++ [a]) (r ++ [w]) = (own b v ++ ownAs as r) ++ own a w
    rw [ownAs_snoc h2, List.append_assoc]
/-- a thing of one's own is put behind a list of such things -/
def mAppN (j : Nat) (e : AMO) : AS := fun N ρ => onQ ρ j fun _ _ => e ρ (fun av ρ1 => onQ ρ1 j fun ws as => ws.length < 1000000 ∧ av.kind = 5 ∧ ∀ p : Addr, (∀ (k : Nat) (xs : List V) (bs : List AV), as[k]? = some (.on xs bs) → ws[k]? ≠ some (.ref p)) → N.nx (ρ1.set j (some (.on (ws ++ [.ref p]) (as ++ [av]))))) N.ex
theorem simM_appN {j : Nat} {t : TE} {mo : AMO} (he : SimMO c t mo) : SimS c (tDrop (tBM c.K "list" rAppend (tVar j) (tCons t tNil))) (mAppN j mo) := fun U H σ ρ N n hx I z P => by
  obtain ⟨ws0, as0, e0, z⟩ := onQ_of z
  rw [hx] at z
  obtain ⟨v0, f1, f2, _⟩ := rep_at I.rep j _ e0
  obtain ⟨p, rfl, f3, f4⟩ := f2
  refine ⟨.ref p, f1, .inl ⟨rfl, ws0, SqL.of f3⟩, he U H σ ρ _ _ I z fun U1 H1 ρ1 av v g1 I1 o1 r1 n1 d1 z1 => ?_⟩
  obtain ⟨ws, as, e1, z2, z3, z4⟩ := onQ_of z1
  obtain ⟨v1, h1, h2, h3⟩ := rep_at I1.rep j _ e1
  rw [f1] at h1
  cases h1
  obtain ⟨p', x1, x2, x3⟩ := h2
  cases x1
  obtain ⟨xs0, bs0, rfl⟩ : ∃ xs0 bs0, av = .on xs0 bs0 := by
    cases av <;> first | exact ⟨_, _, rfl⟩ | cases z3
  obtain ⟨a, rfl, ha1, ha2⟩ := r1
  have r1 : RepA c.K U1 H1 (.on xs0 bs0) (.ref a) := ⟨a, rfl, ha1, ha2⟩
  have frA : ∀ (k : Nat) (xs : List V) (bs : List AV), as[k]? = some (.on xs bs) → ws[k]? ≠ some (.ref a) := fun k xs bs g1 g2 => d1 a List.mem_cons_self (h3 a (List.mem_cons_of_mem _ (ownAs_at g1 g2 a List.mem_cons_self)))
  have nd1 : (p :: ownAs as ws).Nodup := own_nd I1.nd e1 f1
  obtain ⟨np, nd2⟩ := List.nodup_cons.mp nd1
  have hu : ∀ q ∈ p :: ownAs as ws, U1 q = none := fun q hq => (I1.out q (h3 q hq)).1
  have pa : p ∉ own (.on xs0 bs0) (.ref a) := fun z => d1 p z (h3 p List.mem_cons_self)
  have ej : (ρ1.set j (some (.on (ws ++ [.ref a]) (as ++ [.on xs0 bs0]))))[j]? = some (some (.on (ws ++ [.ref a]) (as ++ [.on xs0 bs0]))) := List.getElem?_set_self (List.getElem?_eq_some_iff.mp e1).1
  have up : U1 p = none := hu p List.mem_cons_self
  have g : Gr [p] U1 H1 U1 (upd H1 p (.lst (ws ++ [.ref a]))) := (Gr.refl I1.vh).mut up (.inl (List.mem_singleton.mpr rfl)) (I1.pl p (h3 p List.mem_cons_self))
  have eo := ownAs_snoc (a := .on xs0 bs0) (w := .ref a) x3
  have ok1 : ownK ρ1 σ j = p :: ownAs as ws := by unfold ownK; rw [e1, f1]; rfl
  have ok2 : ownK (ρ1.set j (some (.on (ws ++ [.ref a]) (as ++ [.on xs0 bs0])))) σ j = p :: (ownAs as ws ++ own (.on xs0 bs0) (.ref a)) := by
    unfold ownK
    rw [ej, f1, ← eo]
    rfl
  have ndn : (p :: (ownAs as ws ++ own (.on xs0 bs0) (.ref a))).Nodup := by
    refine List.nodup_cons.mpr ⟨fun z => ?_, List.nodup_append.mpr ⟨nd2, n1.nd, fun x hx' y hy e => d1 y hy (h3 y (by rw [← e]; exact List.mem_cons_of_mem _ hx'))⟩⟩
    rcases List.mem_append.mp z with z | z
    · exact np z
    · exact pa z
  have nw : ∀ q ∈ own (.on xs0 bs0) (.ref a), U1 q = none ∧ q ∉ owns ρ1 σ := fun q hq => ⟨(n1.out q hq).1, d1 q hq⟩
  refine ⟨p, ws, .ref a, rfl, rfl, x2, lt_size z2, P.nx U1 _ σ _ g1.vv (I1.multiG (M := [p]) (fun k => k == j) g (List.length_set ..) (fun k hk => ?_) (fun k hk => ?_) (fun q hq => ⟨j, by simp, by rw [ok1, List.mem_singleton.mp hq]; exact List.mem_cons_self⟩) (fun k q hk hq => ?_) (fun k l q hkl h1 h2 => ?_)) (z4 a frA)⟩
  · rw [List.getElem?_set_ne fun z => by rw [z] at hk; simp at hk]
  · have : k = j := by simpa using hk
    subst this
    refine ⟨.on ws as, _, .ref p, e1, ej, f1, rfl, ⟨p, rfl, upd_same, repAs_snoc (RepAs.keep (Same.refl U1) as ws (fun q hq => ⟨upd_ne (fun z => np (z ▸ hq)), hu q (List.mem_cons_of_mem _ hq)⟩) x3) (RepA.keep (Same.refl U1) (.on xs0 bs0) _ (fun q hq => ⟨upd_ne (fun z => pa (z ▸ hq)), (nw q hq).1⟩) r1)⟩, ?_⟩
    show (p :: ownAs (as ++ [.on xs0 bs0]) (ws ++ [.ref a])).Nodup
    rw [eo]
    exact ndn
  · have : k = j := by simpa using hk
    subst this
    rw [ok2] at hq
    rw [ok1]
    rcases List.mem_cons.mp hq with rfl | hq
    · exact ⟨up, .inl List.mem_cons_self⟩
    · rcases List.mem_append.mp hq with hq | hq
      · exact ⟨hu q (List.mem_cons_of_mem _ hq), .inl (List.mem_cons_of_mem _ hq)⟩
      · exact ⟨(nw q hq).1, .inr ⟨(nw q hq).2, I.gr.fresh (n1.out q hq).2⟩⟩
  · have a1 : k = j := by simpa using h1
    have a2 : l = j := by simpa using h2
    exact absurd (a1.trans a2.symm) hkl
def fltD : D → Bool
  | .int _ => true
  | .bl _ => true
  | .str _ => true
  | .non => true
  | _ => false
theorem flt_r {K : PySem.W.Frag} {d : D} {v : V} (h : fltD d = true) (r : R K U d v) : R K U' d v := by
  cases d <;> first | exact r | cases h
def fltQ (Q : D → Prop) : AV → Prop
  | .fz d => fltD d = true ∧ Q d
  | _ => False
theorem fltQ_of {Q : D → Prop} {av : AV} (h : fltQ Q av) : ∃ d, av = .fz d ∧ fltD d = true ∧ Q d := by
  cases av <;> first | exact ⟨_, rfl, h⟩ | exact h.elim
def argF (ρ : Env) : Arg → Option AV
  | .val d => some (.fz d)
  | .slot i => match ρ[i]? with
    | some (some av) => av.frz.map .fz
    | _ => none
def argsF (ρ : Env) : List Arg → Option (List AV)
  | [] => some []
  | a :: as => match argF ρ a, argsF ρ as with
    | some x, some xs => some (x :: xs)
    | _, _ => none
def callF (A : AF) (ρ : Env) (Q : D → Prop) (as : List Arg) : Prop := match argsF ρ as with
  | some avs => A avs (fltQ Q) fun _ => False
  | none => False
theorem argsF_rep (I : DI c U H σ ρ) : ∀ {as : List Arg} {vs : List V} {avs : List AV}, Paired (ArgR c.K U σ) as vs → argsF ρ as = some avs → Paired (RepA c.K (sealU U H (owns ρ σ)) H) avs vs ∧ (∀ a ∈ avs, ∃ d, a = .fz d)
  | _, _, avs, .nil, e => by
    cases e
    exact ⟨.nil, fun p hp => (by cases hp)⟩
  | a :: as, v :: vs, avs, .cons h t, e => by
    unfold argsF at e
    cases ea : argF ρ a with
    | none => rw [ea] at e; cases e
    | some x =>
      rw [ea] at e
      cases es : argsF ρ as with
      | none => rw [es] at e; cases e
      | some xs =>
        rw [es] at e
        cases e
        obtain ⟨i1, i2⟩ := argsF_rep I t es
        have hs : ∀ p ∈ owns ρ σ, U p = none := fun p hp => (I.out p hp).1
        cases a with
        | val d =>
          cases ea
          exact ⟨.cons (R.mono (seal_same hs) d v h) i1, fun y hy => by
            rcases List.mem_cons.mp hy with rfl | hy
            · exact ⟨d, rfl⟩
            · exact i2 y hy⟩
        | slot i =>
          unfold argF at ea
          dsimp only at ea
          split at ea
          · rename_i av e1
            cases ef : av.frz with
            | none => rw [ef] at ea; cases ea
            | some d =>
              rw [ef] at ea
              cases ea
              obtain ⟨w, f1, f2, f3⟩ := rep_at I.rep i av e1
              have h' : σ[i]? = some (some v) := h
              rw [h'] at f1
              cases f1
              exact ⟨.cons (RepA.frozen hs av v d f2 ef f3) i1, fun y hy => by
                rcases List.mem_cons.mp hy with rfl | hy
                · exact ⟨d, rfl⟩
                · exact i2 y hy⟩
          · cases ea
theorem ownAs_fz : ∀ {avs : List AV} {vs : List V}, (∀ a ∈ avs, ∃ d, a = .fz d) → ownAs avs vs = []
  | [], _, _ => by unfold ownAs; rfl
  | a :: as, [], _ => by unfold ownAs; rfl
  | a :: as, v :: vs, h => by
    obtain ⟨d, rfl⟩ := h a List.mem_cons_self
    show own (.fz d) v ++ ownAs as vs = []
    rw [ownAs_fz (avs := as) fun x hx => h x (List.mem_cons_of_mem _ hx)]
    cases v <;> rfl
def aCallF (A : AF) (r : AA) : AE := fun ρ Q X => r ρ (callF A ρ Q) X
theorem sim_callF {A : AF} {tr : TA} {r : AA} {E : XK} (hr : SimA c tr r) : SimE c (tCall (spD c.K c.tb A) [] E tr) (aCallF A r) := fun U H σ ρ Q q I z k =>
  hr U H σ ρ _ _ I z fun U1 H1 as vs g1 I1 r1 z1 => by
    rw [List.append_nil]
    unfold callF at z1
    split at z1
    · rename_i avs ea
      obtain ⟨k1, k2⟩ := argsF_rep I1 r1 ea
      have e0 : ownAs avs vs = [] := ownAs_fz k2
      refine ⟨sealU U1 H1 (owns ρ σ), avs, _, _, seal_vh I1.vh, ⟨I1.tbs.1, seal_nt I1.tbs.2 I1.pl⟩, k1, fun a ha => .inr (k2 a ha), by rw [e0]; exact Nat.zero_le _, z1, fun U2 H2 av v g2 r2 n2 _ z2 => ?_, fun U2 H2 ex cls o _ _ _ z2 => z2.elim⟩
      rw [e0] at g2
      obtain ⟨d, rfl, fd, z2⟩ := fltQ_of z2
      have g3 : Gr [] U1 H1 U1 H2 := ⟨Same.refl U1, fun x o e => g2.hh x o (by simp) (fun ps z => I1.tbs.2 x ps (by rw [e, z])) (I1.vh x o e), g2.hh, g2.dom, fun _ e _ => e, g2.tb, id⟩
      exact k U1 H2 d v (g1.trans g3.any) (I1.grow g3) (flt_r fd r2) z2
    · exact z1.elim
end
end SW
namespace SW
open PySem PySem.Spec PyProof.Rows L2 SWS
variable [QN]
section
variable {c : DC} {K : PySem.W.Frag}
/-- len(set(xs)) as it is read -/
def aLenSet (a : AE) : AE := fun ρ Q X => a ρ (seqQ fun ds => someQ (fun xs => xs.length ≤ 1000 ∧ ∀ c : Nat, c ≤ xs.length → (c = xs.length ↔ xs.Nodup) → Q (.int c)) (strsOf ds)) X
theorem sim_lenSet {K : PySem.W.Frag} {ta : TE} {a : AE} (hK : K = c.K) (ha : SimW c ta a) : SimE c (tLenSetS K ta) (aLenSet a) := fun U H σ ρ Q q I z k => by
  subst hK
  refine ha U H σ ρ _ _ I z fun U1 H1 d v g1 I1 w1 z1 => ?_
  obtain ⟨ds, e, z1⟩ := seqQ_of z1
  obtain ⟨xs, e2, z2, z3⟩ := someQ_of z1
  obtain ⟨a, us, rfl, h1, h2⟩ := (w1.cr I1).seq I1.vh e
  rw [strsOf_eq e2] at h2
  rw [h2.strs] at h1
  exact ⟨a, xs, rfl, h1, z2, fun n hn => k U1 H1 (.int n) _ g1 I1 rfl (z3 n hn.le.1 hn.le.2)⟩
end
section
variable {K : PySem.W.Frag}
def int2Q (Q : Int → Int → Prop) : List D → Prop
  | [.int a, .int b] => Q a b
  | _ => False
theorem int2Q_of {Q : Int → Int → Prop} {ds : List D} (h : int2Q Q ds) : ∃ a b, ds = [.int a, .int b] ∧ Q a b := by
  unfold int2Q at h
  split at h
  · exact ⟨_, _, rfl, h⟩
  · exact h.elim
def oMax2 : List D → (D → Prop) → Prop := fun ds Q => int2Q (fun a b => Q (.int (if b > a then b else a))) ds
def oMin2 : List D → (D → Prop) → Prop := fun ds Q => int2Q (fun a b => Q (.int (if b < a then b else a))) ds
theorem pairedI2 {U H : Hp} {a b : Int} {vs : List V} (r : Paired (CR K U H) [.int a, .int b] vs) : vs = [.int a, .int b] := by
  cases r with
  | cons h t =>
    cases t with
    | cons h2 t2 =>
      cases t2
      rw [h.int, h2.int]
theorem bu_max2 : BuD K (fun xs H Q => ∃ i j, xs = [.int i, .int j] ∧ Q (.int (if j > i then j else i)) H) oMax2 := fun U H vs ds Q q s r z k => by
  obtain ⟨a, b, rfl, z⟩ := int2Q_of z
  exact ⟨a, b, pairedI2 r, k U H (.int _) _ (Gr.refl s) rfl z⟩
theorem bu_min2 : BuD K (fun xs H Q => ∃ i j, xs = [.int i, .int j] ∧ Q (.int (if j < i then j else i)) H) oMin2 := fun U H vs ds Q q s r z k => by
  obtain ⟨a, b, rfl, z⟩ := int2Q_of z
  exact ⟨a, b, pairedI2 r, k U H (.int _) _ (Gr.refl s) rfl z⟩
end
end SW
namespace SW
open PySem PySem.Spec PyProof.Rows L2 SWS
variable [QN]
section
variable {ρ : Env} {nx : Env → Prop} {rt : AV → Env → Prop} {bk ct : Env → Prop} {ex : Exn → Env → Prop} {i j : Nat} {m : AM} {mo : AMO} {r : AML} {ro : AMLO} {e a : AE} {o : AO} {Q : D → Env → Prop} {O : AV → Env → Prop} {X : Exn → Env → Prop} {L : List D → Env → Prop} {LO : List AV → Env → Prop}
theorem m_set (q : m ρ (fun d ρ1 => nx (ρ1.set i (some (.fz d)))) ex) : mSet i m ⟨nx, rt, bk, ct, ex⟩ ρ := q
instance sm_set  : Stp (mSet i m ⟨nx, rt, bk, ct, ex⟩ ρ) (m ρ (fun d ρ1 => nx (ρ1.set i (some (.fz d)))) ex) := ⟨m_set⟩
theorem m_setO (q : mo ρ (fun av ρ1 => nx (ρ1.set i (some av))) ex) : mSetO i mo ⟨nx, rt, bk, ct, ex⟩ ρ := q
instance sm_setO  : Stp (mSetO i mo ⟨nx, rt, bk, ct, ex⟩ ρ) (mo ρ (fun av ρ1 => nx (ρ1.set i (some av))) ex) := ⟨m_setO⟩
theorem m_drop (q : m ρ (fun _ ρ1 => nx ρ1) ex) : mDrop m ⟨nx, rt, bk, ct, ex⟩ ρ := q
instance sm_drop  : Stp (mDrop m ⟨nx, rt, bk, ct, ex⟩ ρ) (m ρ (fun _ ρ1 => nx ρ1) ex) := ⟨m_drop⟩
theorem m_ret (q : m ρ (fun d ρ1 => rt (.fz d) ρ1) ex) : mRet m ⟨nx, rt, bk, ct, ex⟩ ρ := q
instance sm_ret  : Stp (mRet m ⟨nx, rt, bk, ct, ex⟩ ρ) (m ρ (fun d ρ1 => rt (.fz d) ρ1) ex) := ⟨m_ret⟩
theorem m_retO (q : mo ρ (fun av ρ1 => rt av ρ1) ex) : mRetO mo ⟨nx, rt, bk, ct, ex⟩ ρ := q
instance sm_retO  : Stp (mRetO mo ⟨nx, rt, bk, ct, ex⟩ ρ) (mo ρ (fun av ρ1 => rt av ρ1) ex) := ⟨m_retO⟩
theorem m_app {ds : List D} (h : ρ[i]? = some (some (.ol ds))) (q : m ρ (fun d ρ1 => olQ ρ1 i fun ds => ds.length < 1000000 ∧ nx (ρ1.set i (some (.ol (ds ++ [d]))))) ex) : mApp i m ⟨nx, rt, bk, ct, ex⟩ ρ := w_olQ h q
instance sm_app  : St1 (β := List D) (mApp i m ⟨nx, rt, bk, ct, ex⟩ ρ) (fun ds => ρ[i]? = some (some (.ol ds))) (fun ds => m ρ (fun d ρ1 => olQ ρ1 i fun ds => ds.length < 1000000 ∧ nx (ρ1.set i (some (.ol (ds ++ [d]))))) ex) := ⟨fun _ h q => m_app h q⟩
theorem w_onQ {ws : List V} {as : List AV} {P : List V → List AV → Prop} (h : ρ[i]? = some (some (.on ws as))) (q : P ws as) : onQ ρ i P := by unfold onQ; rw [h]; exact q
instance s_onQ {P : List V → List AV → Prop} : St2 (β := List V) (γ := List AV) (onQ ρ i P) (fun ws as => ρ[i]? = some (some (.on ws as))) (fun ws as => True) (fun ws as => P ws as) := ⟨fun _ _ h _ q => w_onQ h q⟩
theorem m_appN {ws : List V} {as : List AV} (h : ρ[i]? = some (some (.on ws as))) (q : mo ρ (fun av ρ1 => onQ ρ1 i fun ws as => ws.length < 1000000 ∧ av.kind = 5 ∧ ∀ p : Addr, (∀ (k : Nat) (xs : List V) (bs : List AV), as[k]? = some (.on xs bs) → ws[k]? ≠ some (.ref p)) → nx (ρ1.set i (some (.on (ws ++ [.ref p]) (as ++ [av]))))) ex) : mAppN i mo ⟨nx, rt, bk, ct, ex⟩ ρ := w_onQ h q
theorem m_E (q : e ρ (fun d => Q d ρ) (fun x => X x ρ)) : mE e ρ Q X := q
instance sm_E  : Stp (mE e ρ Q X) (e ρ (fun d => Q d ρ) (fun x => X x ρ)) := ⟨m_E⟩
theorem m_O (q : o ρ (fun d => O d ρ) (fun x => X x ρ)) : mO o ρ O X := q
instance sm_O  : Stp (mO o ρ O X) (o ρ (fun d => O d ρ) (fun x => X x ρ)) := ⟨m_O⟩
theorem m_fz (q : mo ρ (fun av ρ' => frzQ (fun d => Q d ρ') av) X) : mFz mo ρ Q X := q
instance sm_fz  : Stp (mFz mo ρ Q X) (mo ρ (fun av ρ' => frzQ (fun d => Q d ρ') av) X) := ⟨m_fz⟩
theorem m_up (q : m ρ (fun d ρ' => O (.fz d) ρ') X) : mUp m ρ O X := q
instance sm_up  : Stp (mUp m ρ O X) (m ρ (fun d ρ' => O (.fz d) ρ') X) := ⟨m_up⟩
theorem m_nil (q : L [] ρ) : mNil ρ L X := q
instance sm_nil  : Stp (mNil ρ L X) (L [] ρ) := ⟨m_nil⟩
theorem m_cons (q : m ρ (fun d ρ1 => r ρ1 (fun ds ρ2 => L (d :: ds) ρ2) X) X) : mCons m r ρ L X := q
instance sm_cons  : Stp (mCons m r ρ L X) (m ρ (fun d ρ1 => r ρ1 (fun ds ρ2 => L (d :: ds) ρ2) X) X) := ⟨m_cons⟩
theorem m_nilO (q : LO [] ρ) : mNilO ρ LO X := q
instance sm_nilO  : Stp (mNilO ρ LO X) (LO [] ρ) := ⟨m_nilO⟩
theorem m_consO (q : mo ρ (fun d ρ1 => ro ρ1 (fun ds ρ2 => LO (d :: ds) ρ2) X) X) : mConsO mo ro ρ LO X := q
instance sm_consO  : Stp (mConsO mo ro ρ LO X) (mo ρ (fun d ρ1 => ro ρ1 (fun ds ρ2 => LO (d :: ds) ρ2) X) X) := ⟨m_consO⟩
theorem m_tup (q : r ρ (fun ds ρ1 => ds.length ≤ 1000000 ∧ Q (.tup ds) ρ1) X) : mTup r ρ Q X := q
instance sm_tup  : Stp (mTup r ρ Q X) (r ρ (fun ds ρ1 => ds.length ≤ 1000000 ∧ Q (.tup ds) ρ1) X) := ⟨m_tup⟩
theorem m_lst (q : r ρ (fun ds ρ1 => ds.length ≤ 1000000 ∧ O (.ol ds) ρ1) X) : mLst r ρ O X := q
instance sm_lst  : Stp (mLst r ρ O X) (r ρ (fun ds ρ1 => ds.length ≤ 1000000 ∧ O (.ol ds) ρ1) X) := ⟨m_lst⟩
theorem m_lstO (q : ro ρ (fun as ρ1 => as.length ≤ 1000000 ∧ ∀ ws : List V, ws.length = as.length → O (.on ws as) ρ1) X) : mLstO ro ρ O X := q
instance sm_lstO  : Stp (mLstO ro ρ O X) (ro ρ (fun as ρ1 => as.length ≤ 1000000 ∧ ∀ ws : List V, ws.length = as.length → O (.on ws as) ρ1) X) := ⟨m_lstO⟩
theorem m_call0 {A : AFM} {aa : AA} (q : aa ρ (callM A ρ O fun _ _ => False) (fun x => X x ρ)) : mCall0 A aa ρ O X := q
instance sm_call0 {A : AFM} {aa : AA} : Stp (mCall0 A aa ρ O X) (aa ρ (callM A ρ O fun _ _ => False) (fun x => X x ρ)) := ⟨m_call0⟩
theorem m_call {A : AFM} {aa : AA} (q : aa ρ (callM A ρ O X) (fun x => X x ρ)) : mCall A aa ρ O X := q
instance sm_call {A : AFM} {aa : AA} : Stp (mCall A aa ρ O X) (aa ρ (callM A ρ O X) (fun x => X x ρ)) := ⟨m_call⟩
def ndB : List Nat → Bool
  | [] => true
  | x :: l => !l.contains x && ndB l
theorem ndB_of : ∀ {l : List Nat}, ndB l = true → l.Nodup
  | [], _ => List.nodup_nil
  | x :: l, h => by
    unfold ndB at h
    rw [Bool.and_eq_true] at h
    exact List.nodup_cons.mpr ⟨fun z => (by rw [List.contains_iff_mem.mpr z] at h; cases h.1), ndB_of h.2⟩
theorem m_callM {A : AFM} {as : List Arg} {avs : List AV} (h1 : ndB (slotIx as) = true) (h : argsM ρ as = some avs) (q : A avs (fun av avs' => O av (putA ρ as avs')) (fun x avs' => X x (putA ρ as avs'))) : callM A ρ O X as := ⟨ndB_of h1, by rw [h]; exact q⟩
theorem m_lc {it : AL} {g : AG} {vs : List Nat} (q : it ρ (fun ds => aCompM g m vs ds [] (wipeA ρ vs) (fun acc ρ' => O (.ol acc) ρ') X) (fun x => X x ρ)) : mLc it g m vs ρ O X := q
instance sm_lc {it : AL} {g : AG} {vs : List Nat} : Stp (mLc it g m vs ρ O X) (it ρ (fun ds => aCompM g m vs ds [] (wipeA ρ vs) (fun acc ρ' => O (.ol acc) ρ') X) (fun x => X x ρ)) := ⟨m_lc⟩
end
section
variable {ρ : Env} {nx : Env → Prop} {rt : AV → Env → Prop} {bk ct : Env → Prop} {ex : Exn → Env → Prop} {i j : Nat} {a e : AE} {Q : D → Prop} {X : Exn → Prop} {d : D} {av : AV}
theorem w_slotO {r : AA} {P : List Arg → Prop} (h : ρ[i]? = some (some av)) (q : r ρ (fun ds => P (.slot i :: ds)) X) : aSlotO i r ρ P X := by unfold aSlotO; rw [h]; exact q
instance s_slotO {r : AA} {P : List Arg → Prop} : St1 (β := AV) (aSlotO i r ρ P X) (fun av => ρ[i]? = some (some av)) (fun av => r ρ (fun ds => P (.slot i :: ds)) X) := ⟨fun _ h q => w_slotO h q⟩
theorem w_callF {A : AF} {r : AA} (q : r ρ (callF A ρ Q) X) : aCallF A r ρ Q X := q
instance s_callF {A : AF} {r : AA} : Stp (aCallF A r ρ Q X) (r ρ (callF A ρ Q) X) := ⟨w_callF⟩
theorem w_callFQ {A : AF} {as : List Arg} {avs : List AV} (h : argsF ρ as = some avs) (q : A avs (fltQ Q) fun _ => False) : callF A ρ Q as := by unfold callF; rw [h]; exact q
instance s_callFQ {A : AF} {as : List Arg} : St1 (β := List AV) (callF A ρ Q as) (fun avs => argsF ρ as = some avs) (fun avs => A avs (fltQ Q) fun _ => False) := ⟨fun _ h q => w_callFQ h q⟩
theorem w_fltI {x : Int} (q : Q (.int x)) : fltQ Q (.fz (.int x)) := ⟨rfl, q⟩
instance s_fltI {x : Int} : Stp (fltQ Q (.fz (.int x))) (Q (.int x)) := ⟨w_fltI⟩
theorem w_max2 {x y : Int} (q : Q (.int (if y > x then y else x))) : oMax2 [.int x, .int y] Q := q
instance s_max2 {x y : Int} : Stp (oMax2 [.int x, .int y] Q) (Q (.int (if y > x then y else x))) := ⟨w_max2⟩
theorem w_min2 {x y : Int} (q : Q (.int (if y < x then y else x))) : oMin2 [.int x, .int y] Q := q
instance s_min2 {x y : Int} : Stp (oMin2 [.int x, .int y] Q) (Q (.int (if y < x then y else x))) := ⟨w_min2⟩
theorem w_bmS {f : D → List D → (D → Prop) → Prop} {r : AL} (q : a ρ (strQ fun x => r ρ (fun ds => f (.str x) ds Q) X) X) : aBmS f a r ρ Q X := q
instance s_bmS {f : D → List D → (D → Prop) → Prop} {r : AL} : Stp (aBmS f a r ρ Q X) (a ρ (strQ fun x => r ρ (fun ds => f (.str x) ds Q) X) X) := ⟨w_bmS⟩
theorem w_strQ {P : Str → Prop} {x : Str} (q : P x) : strQ P (.str x) := q
instance s_strQ {P : Str → Prop} {x : Str} : Stp (strQ P (.str x)) (P x) := ⟨w_strQ⟩
theorem w_join {x : Str} {xs : List Str} (h : (xs.map (·.length)).sum + xs.length * x.length ≤ 1000000) (q : Q (.str (Txt.join x xs))) : oJoin (.str x) [.lst (xs.map .str)] Q := by
  show someQ _ (strsOf (xs.map D.str))
  rw [strsOf_map]
  exact ⟨h, q⟩
theorem w_mulS {x : Str} {k : Int} (h : 0 ≤ k ∧ k ≤ 1000000 ∧ x.length * k.toNat ≤ 1000000) (q : Q (.str (Txt.mul x k))) : oMulS (.str x) (.int k) Q := ⟨h.1, h.2.1, h.2.2, q⟩
theorem w_lenSet (q : a ρ (seqQ fun ds => someQ (fun xs => xs.length ≤ 1000 ∧ ∀ c : Nat, c ≤ xs.length → (c = xs.length ↔ xs.Nodup) → Q (.int c)) (strsOf ds)) X) : aLenSet a ρ Q X := q
instance s_lenSet  : Stp (aLenSet a ρ Q X) (a ρ (seqQ fun ds => someQ (fun xs => xs.length ≤ 1000 ∧ ∀ c : Nat, c ≤ xs.length → (c = xs.length ↔ xs.Nodup) → Q (.int c)) (strsOf ds)) X) := ⟨w_lenSet⟩
theorem w_lnQ {ln m : Nat} {ws xs : List V} {as bs : List AV} {p : Addr} {P : List V → List AV → Nat → List V → List AV → Prop} (h1 : ρ[j]? = some (some (.on ws as))) (h2 : ρ[ln]? = some (some (.fz (.adr p)))) (h3 : lnIx ws p = some m) (h4 : as[m]? = some (.on xs bs)) (q : P ws as m xs bs) : lnQ ρ j ln P := by
  unfold lnQ
  rw [h1, h2]
  dsimp only
  rw [h3]
  dsimp only
  rw [h4]
  exact q
theorem w_sealN {sa : AS} {ws : List V} {as : List AV} {ds : List D} (h : ρ[i]? = some (some (.on ws as))) (f : frzs as = some ds) (q : sa ⟨nx, rt, bk, ct, ex⟩ (ρ.set i (some (.fz (.lst ds))))) : aSeal i sa ⟨nx, rt, bk, ct, ex⟩ ρ := by unfold aSeal; rw [h]; exact ⟨ds, f, q⟩
end
theorem compM_inv {g : AG} {e : AM} {vs : List Nat} {Q : List D → Env → Prop} {X : Exn → Env → Prop} {ds : List D} {ρ : Env} (Inv : Nat → List D → Env → Prop) (h0 : Inv 0 [] ρ) (hl : ds.length ≤ 1000000)
    (hs : ∀ (i : Nat) (d : D) (acc : List D) (ρ : Env) (K : D → Env → Prop), ds[i]? = some d → acc.length = i → Inv i acc ρ → (∀ y ρ', Inv (i + 1) (acc ++ [y]) (wipeA ρ' vs) → K y ρ') → g d ρ (fun ρ2 => e ρ2 K X)) (hd : ∀ acc ρ, acc.length = ds.length → Inv ds.length acc ρ → Q acc ρ) : aCompM g e vs ds [] ρ Q X := by
  have go : ∀ (k : Nat) (acc : List D) (ρ : Env), k ≤ ds.length → acc.length = ds.length - k → Inv (ds.length - k) acc ρ → aCompM g e vs (ds.drop (ds.length - k)) acc ρ Q X := by
    intro k
    induction k with
    | zero =>
      intro acc ρ _ ha h
      rw [Nat.sub_zero] at h ha ⊢
      rw [List.drop_length]
      exact hd acc ρ ha h
    | succ k ih =>
      intro acc ρ hk ha h
      have hl' : ds.length - (k + 1) < ds.length := by omega
      have e' : ds[ds.length - (k + 1)]? = some ds[ds.length - (k + 1)] := List.getElem?_eq_getElem hl'
      rw [drop_at e']
      refine hs _ _ acc ρ _ e' ha h fun y ρ' h' => ⟨by omega, ?_⟩
      have e2 : ds.length - (k + 1) + 1 = ds.length - k := by omega
      rw [e2] at h' ⊢
      exact ih _ _ (by omega) (by rw [List.length_append, List.length_singleton]; omega) h'
  have := go ds.length [] ρ (Nat.le_refl _) (by rw [Nat.sub_self]; rfl) (by rw [Nat.sub_self]; exact h0)
  rwa [Nat.sub_self, List.drop_zero] at this
end SW
namespace SW
open PySem PySem.Spec PyProof.Rows L2 SWS
variable [QN]
section
variable {c : DC} {U H U' H' : Hp} {σ : L2.St} {ρ ρ' : Env}
def obQ (ρ : Env) (i : Nat) (C : Addr) (Q : Addr → List Str → List V → List AV → Prop) : Prop := match ρ[i]? with
  | some (some (.ob C' dx ns ws as)) => C' = C ∧ Q dx ns ws as
  | _ => False
theorem obQ_of {i : Nat} {C : Addr} {Q : Addr → List Str → List V → List AV → Prop} (h : obQ ρ i C Q) : ∃ dx ns ws as, ρ[i]? = some (some (.ob C dx ns ws as)) ∧ Q dx ns ws as := by
  unfold obQ at h
  split at h
  · obtain ⟨rfl, h⟩ := h
    exact ⟨_, _, _, _, by assumption, h⟩
  · exact h.elim
def aFldSet (i : Nat) (C : Addr) (f : Str) (e : AE) : AS := fun N ρ => e ρ (fun d => obQ ρ i C fun dx ns ws as => ns.contains f = false ∧ ns.length < 1000 ∧ ∀ v : V, N.nx (ρ.set i (some (.ob C dx (ns ++ [f]) (ws ++ [v]) (as ++ [.fz d]))))) (fun x => N.ex x ρ)
theorem putF_new {f : Str} {v : V} : ∀ {ns : List Str} {ws : List V}, ns.length = ws.length → ns.contains f = false → putF f v (ns.zip ws) = (ns ++ [f]).zip (ws ++ [v])
  | [], [], _, _ => rfl
  | [], _ :: _, h, _ => by cases h
  | _ :: _, [], h, _ => by cases h
  | n :: ns, w :: ws, h, k => by
    rw [List.contains_cons, Bool.or_eq_false_iff] at k
    show (if n = f then (n, v) :: ns.zip ws else (n, w) :: putF f v (ns.zip ws)) = _
    rw [if_neg (fun z => by rw [z] at k; simp at k), putF_new (Nat.succ.inj h) k.2]
    rfl
theorem sim_fldSet {i : Nat} {C : Addr} {f : Str} {te : TE} {e : AE} (hc : Cls c.K C) (hn : NoAttr c.K C f) (he : SimE c te e) : SimS c (sFld c.K (tVar i) te f) (aFldSet i C f e) := fun U H σ ρ N n hx I z P => by
  unfold aFldSet at z
  rw [hx] at z
  refine he U H σ ρ _ _ I z fun U1 H1 d v g1 I1 r1 z1 => ?_
  obtain ⟨dx, ns, ws, as, e1, nf, nl, z2⟩ := obQ_of z1
  obtain ⟨v0, f1, ⟨p, rfl, f3, f4, f5⟩, f6⟩ := rep_at I1.rep i _ e1
  have nd := own_nd I1.nd e1 f1
  have np : p ∉ ownAs as ws := (List.nodup_cons.mp (show (p :: ownAs as ws).Nodup from nd)).1
  have eo := ownAs_snoc (a := .fz d) (w := v) f5
  have eo2 : ownAs (as ++ [.fz d]) (ws ++ [v]) = ownAs as ws := by
    rw [eo]
    cases v <;> exact List.append_nil _
  have hu : ∀ q ∈ ownAs as ws, U1 q = none := fun q hq => (I1.out q (f6 q (List.mem_cons_of_mem _ hq))).1
  refine ⟨.ref p, f1, p, C, dx, _, rfl, f3, hc, hn, by rw [List.length_zip, ← f4, Nat.min_self]; exact nl, P.nx U1 _ σ _ g1.vv (I1.swap (b := .ob C dx ns ws as) (b' := .ob C dx (ns ++ [f]) (ws ++ [v]) (as ++ [.fz d])) e1 f1 .here ⟨p, rfl, by rw [upd_same, putF_new f4 nf], by rw [List.length_append, List.length_append, f4]; rfl, repAs_snoc (RepAs.keep (Same.refl U1) as ws (fun q hq => ⟨upd_ne (fun z => np (z ▸ hq)), hu q hq⟩) f5) r1⟩ (by show p :: _ = p :: _; rw [eo2]) rfl (fun x hx' => upd_ne fun z => hx' (by rw [z]; exact List.mem_cons_self)) (fun x hx' => ?_)) (z2 v)⟩
  by_cases z : x = p
  · rw [z, upd_same]
    intro z; cases z
  · rw [upd_ne z]
    exact I1.ex x (f6 x hx')
inductive KA where
  | kw (i : Nat) | df (d : D)
def kaD (es : List D) : KA → D
  | .kw i => es.getD i .non
  | .df d => d
def kaV (zs : List V) : KA → V
  | .kw i => zs.getD i .non
  | .df (.int i) => .int i
  | .df _ => .non
def kaOk (m : Nat) : KA → Bool
  | .kw i => decide (i < m)
  | .df (.int _) => true
  | .df .non => true
  | .df _ => false
theorem ka_rep {K : PySem.W.Frag} {es : List D} {zs : List V} (r : Rs K U es zs) {a : KA} (h : kaOk zs.length a = true) : R K U (kaD es a) (kaV zs a) := by
  cases a with
  | kw i =>
    have hi : i < zs.length := of_decide_eq_true h
    have hi2 : i < es.length := by rw [r.len]; exact hi
    obtain ⟨v, h1, h2⟩ := r.at i _ (List.getElem?_eq_getElem hi2)
    show R K U (es.getD i .non) (zs.getD i .non)
    rw [List.getD_eq_getElem?_getD, List.getElem?_eq_getElem hi2, List.getD_eq_getElem?_getD, h1]
    exact h2
  | df d => cases d <;> first | exact rfl | cases h
theorem kas_rep {K : PySem.W.Frag} {es : List D} {zs : List V} (r : Rs K U es zs) : ∀ {arr : List KA}, arr.all (kaOk zs.length) = true → Paired (RepA K U H) (arr.map fun a => .fz (kaD es a)) (arr.map (kaV zs))
  | [], _ => .nil
  | a :: arr, h => by
    rw [List.all_cons, Bool.and_eq_true] at h
    exact .cons (ka_rep r h.1) (kas_rep r h.2)
theorem Paired.app {α β : Type} {F : α → β → Prop} : ∀ {xs xs' : List α} {ys ys' : List β}, Paired F xs ys → Paired F xs' ys' → Paired F (xs ++ xs') (ys ++ ys')
  | _, _, _, _, .nil, k => k
  | _, _, _, _, .cons h t, k => .cons h (Paired.app t k)
theorem rs_paired {K : PySem.W.Frag} : ∀ {ds : List D} {vs : List V}, Rs K U ds vs → Paired (RepA K U H) (ds.map .fz) vs
  | [], _, h => by rw [show _ = [] from h]; exact .nil
  | d :: ds, _, ⟨v, r, e, h1, h2⟩ => by rw [e]; exact .cons h1 (rs_paired h2)
def headQ (Q : AV → Prop) : List AV → Prop
  | a :: _ => Q a
  | [] => False
def mkQ (C : Addr) (A : AFM) (Q : AV → Prop) (X : Exn → Prop) (as : List AV) : Prop := ∀ dx : Addr, A (.ob C dx [] [] [] :: as) (fun av avs' => av = .fz .non ∧ headQ Q avs') (fun x _ => X x)
theorem run_mk {C : Addr} {A : AFM} {as : List AV} {vs : List V} {Q : AV → Prop} {X : Exn → Prop} {q : VK} {E : XK} (I : DI c U H σ ρ) (rep : Paired (RepA c.K U H) as vs) (fz : ∀ a ∈ as, ∃ d, a = .fz d) (h : mkQ C A Q X as)
    (k : ∀ U' H' av v, Gr (drs ρ σ) U H U' H' → DI c U' H' σ ρ → RepA c.K U' H' av v → Fresh U' H av v → Q av → q v H')
    (kx : ∀ U' H' x cls o, DI c U' H' σ ρ → XRep c.K U' H' x cls o → X x → E cls o H') {x dx : Addr} (nx : H x = none) (nd : H dx = none) (ne : dx ≠ x) :
    spM c.K c.tb A (.ref x :: vs) (upd (upd H dx (.own x)) x (.ins C dx [])) (fun v H3 => v = .non ∧ q (.ref x) H3) E := by
  have nx2 : upd H dx (.own x) x = none := by rw [upd_ne (fun z => ne z.symm)]; exact nx
  have g1 : Gr [] U H U (upd H dx (.own x)) := (Gr.refl I.vh).newM nd
  have g2 : Gr [] U H U (upd (upd H dx (.own x)) x (.ins C dx [])) := g1.trans ((Gr.refl g1.vh).newM nx2)
  have e0 : ownAs as vs = [] := ownAs_fz fz
  have eo : ownAs (.ob C dx [] [] [] :: as) (.ref x :: vs) = [x] := by
    show own (.ob C dx [] [] []) (.ref x) ++ ownAs as vs = [x]
    rw [e0]
    rfl
  have ux : U x = none := I.vh.free nx
  refine ⟨U, .ob C dx [] [] [] :: as, _, _, g2.vh, I.tbs.gr g2, .cons ⟨x, rfl, upd_same, rfl, rfl⟩ (paired_at rep.length fun n a v ha hv => ?_), by rw [eo]; simp, fun p hp => by rw [eo] at hp; rw [List.mem_singleton.mp hp]; exact ux, h dx, fun U' H' av v avs' g r nd' hf r2 n2 u2 kd per z => ?_, fun U' H' ex cls o avs' g xr r2 n2 u2 kd per z => ?_⟩
  · obtain ⟨w, e1, e2⟩ := Paired.at' rep n a ha
    rw [hv] at e1
    cases e1
    obtain ⟨d, rfl⟩ := fz a (List.mem_of_getElem? ha)
    exact e2
  · rw [eo] at g
    obtain ⟨rfl, z⟩ := z
    refine ⟨r, ?_⟩
    cases avs' with
    | nil => exact z.elim
    | cons a' avs' =>
      cases r2 with
      | cons ra rt =>
        have g3 : Gr [] U H U' H' := g2.comp g fun p hp => by rw [List.mem_singleton.mp hp]; exact .inr nx
        have hin : ∀ p ∈ own a' (.ref x), p ∈ ownAs (a' :: avs') (.ref x :: vs) := fun p hp => List.mem_append_left _ hp
        refine k U' H' a' (.ref x) g3.any (I.grow g3) ra ⟨(List.nodup_append.mp (show (own a' (.ref x) ++ ownAs avs' vs).Nodup from n2)).1, fun p hp => ⟨u2 p (hin p hp), ?_⟩⟩ z
        rcases per.1 p hp with y | y
        · have : p = x := by
            have y' : p ∈ [x] := y
            exact List.mem_singleton.mp y'
          rw [this]
          exact nx
        · exact g2.fresh y
  · rw [eo] at g
    have g3 : Gr [] U H U' H' := g2.comp g fun p hp => by rw [List.mem_singleton.mp hp]; exact .inr nx
    exact kx U' H' ex cls o (I.grow g3) xr z
def aMkN0 (C : Addr) (n m : Nat) (A : AFM) (arr : List KA) (r rk : AL) : AO := fun ρ Q X => r ρ (fun ds => rk ρ (fun es => ds.length = n ∧ es.length = m ∧ arr.all (kaOk m) = true ∧ mkQ C A Q (fun _ => False) (ds.map .fz ++ arr.map fun a => .fz (kaD es a))) X) X
theorem sim_mkN0 {C : Addr} {n m m' : Nat} {A : AFM} {arr : List KA} {tr tk : TA} {r rk : AL} {E : L2.St → XK} {gV : List V → List V → List V} (hm : m' = m) (hg : ∀ vs zs : List V, zs.length = m → gV vs zs = vs ++ arr.map (kaV zs)) (hr : SimL c tr r) (hk : SimL c tk rk) : SimO c (tMkNS C n m' (spM c.K c.tb A) gV E tr tk) (aMkN0 C n m A arr r rk) := fun U H σ ρ Q q I z k =>
  hr U H σ ρ _ _ I z fun U1 H1 ds vs g1 I1 r1 z1 => hk U1 H1 σ ρ _ _ I1 z1 fun U2 H2 es zs g2 I2 r2 z2 => by
    obtain ⟨l1, l2, ha, z3⟩ := z2
    have lz : zs.length = m := by rw [← r2.len]; exact l2
    refine ⟨by rw [← r1.len]; exact l1, lz.trans hm.symm, fun x dx nx nd ne => ?_⟩
    rw [hg _ _ lz]
    refine run_mk I2 (Paired.app (rs_paired (Rs.mono g2.vv _ _ r1)) (kas_rep r2 (by rw [lz]; exact ha))) (fun a ha' => ?_) z3 (fun U3 H3 av v g3 I3 r3 n3 z4 => k U3 H3 av v ((g1.trans g2).trans g3) I3 r3 (n3.back fun _ h => (g1.trans g2).fresh h) z4) (fun U3 H3 x cls o I3 xr z4 => z4.elim) nx nd ne
    rcases List.mem_append.mp ha' with h | h
    · obtain ⟨d, _, rfl⟩ := List.mem_map.mp h
      exact ⟨d, rfl⟩
    · obtain ⟨d, _, rfl⟩ := List.mem_map.mp h
      exact ⟨_, rfl⟩
def objQ (C : Addr) (m : Str) (Q : D → Prop) : D → Prop
  | .obj C' ns ds => C' = C ∧ ns.contains m = false ∧ Q (.obj C' ns ds)
  | _ => False
theorem objQ_of {C : Addr} {m : Str} {Q : D → Prop} {d : D} (h : objQ C m Q d) : ∃ ns ds, d = .obj C ns ds ∧ ns.contains m = false ∧ Q d := by
  cases d with
  | obj C' ns ds =>
    obtain ⟨rfl, h1, h2⟩ := h
    exact ⟨ns, ds, rfl, h1, h2⟩
  | _ => exact h.elim
theorem lookup_none {m : Str} : ∀ {ns : List Str} {xs : List V}, ns.contains m = false → (ns.zip xs).lookup m = none
  | [], _, _ => rfl
  | _ :: _, [], _ => rfl
  | n :: ns, x :: xs, h => by
    rw [List.contains_cons, Bool.or_eq_false_iff] at h
    show (match m == n with | true => some x | false => (ns.zip xs).lookup m) = none
    rw [h.1]
    exact lookup_none h.2
def aMe0 (C : Addr) (m : Str) (A : AF) (a : AE) (r : AA) : AO := fun ρ Q X => a ρ (objQ C m fun d => r ρ (fun as => callQ A ρ Q (fun _ => False) (.val d :: as)) X) X
theorem sim_me0 {C : Addr} {m : Str} {A : AF} {ta : TE} {a : AE} {tr : TA} {r : AA} {E : XK} (ha : SimE c ta a) (hr : SimA c tr r) : SimO c (tMeth C m (spD c.K c.tb A) [] E ta tr) (aMe0 C m A a r) := fun U H σ ρ Q q I z k =>
  ha U H σ ρ _ _ I z fun U1 H1 d v g1 I1 r1 z1 => by
    obtain ⟨ns, ds, rfl, nm, z2⟩ := objQ_of z1
    obtain ⟨p, dx, xs, rfl, hp, hl, hrs⟩ := r1
    refine ⟨p, dx, _, rfl, I1.vh _ _ hp, lookup_none nm, hr U1 H1 σ ρ _ _ I1 z2 fun U2 H2 as vs g2 I2 r2 z3 => ?_⟩
    rw [List.append_nil]
    have r1' : R c.K U2 (.obj C ns ds) (.ref p) := R.mono g2.vv _ _ ⟨p, dx, xs, rfl, hp, hl, hrs⟩
    exact run_spD I2 (as := .val (.obj C ns ds) :: as) (vs := .ref p :: vs) (.cons r1' r2) z3 (fun U3 H3 av v g3 I3 r3 n3 z4 => k U3 H3 av v ((g1.trans g2).trans g3) I3 r3 (n3.back fun _ h => (g1.trans g2).fresh h) z4) (fun _ _ _ _ _ _ _ z => z.elim)
def oIsC (C : Addr) : List D → (D → Prop) → Prop := fun ds Q => twoQ (fun d e => e = .adr C ∧ match d with
  | .obj C' _ _ => C' = C ∧ Q (.bl true)
  | .str _ => Q (.bl false)
  | _ => False) ds
structure IsiC (K : PySem.W.Frag) (C : Addr) : Prop where
  st : PySem.W.kitCls K (.type "str") (.ref C) = some false
  ha : PySem.W.findIn K (.ref C) "__class__" = some (some (.builtin "object.__class__"))
  hn : PySem.W.specialIn K (.builtin "object.__class__") "__get__" = some (some (.builtin "getset_descriptor.__get__"))
  ht : PySem.W.takesIn K (.builtin "object.__class__") = some true
  hm : PySem.W.mroIn K C (.type "object") = some true
  ss : PySem.W.subIn K (.type "str") (.ref C) = some false
theorem bu_isC {K : PySem.W.Frag} {C : Addr} (cl : Cls K C) (hs : IsiC K C) : BuD K (rIsi K) (oIsC C) := fun U H vs ds Q q s r z k => by
  obtain ⟨d, e, rfl, h, z9⟩ := twoQ_of z
  subst h
  obtain ⟨v, w, rfl, cd, ce⟩ := paired2 r
  rw [ce.adr]
  cases d with
  | obj C' ns es =>
    obtain ⟨rfl, z8⟩ := z9
    obtain ⟨p, dx, xs, rfl, hp, _⟩ := cd.obj s
    exact ⟨.ref p, .ref C', .ref C', .ref C', true, rfl, .own _, .base (.ins hp cl hs.ha hs.hn hs.ht hs.hm), if_pos (beq_self_eq_true _), k U H (.bl true) _ (Gr.refl s) rfl z8⟩
  | str x =>
    rw [cd.str]
    exact ⟨.str x, .ref C, .type "str", .ref C, false, rfl, .own _, .base (.str _), by
      unfold PySem.W.kitOne
      rw [if_neg (by intro h; cases h)]
      exact hs.st, k U H (.bl false) _ (Gr.refl s) rfl z9⟩
  | _ => exact z9.elim
end
def rOwnEq (C : Addr) (sp : Sp) (E : XK) : R2 := fun x y H Q => ∃ a dx fs, x = .ref a ∧ H a = some (.ins C dx fs) ∧ ((∃ b dy gs, y = .ref b ∧ H b = some (.ins C dy gs)) ∨ ∃ t, y = .str t) ∧ sp [x, y] H (fun v H' => (∃ b, v = .bl b) ∧ Q v H') E
section
variable {X : Cx} {CX : CXT} {n : Nat} {C f : Addr} {fd : FuncData} {ps : List Str} {sp : Sp} {E : XK}
theorem op_ownEq (F : FnOk X.prog X.w X.K X.mg X.base CX n f fd ps sp) (hr : Room n X.A) (i : IsiC X.K C) (hm : Meth X.K C "__eq__" f) (hb : Binds X.K fd ps []) (hx : Passes CX X E) : OpR X (compareOp .Eq) (rOwnEq C sp E) := by
  intro pins s σ H x y v u Q I rx ry h
  obtain ⟨a, dx, fs, rfl, ha, hy, hsp⟩ := h
  cases rx
  obtain ⟨mA, J, _⟩ := ins_get I.hok ha
  obtain ⟨od, J, _⟩ := J.look
  obtain ⟨m, hF⟩ := I.fr
  show wpAny (model X.prog X.w) X.A (richCompare .Eq (.ref a) u) (EP X pins σ Q) X.xe s
  have call : wpAny (model X.prog X.w) X.A (call (.ref f) [.ref a, u]) (PySem.W.CmpBack (EP X pins σ Q)) X.xe s := by
    have hl := F.len _ _ _ _ hsp
    have r2 : Vals [V.ref a, y] [Value.ref a, u] := .cons rfl (.cons ry .nil)
    refine wpAny_call (codeAny_mono (F.run X.A X.stack s H ⟨[.ref a, u], []⟩ [.ref a, u] [.ref a, y] _ E hr I.env0 (by
      have := hb s [.ref a, u] I.kIn (by simpa using hl)
      simpa using this) r2 hsp) fun r s' hq => ?_)
    cases r with
    | error e => exact hx pins σ H s e s' I hq
    | ok fl =>
      cases fl with
      | ret w =>
        obtain ⟨z, H', I', rz, ⟨b, rfl⟩, ex⟩ := I.after hq
        obtain rfl : w = .bool b := rz
        exact ⟨.bl b, H', I', rfl, ex⟩
      | next => exact False.elim hq
      | brk => exact False.elim hq
      | cont => exact False.elim hq
  rcases hy with ⟨b, dy, gs, rfl, hb'⟩ | ⟨t, rfl⟩
  · cases ry
    obtain ⟨mB, J', _⟩ := ins_get I.hok hb'
    obtain ⟨od', J', _⟩ := J'.look
    exact PySem.W.cmp_K (op := .Eq) (tb := .ref C) hr.units0 hF I.ok.mod.kin J J'.type (by simp [PySem.W.notFirst]) hm.at_ hm.fn call
  · obtain ⟨k, rfl⟩ := ry
    exact PySem.W.cmp_K (op := .Eq) (tb := .type "str") hr.units0 hF I.ok.mod.kin J (.of_pure rfl) (by unfold PySem.W.notFirst; rw [i.ss]; rfl) hm.at_ hm.fn call
end
section
variable {c : DC} {U H U' H' : Hp} {σ : L2.St} {ρ ρ' : Env}
def eqOk (C : Addr) : D → D → Prop
  | .obj C' _ _, .obj C2 _ _ => C' = C ∧ C2 = C
  | .obj C' _ _, .str _ => C' = C
  | _, _ => False
def blAV (Q : D → Prop) : AV → Prop
  | .fz (.bl b) => Q (.bl b)
  | _ => False
def aOwnEq (C : Addr) (A : AF) (a b : AE) : AE := fun ρ Q X => a ρ (fun d => b ρ (fun e => eqOk C d e ∧ A [.fz d, .fz e] (blAV Q) fun _ => False) X) X
theorem sim_ownEq {C : Addr} {A : AF} {ta tb : TE} {a b : AE} {E : XK} (ha : SimE c ta a) (hb : SimE c tb b) : SimE c (tOp (rOwnEq C (spD c.K c.tb A) E) ta tb) (aOwnEq C A a b) := fun U H σ ρ Q q I z k =>
  ha U H σ ρ _ _ I z fun U1 H1 d v g1 I1 r1 z1 => hb U1 H1 σ ρ _ _ I1 z1 fun U2 H2 e w g2 I2 r2 z2 => by
    obtain ⟨ok, z3⟩ := z2
    have r1' := R.mono g2.vv d v r1
    have call : spD c.K c.tb A [v, w] H2 (fun v H' => (∃ b, v = .bl b) ∧ q v H') E := by
      refine run_spD (Q := blAV Q) (X := fun _ => False) I2 (as := [.val d, .val e]) (vs := [v, w]) (.cons r1' (.cons r2 .nil)) ⟨Nat.zero_le _, z3⟩ (fun U3 H3 av v g3 I3 r3 n3 z4 => ?_) (fun _ _ _ _ _ _ _ z => z.elim)
      cases av with
      | fz y =>
        cases y with
        | bl b => exact ⟨⟨b, r3⟩, k U3 H3 _ v ((g1.trans g2).trans g3) I3 r3 z4⟩
        | _ => exact z4.elim
      | _ => exact z4.elim
    cases d with
    | obj C' ns ds =>
      obtain ⟨p, dx, xs, rfl, hp, _⟩ := r1'
      cases e with
      | obj C2 ns2 ds2 =>
        obtain ⟨rfl, rfl⟩ := ok
        obtain ⟨p2, dx2, xs2, rfl, hp2, _⟩ := r2
        exact ⟨p, dx, _, rfl, I2.vh _ _ hp, .inl ⟨p2, dx2, _, rfl, I2.vh _ _ hp2⟩, call⟩
      | str t =>
        have ok' : C' = C := ok
        subst ok'
        exact ⟨p, dx, _, rfl, I2.vh _ _ hp, .inr ⟨t, r2⟩, call⟩
      | _ => exact ok.elim
    | _ => exact ok.elim
def chD (x : Str) : List D := x.cps.toList.map fun c => .str ⟨#[c]⟩
def aItS (e : AE) : AL := fun ρ Q X => e ρ (strQ fun x => Q (chD x)) X
theorem sim_itS {te : TE} {e : AE} (h : SimE c te e) : SimI c (iStr te) (aItS e) := fun U H σ ρ Q q I z k => h U H σ ρ _ _ I z fun U1 H1 d v g1 I1 r1 z1 => by
  obtain ⟨x, rfl, z2⟩ := strQ_of z1
  refine ⟨x, r1, k U1 H1 _ (chD x) g1 I1 ⟨fun i H v H' => H' = H ∧ ∃ c, x.cps[i]? = some c ∧ v = .str ⟨#[c]⟩, ?_, fun i H v H' d U2 s s2 y e => ?_⟩ z2⟩
  · rw [show (chD x).length = x.cps.size by unfold chD; rw [List.length_map, Array.length_toList]]
    exact walk_str.mono (fun _ _ => trivial) (fun _ _ _ _ _ _ y => y)
  · obtain ⟨rfl, n, e1, rfl⟩ := y
    unfold chD at e
    rw [List.getElem?_map, Array.getElem?_toList, e1] at e
    cases e
    exact ⟨U2, Gr.refl s2, rfl⟩
def oLenS : List D → (D → Prop) → Prop := fun ds Q => oneQ (strQ fun x => x.length ≤ 1000000 ∧ Q (.int x.length)) ds
theorem bu_lenS {K : PySem.W.Frag} : BuD K (fun xs H Q => ∃ z, xs = [.str z] ∧ z.length ≤ sizeLine ∧ Q (.int z.length) H) oLenS := fun U H vs ds Q q s r z k => by
  obtain ⟨d, rfl, z0⟩ := oneQ_of z
  obtain ⟨x, rfl, z1, z2⟩ := strQ_of z0
  obtain ⟨v, rfl, cd⟩ := paired1 r
  exact ⟨x, by rw [cd.str], le_size z1, k U H (.int _) _ (Gr.refl s) rfl z2⟩
theorem sim_adr {a : Addr} : SimE c (tC (.ref a)) (aC (.adr a)) := sim_c fun _ => rfl
theorem rs_ints {K : PySem.W.Frag} : ∀ (ns : List Int), Rs K U (ns.map D.int) (ns.map V.int)
  | [] => rfl
  | n :: ns => ⟨_, _, rfl, rfl, rs_ints ns⟩
theorem sim_ctI {a : Addr} {ns : List Int} (h : ∀ H, SqT c.K H a (ns.map V.int)) : SimE c (tC (.ref a)) (aC (.tup (ns.map D.int))) := sim_c fun U => ⟨a, _, rfl, h U, rs_ints ns⟩
end
end SW
namespace SWS
open PySem PySem.Spec PyProof.Rows
end SWS
namespace SW
open PySem PySem.Spec PyProof.Rows L2 SWS
end SW
namespace SW
open PySem PySem.Spec PyProof.Rows L2 SWS
variable [QN]
def keyDecMem (y : Key) : (ks : List Key) → Decidable (y ∈ ks)
  | [] => Decidable.isFalse (by simp)
  | k :: ks => if h : y = k then Decidable.isTrue (h ▸ List.mem_cons_self) else match keyDecMem y ks with
    | Decidable.isTrue t => Decidable.isTrue (List.mem_cons_of_mem _ t)
    | Decidable.isFalse t => Decidable.isFalse fun z => (List.mem_cons.mp z).elim h t
instance (y : Key) (ks : List Key) : Decidable (y ∈ ks) := keyDecMem y ks
def dval : List Key → List D → Key → Option D
  | k :: ks, d :: ds, y => if k = y then some d else dval ks ds y
  | _, _, _ => none
/-- in its place, or at the end -/
def dputK (ks : List Key) (y : Key) : List Key := if y ∈ ks then ks else ks ++ [y]
def dputD : List Key → List D → Key → D → List D
  | k :: ks, d :: ds, y, e => if k = y then e :: ds else d :: dputD ks ds y e
  | _, _, _, e => [e]
def keyD : D → Option Key
  | .str x => some (.inr x)
  | .int i => some (.inl i)
  | _ => none
def dKQ (Q : List Key → List D → Prop) : D → Prop
  | .dK ks ds => Q ks ds
  | _ => False
section
variable {c : DC} {U H U' H' : Hp} {σ : L2.St} {ρ ρ' : Env} {ta tb : TE} {a b : AE}
/-- k in d, k not in d, d[k] -/
def aDIn (neg : Bool) (a b : AE) : AE := fun ρ Q X => a ρ (fun y => someQ (fun k => b ρ (dKQ fun ks ds => Q (.bl (if neg then !decide (k ∈ ks) else decide (k ∈ ks)))) X) (keyD y)) X
def aDGet (b a : AE) : AE := fun ρ Q X => b ρ (dKQ fun ks ds => a ρ (fun y => someQ (fun k => someQ Q (dval ks ds k)) (keyD y)) X) X
def fldIx (f : Str) : List Str → Nat → Option Nat
  | n :: ns, k => if n = f then some k else fldIx f ns (k + 1)
  | [], _ => none
def obfQ (ρ : Env) (i : Nat) (C : Addr) (f : Str) (Q : Addr → List Str → List V → List AV → Nat → AV → Prop) : Prop := obQ ρ i C fun dx ns ws as => match fldIx f ns 0 with
  | some k => match as[k]? with
    | some av => Q dx ns ws as k av
    | none => False
  | none => False
theorem obfQ_of {i : Nat} {C : Addr} {f : Str} {Q : Addr → List Str → List V → List AV → Nat → AV → Prop} (h : obfQ ρ i C f Q) : ∃ dx ns ws as k av, ρ[i]? = some (some (.ob C dx ns ws as)) ∧ fldIx f ns 0 = some k ∧ as[k]? = some av ∧ Q dx ns ws as k av := by
  obtain ⟨dx, ns, ws, as, e, h⟩ := obQ_of h
  split at h
  · split at h
    · exact ⟨dx, ns, ws, as, _, _, e, by assumption, by assumption, h⟩
    · exact h.elim
  · exact h.elim
def aFldS (i : Nat) (C : Addr) (f : Str) : AE := fun ρ Q _ => obfQ ρ i C f fun _ _ _ _ _ av => someQ Q av.sh
def aDNew : AO := fun _ Q _ => Q (.ok [] [])
/-- what is never come to -/
def aNever : AS := fun _ _ => False
theorem sim_never {t : TS} : SimS c t aNever := fun U H σ ρ N n hx I z P => z.elim
@[reducible] def DC.no (c : DC) : DC := ⟨c.K, c.ks, c.pk, c.pv, c.O, c.M, c.U0, c.H0, fun _ _ => False, c.E, c.tb⟩
theorem DI.no (I : DI c U H σ ρ) : DI c.no U H σ ρ := ⟨I.gr, I.rep, I.nd, I.out, I.par, ⟨fun _ _ _ _ _ _ _ _ _ _ _ _ z => z.elim, I.ko.tb⟩, I.ow, I.on⟩
def kD : Key → D
  | .inl i => .int i
  | .inr x => .str x
def okQ (Q : List Key → List D → Prop) : AV → Prop
  | .ok ks ds => Q ks ds
  | _ => False
/-- a comprehension over a dict of the instance in a slot -/
def aLcD (i : Nat) (C : Addr) (f : Str) (ag : AG) (at' : AT) (e : AE) (vs : List Nat) : AO := fun ρ Q _ => obfQ ρ i C f fun dx ns ws as n av => okQ (fun ks _ => aComp ag at' e (wipeA (ρ.set i (some (.ob C dx ns ws (as.set n .un)))) vs) (fun _ => False) (ks.map kD) [] (fun acc => Q (.ol acc))) av
def aDPutF (i : Nat) (C : Addr) (f : Str) (ky e : AE) : AS := fun N ρ => e ρ (fun d => obfQ ρ i C f fun dx ns ws as n av => okQ (fun ks ds => ky ρ (fun y => someQ (fun kk => ks.length < 1000000 ∧ ks.Nodup ∧ N.nx (ρ.set i (some (.ob C dx ns ws (as.set n (.ok (dputK ks kk) (dputD ks ds kk d)))))) ) (keyD y)) (fun x => N.ex x ρ)) av) (fun x => N.ex x ρ)
def mMe (C : Addr) (m : Str) (A : AFM) (i : Nat) (r : AA) : AMO := fun ρ Q X => obQ ρ i C fun _ ns _ _ => ns.contains m = false ∧ r ρ (fun as => callM A ρ Q X (.slot i :: as)) (fun x => X x ρ)
end
section
variable {X : Cx} {CX : CXT} {k n : Nat} {f C : Addr} {fd : FuncData} {ps ks : List Str} {sp : Sp} {E : L2.St → XK} {m : Str} {pos apos : Pos} {e o : Expr} {es : List Expr} {kws : List Keyword} {ta : TE} {t tk : TA} {g : List Value → List Value → List Value} {gV : List V → List V → List V}
/-- a statement that is never come to -/
def tNever : TS := fun _ _ _ => False
theorem ps_never {st : Stmt} : PS X st tNever := ⟨fun pins s σ H D I hw => hw.elim⟩
end
section
variable {c : DC} {U H U' H' : Hp} {σ : L2.St} {ρ ρ' : Env}
def mMe0 (C : Addr) (m : Str) (A : AFM) (i : Nat) (r : AA) : AMO := fun ρ Q X => obQ ρ i C fun _ ns _ _ => ns.contains m = false ∧ r ρ (fun as => callM A ρ Q (fun _ _ => False) (.slot i :: as)) (fun x => X x ρ)
def mMeN0 (C : Addr) (m : Str) (n mm : Nat) (A : AFM) (arr : List KA) (i : Nat) (r rk : AL) : AMO := fun ρ Q X => obQ ρ i C fun _ ns _ _ => ns.contains m = false ∧ r ρ (fun ds => rk ρ (fun es => ds.length = n ∧ es.length = mm ∧ arr.all (kaOk mm) = true ∧ callM A ρ Q (fun _ _ => False) (.slot i :: (ds.map .val ++ arr.map fun a => .val (kaD es a)))) (fun x => X x ρ)) (fun x => X x ρ)
/-- C() -/
def aMk00 (C : Addr) (A : AFM) : AO := fun _ Q _ => mkQ C A Q (fun _ => False) []
theorem rs_strs {K : PySem.W.Frag} : ∀ (xs : List Str), Rs K U (xs.map D.str) (xs.map V.str)
  | [] => rfl
  | x :: xs => ⟨_, _, rfl, rfl, rs_strs xs⟩
def gL (n : Nat) (r : AGs) : AG := fun d ρ Q => match d with | .lst ds => ds.length = n ∧ r ds ρ Q | _ => False
theorem sim_gL {js : List Nat} {n : Nat} {gs : TGs} {ags : AGs} (hs : SimGs c js gs ags) : SimG c js (gLst c.K n gs) (gL n ags) := fun U H σ ρ d v Q q I r z k => by
  cases d with
  | lst ds =>
    obtain ⟨a, xs, rfl, h1, h2⟩ := r
    obtain ⟨z1, z2⟩ : ds.length = n ∧ ags ds ρ Q := z
    exact ⟨a, xs, rfl, SqL.of (I.vh _ _ h1), by rw [← h2.len]; exact z1, hs U H σ ρ ds xs Q q I h2 z2 k⟩
  | _ => exact (show False from z).elim
theorem pg_lstK {X : Cx} {K : PySem.W.Frag} {pos : Pos} {es : List Expr} {k : Nat} {t : TGs} {n : Nat} (h : X.K = K) (hc : X.calm = true) (hh : PGs X es t) (hn : (assignEach es X.env).length = n := by rfl) (hst : (assignEach es X.env).findIdx? (·.1) = none := by rfl) : PG X (.Tuple es k pos) (gLst K n t) := by subst h; exact pg_lst hc hh hn hst
theorem w_gL {ρ : Env} {n : Nat} {rs : AGs} {P : Env → Prop} {ds : List D} (h : ds.length = n) (q : rs ds ρ P) : gL n rs (.lst ds) ρ P := ⟨h, q⟩
/-- a tuple that is read is as good as one that never changes -/
def aTupE (e : AE) : AE := fun ρ Q X => e ρ (tupQ fun ds => Q (.tup ds)) X
/-- a method with defaults alone, on the instance in a slot; nothing is raised -/
def mMeD0 (C : Addr) (m : Str) (A : AFM) (ns0 : List Int) (i : Nat) (r : AL) : AMO := fun ρ Q X => obQ ρ i C fun _ ns _ _ => ns.contains m = false ∧ r ρ (fun ds => callM A ρ Q (fun _ _ => False) (.slot i :: (ds.map .val ++ ns0.map fun a => .val (.int a)))) (fun x => X x ρ)
end
end SW
namespace SW
open PySem PySem.Spec PyProof.Rows L2 SWS
variable [QN]
section
variable {ρ : Env} {nx : Env → Prop} {rt : AV → Env → Prop} {bk ct : Env → Prop} {ex : Exn → Env → Prop} {i j k : Nat} {a b e : AE} {Q : D → Prop} {O : AV → Prop} {X : Exn → Prop} {C dx : Addr} {f : Str} {ns : List Str} {ws : List V} {as : List AV} {av : AV} {d : D} {ks : List Key} {ds : List D}
theorem w_dInF (q : a ρ (fun y => someQ (fun k => b ρ (dKQ fun ks _ => Q (.bl (decide (k ∈ ks)))) X) (keyD y)) X) : aDIn false a b ρ Q X := q
instance s_dInF  : Stp (aDIn false a b ρ Q X) (a ρ (fun y => someQ (fun k => b ρ (dKQ fun ks _ => Q (.bl (decide (k ∈ ks)))) X) (keyD y)) X) := ⟨w_dInF⟩
theorem w_dInT (q : a ρ (fun y => someQ (fun k => b ρ (dKQ fun ks _ => Q (.bl (!decide (k ∈ ks)))) X) (keyD y)) X) : aDIn true a b ρ Q X := q
instance s_dInT  : Stp (aDIn true a b ρ Q X) (a ρ (fun y => someQ (fun k => b ρ (dKQ fun ks _ => Q (.bl (!decide (k ∈ ks)))) X) (keyD y)) X) := ⟨w_dInT⟩
theorem w_dGet (q : b ρ (dKQ fun ks ds => a ρ (fun y => someQ (fun k => someQ Q (dval ks ds k)) (keyD y)) X) X) : aDGet b a ρ Q X := q
instance s_dGet  : Stp (aDGet b a ρ Q X) (b ρ (dKQ fun ks ds => a ρ (fun y => someQ (fun k => someQ Q (dval ks ds k)) (keyD y)) X) X) := ⟨w_dGet⟩
theorem w_keyS {P : Key → Prop} {x : Str} (q : P (.inr x)) : someQ P (keyD (.str x)) := q
instance s_keyS {P : Key → Prop} {x : Str} : Stp (someQ P (keyD (.str x))) (P (.inr x)) := ⟨w_keyS⟩
theorem w_dKQ {P : List Key → List D → Prop} (q : P ks ds) : dKQ P (.dK ks ds) := q
instance s_dKQ {P : List Key → List D → Prop} : Stp (dKQ P (.dK ks ds)) (P ks ds) := ⟨w_dKQ⟩
theorem w_obfQ {P : Addr → List Str → List V → List AV → Nat → AV → Prop} (h1 : ρ[i]? = some (some (.ob C dx ns ws as))) (h2 : fldIx f ns 0 = some k) (h3 : as[k]? = some av) (q : P dx ns ws as k av) : obfQ ρ i C f P := by
  unfold obfQ obQ
  rw [h1]
  refine ⟨rfl, ?_⟩
  dsimp only
  rw [h2]
  dsimp only
  rw [h3]
  exact q
theorem w_fldS (h1 : ρ[i]? = some (some (.ob C dx ns ws as))) (h2 : fldIx f ns 0 = some k) (h3 : as[k]? = some av) (h4 : av.sh = some d) (q : Q d) : aFldS i C f ρ Q X := w_obfQ h1 h2 h3 (by show someQ Q av.sh; rw [h4]; exact q)
theorem w_lcD {ag : AG} {at' : AT} {vs : List Nat} (h1 : ρ[i]? = some (some (.ob C dx ns ws as))) (h2 : fldIx f ns 0 = some k) (h3 : as[k]? = some (.ok ks ds)) (q : aComp ag at' e (wipeA (ρ.set i (some (.ob C dx ns ws (as.set k .un)))) vs) (fun _ => False) (ks.map kD) [] (fun acc => O (.ol acc))) : aLcD i C f ag at' e vs ρ O X := w_obfQ h1 h2 h3 q
theorem w_dPutF (q : e ρ (fun d => obfQ ρ i C f fun dx ns ws as n av => okQ (fun ks ds => a ρ (fun y => someQ (fun kk => ks.length < 1000000 ∧ ks.Nodup ∧ nx (ρ.set i (some (.ob C dx ns ws (as.set n (.ok (dputK ks kk) (dputD ks ds kk d))))))) (keyD y)) (fun x => ex x ρ)) av) (fun x => ex x ρ)) : aDPutF i C f a e ⟨nx, rt, bk, ct, ex⟩ ρ := q
instance s_dPutF  : Stp (aDPutF i C f a e ⟨nx, rt, bk, ct, ex⟩ ρ) (e ρ (fun d => obfQ ρ i C f fun dx ns ws as n av => okQ (fun ks ds => a ρ (fun y => someQ (fun kk => ks.length < 1000000 ∧ ks.Nodup ∧ nx (ρ.set i (some (.ob C dx ns ws (as.set n (.ok (dputK ks kk) (dputD ks ds kk d))))))) (keyD y)) (fun x => ex x ρ)) av) (fun x => ex x ρ)) := ⟨w_dPutF⟩
theorem w_okQ {P : List Key → List D → Prop} (q : P ks ds) : okQ P (.ok ks ds) := q
instance s_okQ {P : List Key → List D → Prop} : Stp (okQ P (.ok ks ds)) (P ks ds) := ⟨w_okQ⟩
theorem w_mk00 {A : AFM} (q : mkQ C A O (fun _ => False) []) : aMk00 C A ρ O X := q
instance s_mk00 {A : AFM} : Stp (aMk00 C A ρ O X) (mkQ C A O (fun _ => False) []) := ⟨w_mk00⟩
end
section
variable {ρ : Env} {O : AV → Env → Prop} {X : Exn → Env → Prop} {C dx : Addr} {m : Str} {A : AFM} {i n mm : Nat} {r : AA} {ra rk : AL} {arr : List KA} {ns : List Str} {ws : List V} {as : List AV}
theorem w_obQ {P : Addr → List Str → List V → List AV → Prop} (h1 : ρ[i]? = some (some (.ob C dx ns ws as))) (q : P dx ns ws as) : obQ ρ i C P := by
  unfold obQ
  rw [h1]
  exact ⟨rfl, q⟩
theorem m_me (h1 : ρ[i]? = some (some (.ob C dx ns ws as))) (h2 : ns.contains m = false) (q : r ρ (fun as => callM A ρ O X (.slot i :: as)) (fun x => X x ρ)) : mMe C m A i r ρ O X := w_obQ h1 ⟨h2, q⟩
theorem m_me0 (h1 : ρ[i]? = some (some (.ob C dx ns ws as))) (h2 : ns.contains m = false) (q : r ρ (fun as => callM A ρ O (fun _ _ => False) (.slot i :: as)) (fun x => X x ρ)) : mMe0 C m A i r ρ O X := w_obQ h1 ⟨h2, q⟩
theorem m_meN0 (h1 : ρ[i]? = some (some (.ob C dx ns ws as))) (h2 : ns.contains m = false) (q : ra ρ (fun ds => rk ρ (fun es => ds.length = n ∧ es.length = mm ∧ arr.all (kaOk mm) = true ∧ callM A ρ O (fun _ _ => False) (.slot i :: (ds.map .val ++ arr.map fun a => .val (kaD es a)))) (fun x => X x ρ)) (fun x => X x ρ)) : mMeN0 C m n mm A arr i ra rk ρ O X := w_obQ h1 ⟨h2, q⟩
end
end SW
namespace SW
open PySem PySem.Spec PyProof.Rows L2 SWS
end SW
namespace SW
open PySem PySem.Spec PyProof.Rows L2 SWS
variable [QN]
section
variable {c : DC} {U H : Hp} {σ : L2.St} {ρ : Env}
def lenQ (Q : D → Env → Prop) : AV → Env → Prop
  | .fz (.int n), ρ => (0 ≤ n ∧ n < 2 ^ 63) ∧ Q (.int n) ρ
  | _, _ => False
def mLenOwn (C : Addr) (A : AFM) (i : Nat) : AM := fun ρ Q _ => obQ ρ i C fun _ _ _ _ => callM A ρ (lenQ Q) (fun _ _ => False) [.slot i]
/-- len(d) -/
def oLenD : List D → (D → Prop) → Prop := fun ds Q => oneQ (dKQ fun ks _ => Q (.int ks.length)) ds
end
end SW
namespace SW
open PySem PySem.Spec PyProof.Rows L2 SWS
variable [QN]
abbrev AMT := Env → (Bool → Env → Prop) → (Exn → Env → Prop) → Prop
section
variable {c : DC} {t u : TT} {ta tb te : TE} {m m1 : AM} {a b : AE} {e e1 e2 : AMT} {st su : TS} {sa sb : AS}
def mT (e : AT) : AMT := fun ρ Q X => e ρ (fun b => Q b ρ) (fun x => X x ρ)
def mTest (m : AM) : AMT := fun ρ Q X => m ρ (fun d ρ1 => blQ (fun b => Q b ρ1) d) X
def mNot (e : AMT) : AMT := fun ρ Q X => e ρ (fun b ρ1 => Q (!b) ρ1) X
def mOr (e1 e2 : AMT) : AMT := fun ρ Q X => e1 ρ (fun b ρ1 => cond b (Q true ρ1) (e2 ρ1 Q X)) X
def mAnd (e1 e2 : AMT) : AMT := fun ρ Q X => e1 ρ (fun b ρ1 => cond b (e2 ρ1 Q X) (Q false ρ1)) X
def mIf (e : AMT) (sa sb : AS) : AS := fun N ρ => e ρ (fun b ρ1 => cond b (sa N ρ1) (sb N ρ1)) N.ex
/-- an operator whose left side changes slots -/
def mOpL (f : D → D → (D → Prop) → Prop) (m : AM) (b : AE) : AM := fun ρ Q X => m ρ (fun d ρ1 => b ρ1 (fun e => f d e (fun y => Q y ρ1)) (fun x => X x ρ1)) X
end
section
variable {ρ : Env} {Q : D → Env → Prop} {QT : Bool → Env → Prop} {O : AV → Env → Prop} {X : Exn → Env → Prop} {nx bk ct : Env → Prop} {rt : AV → Env → Prop} {ex : Exn → Env → Prop} {m : AM} {a b : AE} {e e1 e2 : AMT} {sa sb : AS} {C dx : Addr} {ns : List Str} {ws : List V} {as : List AV} {i : Nat} {A : AFM}
theorem m_ifM (q : e ρ (fun x ρ1 => cond x (sa ⟨nx, rt, bk, ct, ex⟩ ρ1) (sb ⟨nx, rt, bk, ct, ex⟩ ρ1)) ex) : mIf e sa sb ⟨nx, rt, bk, ct, ex⟩ ρ := q
instance sm_ifM  : Stp (mIf e sa sb ⟨nx, rt, bk, ct, ex⟩ ρ) (e ρ (fun x ρ1 => cond x (sa ⟨nx, rt, bk, ct, ex⟩ ρ1) (sb ⟨nx, rt, bk, ct, ex⟩ ρ1)) ex) := ⟨m_ifM⟩
theorem m_T {t : AT} (q : t ρ (fun x => QT x ρ) (fun x => X x ρ)) : mT t ρ QT X := q
instance sm_T {t : AT} : Stp (mT t ρ QT X) (t ρ (fun x => QT x ρ) (fun x => X x ρ)) := ⟨m_T⟩
theorem m_test (q : m ρ (fun d ρ1 => blQ (fun x => QT x ρ1) d) X) : mTest m ρ QT X := q
instance sm_test  : Stp (mTest m ρ QT X) (m ρ (fun d ρ1 => blQ (fun x => QT x ρ1) d) X) := ⟨m_test⟩
theorem m_not (q : e ρ (fun x ρ1 => QT (!x) ρ1) X) : mNot e ρ QT X := q
instance sm_not  : Stp (mNot e ρ QT X) (e ρ (fun x ρ1 => QT (!x) ρ1) X) := ⟨m_not⟩
theorem m_or (q : e1 ρ (fun x ρ1 => cond x (QT true ρ1) (e2 ρ1 QT X)) X) : mOr e1 e2 ρ QT X := q
instance sm_or  : Stp (mOr e1 e2 ρ QT X) (e1 ρ (fun x ρ1 => cond x (QT true ρ1) (e2 ρ1 QT X)) X) := ⟨m_or⟩
theorem m_and (q : e1 ρ (fun x ρ1 => cond x (e2 ρ1 QT X) (QT false ρ1)) X) : mAnd e1 e2 ρ QT X := q
instance sm_and  : Stp (mAnd e1 e2 ρ QT X) (e1 ρ (fun x ρ1 => cond x (e2 ρ1 QT X) (QT false ρ1)) X) := ⟨m_and⟩
theorem m_opL {f : D → D → (D → Prop) → Prop} (q : m ρ (fun d ρ1 => b ρ1 (fun y => f d y (fun z => Q z ρ1)) (fun x => X x ρ1)) X) : mOpL f m b ρ Q X := q
instance sm_opL {f : D → D → (D → Prop) → Prop} : Stp (mOpL f m b ρ Q X) (m ρ (fun d ρ1 => b ρ1 (fun y => f d y (fun z => Q z ρ1)) (fun x => X x ρ1)) X) := ⟨m_opL⟩
theorem m_lenOwn (h1 : ρ[i]? = some (some (.ob C dx ns ws as))) (q : callM A ρ (lenQ Q) (fun _ _ => False) [.slot i]) : mLenOwn C A i ρ Q X := w_obQ h1 q
theorem m_meD0 {mn : Str} {ns0 : List Int} {r : AL} (h1 : ρ[i]? = some (some (.ob C dx ns ws as))) (h2 : ns.contains mn = false) (q : r ρ (fun ds => callM A ρ O (fun _ _ => False) (.slot i :: (ds.map .val ++ ns0.map fun a => .val (.int a)))) (fun x => X x ρ)) : mMeD0 C mn A ns0 i r ρ O X := w_obQ h1 ⟨h2, q⟩
theorem w_tupE {XE : Exn → Prop} {QE : D → Prop} (q : a ρ (tupQ fun ds => QE (.tup ds)) XE) : aTupE a ρ QE XE := q
instance s_tupE {XE : Exn → Prop} {QE : D → Prop} : Stp (aTupE a ρ QE XE) (a ρ (tupQ fun ds => QE (.tup ds)) XE) := ⟨w_tupE⟩
theorem w_lenD {ks : List Key} {ds : List D} {QE : D → Prop} (q : QE (.int ks.length)) : oLenD [.dK ks ds] QE := q
instance s_lenD {ks : List Key} {ds : List D} {QE : D → Prop} : Stp (oLenD [.dK ks ds] QE) (QE (.int ks.length)) := ⟨w_lenD⟩
end
end SW
namespace SW
open PySem PySem.Spec PyProof.Rows L2 SWS
variable [QN]
open Sem (wp)
open AutoSeq1 (wpAny_loadPart')
section
variable {c : DC} {U H : Hp} {σ : L2.St} {ρ : Env}
def aEnumT (r : AL) : AL := fun ρ Q X => r ρ (oneQ (tupQ fun xs => Q (enumD xs))) X
def rngC (lo st : Int) (n : Nat) : List D := (List.range n).map fun i => .int (lo + (i : Nat) * st)
def threeQ (Q : D → D → D → Prop) : List D → Prop
  | [a, b, e] => Q a b e
  | _ => False
/-- range(i, j, k), n items -/
def aRng3 (r : AL) : AL := fun ρ Q X => r ρ (threeQ fun a b e => intQ (fun i => intQ (fun j => intQ (fun k => ∃ n : Nat, RgC i j k n ∧ Q (rngC i k n)) e) b) a) X
/-- an operator whose right side changes slots -/
def mOpRO (f : D → D → (AV → Prop) → Prop) (a : AE) (m : AM) : AMO := fun ρ Q X => a ρ (fun d => m ρ (fun e ρ1 => f d e (fun y => Q y ρ1)) X) (fun x => X x ρ)
end
section
variable {ρ : Env} {Q : D → Env → Prop} {L : List D → Prop} {O : AV → Env → Prop} {X : Exn → Env → Prop} {XE : Exn → Prop} {m : AM} {a : AE} {r : AL}
theorem w_enumT (q : r ρ (oneQ (tupQ fun xs => L (enumD xs))) XE) : aEnumT r ρ L XE := q
instance s_enumT  : Stp (aEnumT r ρ L XE) (r ρ (oneQ (tupQ fun xs => L (enumD xs))) XE) := ⟨w_enumT⟩
theorem w_rng3 (q : r ρ (threeQ fun a b e => intQ (fun i => intQ (fun j => intQ (fun k => ∃ n : Nat, RgC i j k n ∧ L (rngC i k n)) e) b) a) XE) : aRng3 r ρ L XE := q
instance s_rng3  : Stp (aRng3 r ρ L XE) (r ρ (threeQ fun a b e => intQ (fun i => intQ (fun j => intQ (fun k => ∃ n : Nat, RgC i j k n ∧ L (rngC i k n)) e) b) a) XE) := ⟨w_rng3⟩
theorem w_threeQ {P : D → D → D → Prop} {d1 d2 d3 : D} (q : P d1 d2 d3) : threeQ P [d1, d2, d3] := q
instance s_threeQ {P : D → D → D → Prop} {d1 d2 d3 : D} : Stp (threeQ P [d1, d2, d3]) (P d1 d2 d3) := ⟨w_threeQ⟩
theorem w_fltB {QE : D → Prop} {x : Bool} (q : QE (.bl x)) : fltQ QE (.fz (.bl x)) := ⟨rfl, q⟩
instance s_fltB {QE : D → Prop} {x : Bool} : Stp (fltQ QE (.fz (.bl x))) (QE (.bl x)) := ⟨w_fltB⟩
theorem m_opRO {f : D → D → (AV → Prop) → Prop} (q : a ρ (fun d => m ρ (fun e ρ1 => f d e (fun y => O y ρ1)) X) (fun x => X x ρ)) : mOpRO f a m ρ O X := q
instance sm_opRO {f : D → D → (AV → Prop) → Prop} : Stp (mOpRO f a m ρ O X) (a ρ (fun d => m ρ (fun e ρ1 => f d e (fun y => O y ρ1)) X) (fun x => X x ρ)) := ⟨m_opRO⟩
end
end SW
namespace SW
open PySem PySem.Spec PyProof.Rows L2
variable [QN]
def leD (d e : D) : Bool := PySem.W.dataLe false toPy d e
def alikeD (ds : List D) : Bool := ds.all fun d => ds.all fun e => PySem.W.alike (toPy d) (toPy e)
def tupNE : D → Bool
  | .tup (_ :: _) => true
  | _ => false
def noTup : D → Bool
  | .int _ => true
  | .bl _ => true
  | .str _ => true
  | .lst _ => true
  | _ => false
def sortableD (ds : List D) : Bool := ds.all tupNE || ds.all noTup
end SW
namespace SW
open PySem PySem.Spec PyProof.Rows L2
variable [QN]
section
variable {X : Cx} {pins : List (Addr × Obj)} {σ : L2.St} {H : Hp} {s : Shared}
/-- tables grow, all else stands -/
structure Grown (H H' : Hp) : Prop where
  keep : ∀ b o, H b = some o → (∀ ps, o ≠ .tbl ps) → H' b = some o
  tab : ∀ P, LamX.TabS H P (QN.qn P) → LamX.TabS H' P (QN.qn P)
  dom : ∀ b, H b ≠ none → H' b ≠ none
theorem Grown.refl (H : Hp) : Grown H H := ⟨fun _ _ h _ => h, fun _ h => h, fun _ h => h⟩
end
/-- the keys of the items -/
def KeyAt (H : Hp) (C : Addr) (f : Str) (x : V) (k : Str) : Prop := ∃ p dx fs, x = .ref p ∧ H p = some (.ins C dx fs) ∧ fs.lookup f = some (.str k)
theorem KeyAt.grown {H H' : Hp} {C : Addr} {f : Str} {x : V} {k : Str} (g : Grown H H') (h : KeyAt H C f x k) : KeyAt H' C f x k := by
  obtain ⟨p, dx, fs, e1, e2, e3⟩ := h
  exact ⟨p, dx, fs, e1, g.keep _ _ e2 (ntb rfl), e3⟩
theorem SqL.grown {K : PySem.W.Frag} {H H' : Hp} {a : Addr} {xs : List V} (g : Grown H H') (h : SqL K H a xs) : SqL K H' a xs := by
  rcases h with (h | ⟨o, h⟩) | h
  · exact .inl (.inl (g.keep _ _ h (ntb rfl)))
  · exact .inl (.inr ⟨o, g.keep _ _ h (ntb rfl)⟩)
  · exact .inr h
def leK {α : Type} (a b : α × Str) : Bool := PySem.W.dataLe false (fun x : α × Str => PyData.str x.2) a b
end SW
namespace SWS
open PySem PySem.Spec PyProof.Rows L2
/-- every st-th item -/
def pickS {α : Type} (xs : List α) (lo hi : Option Int) (st : Int) : List α :=
  (List.range (Builtin.Slice.slicePlaces (Builtin.Slice.sliceAdjust lo hi st (xs.length : Nat)).1 (Builtin.Slice.sliceAdjust lo hi st (xs.length : Nat)).2 st)).filterMap fun k : Nat => xs[((Builtin.Slice.sliceAdjust lo hi st (xs.length : Nat)).1 + (k : Int) * st).toNat]?
end SWS
namespace SW
open PySem PySem.Spec PyProof.Rows L2 SWS
variable [QN]
section
variable {c : DC} {te : TE} {e : AE} {tl th : TO} {l h : AP}
def aSlT (st : Int) (a : AE) (lo hi : AP) : AE := fun ρ Q X => a ρ (tupQ fun ds => lo ρ (fun l => hi ρ (fun h => (pickS ds l h st).length ≤ 1000000 ∧ Q (.tup (pickS ds l h st))) X) X) X
def keyOf1 (C : Addr) (f : Str) : D → Option Str
  | .obj C' ns ds => if C' = C then (match lookD f ns ds with | some (.str k) => some k | _ => none) else none
  | _ => none
def keysOf (C : Addr) (f : Str) : List D → Option (List Str)
  | [] => some []
  | d :: ds => match keyOf1 C f d, keysOf C f ds with
    | some k, some ks => some (k :: ks)
    | _, _ => none
def sortK {α : Type} (ds : List α) (ks : List Str) : List α := ((ds.zip ks).mergeSort leK).map (·.1)
def aSortK (C : Addr) (f : Str) (a : AE) : AO := fun ρ Q X => a ρ (lstQ fun ds => someQ (fun ks => Q (.ol (sortK ds ks))) (keysOf C f ds)) X
theorem w_stT {ρ : Env} {Q : D → Prop} {X : Exn → Prop} {st : Int} (q : e ρ (tupQ fun ds => l ρ (fun lo => h ρ (fun hi => (pickS ds lo hi st).length ≤ 1000000 ∧ Q (.tup (pickS ds lo hi st))) X) X) X) : aSlT st e l h ρ Q X := q
instance s_stT {ρ : Env} {Q : D → Prop} {X : Exn → Prop} {st : Int} : Stp (aSlT st e l h ρ Q X) (e ρ (tupQ fun ds => l ρ (fun lo => h ρ (fun hi => (pickS ds lo hi st).length ≤ 1000000 ∧ Q (.tup (pickS ds lo hi st))) X) X) X) := ⟨w_stT⟩
theorem w_sortK {ρ : Env} {Q : AV → Prop} {X : Exn → Prop} {C : Addr} {f : Str} (q : e ρ (lstQ fun ds => someQ (fun ks => Q (.ol (sortK ds ks))) (keysOf C f ds)) X) : aSortK C f e ρ Q X := q
instance s_sortK {ρ : Env} {Q : AV → Prop} {X : Exn → Prop} {C : Addr} {f : Str} : Stp (aSortK C f e ρ Q X) (e ρ (lstQ fun ds => someQ (fun ks => Q (.ol (sortK ds ks))) (keysOf C f ds)) X) := ⟨w_sortK⟩
end
end SW
namespace SWS
open PySem PySem.Spec PyProof.Rows L2
end SWS
namespace SW
open PySem PySem.Spec PyProof.Rows L2 SWS
variable [QN]
/-- a clause: its texts, its readings, the slots of its names and of those behind it -/
structure Cl where
  tg : Expr
  iter : Expr
  fs : List Expr
  wi : TI
  g : TG
  tt : TT
  vs : List Nat
def hvs : List Cl → List Nat
  | [] => []
  | c :: _ => c.vs
end SW
namespace SW
open PySem PySem.Spec PyProof.Rows L2 SWS
variable [QN]
structure CA where
  it : AL
  g : AG
  tt : AT
  vs : List Nat
def aWk (f : D → List D → (List D → Prop) → Prop) : List D → List D → (List D → Prop) → Prop
  | [], acc, K => K acc
  | d :: ds, acc, K => f d acc fun acc' => aWk f ds acc' K
def aCl (e : AE) : List CA → Env → (Exn → Prop) → List D → (List D → Prop) → Prop
  | [], ρ, X, acc, K => e ρ (fun d => acc.length < 1000000 ∧ K (acc ++ [d])) X
  | a :: r, ρ, X, acc, K => a.it ρ (fun ds => aWk (fun d acc K => a.g d (wipeA ρ a.vs) fun ρ2 => a.tt ρ2 (fun b => cond b (aCl e r ρ2 X acc K) (K acc)) X) ds acc K) X
def aLcN (cs : List CA) (e : AE) : AO := fun ρ Q X => aCl e cs ρ X [] fun acc => Q (.ol acc)
section
variable {c : DC} {U H U' H' : Hp} {σ : L2.St} {ρ : Env} {te : TE} {e : AE}
theorem w_lcN {O : AV → Prop} {X : Exn → Prop} {cs : List CA} (q : aCl e cs ρ X [] fun acc => O (.ol acc)) : aLcN cs e ρ O X := q
instance s_lcN {O : AV → Prop} {X : Exn → Prop} {cs : List CA} : Stp (aLcN cs e ρ O X) (aCl e cs ρ X [] fun acc => O (.ol acc)) := ⟨w_lcN⟩
end
end SW
namespace SW
open PySem PySem.Spec PyProof.Rows L2 SWS
variable [QN]
section
variable {c : DC} {U H U' H' : Hp} {σ : L2.St} {ρ : Env} {tr tk : TA} {r rk : AL}
def aCallN (n m : Nat) (A : AF) (arr : List KA) (r rk : AL) : AO := fun ρ Q X => r ρ (fun ds => rk ρ (fun es => ds.length = n ∧ es.length = m ∧ arr.all (kaOk m) = true ∧ A ((ds ++ arr.map (kaD es)).map .fz) Q X) X) X
def aCallN0 (n m : Nat) (A : AF) (arr : List KA) (r rk : AL) : AO := fun ρ Q X => r ρ (fun ds => rk ρ (fun es => ds.length = n ∧ es.length = m ∧ arr.all (kaOk m) = true ∧ A ((ds ++ arr.map (kaD es)).map .fz) Q fun _ => False) X) X
/-- the keywords left out: the defaults' values behind -/
def aCallD (A : AF) (dd : List D) (r : AL) : AO := fun ρ Q X => r ρ (fun ds => A ((ds ++ dd).map .fz) Q X) X
def aCallD0 (A : AF) (dd : List D) (r : AL) : AO := fun ρ Q X => r ρ (fun ds => A ((ds ++ dd).map .fz) Q fun _ => False) X
variable {O : AV → Prop} {XE : Exn → Prop} {A : AF} {n m : Nat} {arr : List KA} {dd : List D}
theorem w_callN0 (q : r ρ (fun ds => rk ρ (fun es => ds.length = n ∧ es.length = m ∧ arr.all (kaOk m) = true ∧ A ((ds ++ arr.map (kaD es)).map .fz) O fun _ => False) XE) XE) : aCallN0 n m A arr r rk ρ O XE := q
instance s_callN0  : Stp (aCallN0 n m A arr r rk ρ O XE) (r ρ (fun ds => rk ρ (fun es => ds.length = n ∧ es.length = m ∧ arr.all (kaOk m) = true ∧ A ((ds ++ arr.map (kaD es)).map .fz) O fun _ => False) XE) XE) := ⟨w_callN0⟩
theorem w_callN (q : r ρ (fun ds => rk ρ (fun es => ds.length = n ∧ es.length = m ∧ arr.all (kaOk m) = true ∧ A ((ds ++ arr.map (kaD es)).map .fz) O XE) XE) XE) : aCallN n m A arr r rk ρ O XE := q
instance s_callN  : Stp (aCallN n m A arr r rk ρ O XE) (r ρ (fun ds => rk ρ (fun es => ds.length = n ∧ es.length = m ∧ arr.all (kaOk m) = true ∧ A ((ds ++ arr.map (kaD es)).map .fz) O XE) XE) XE) := ⟨w_callN⟩
theorem w_callD0 (q : r ρ (fun ds => A ((ds ++ dd).map .fz) O fun _ => False) XE) : aCallD0 A dd r ρ O XE := q
instance s_callD0  : Stp (aCallD0 A dd r ρ O XE) (r ρ (fun ds => A ((ds ++ dd).map .fz) O fun _ => False) XE) := ⟨w_callD0⟩
theorem w_callD (q : r ρ (fun ds => A ((ds ++ dd).map .fz) O XE) XE) : aCallD A dd r ρ O XE := q
instance s_callD  : Stp (aCallD A dd r ρ O XE) (r ρ (fun ds => A ((ds ++ dd).map .fz) O XE) XE) := ⟨w_callD⟩
end
end SW
namespace SW
open PySem PySem.Spec PyProof.Rows L2 LamX
def qnc (s : Str) : QN := ⟨fun _ => s⟩
end SW
namespace SW
open PySem PySem.Spec PyProof.Rows L2 SWS
variable [QN]
inductive KB where
  | kw (i : Nat) | df (d : D) (v : V)
def kbD (es : List D) : KB → D
  | .kw i => es.getD i .non
  | .df d _ => d
def kbOk (m : Nat) : KB → Bool
  | .kw i => decide (i < m)
  | .df _ _ => true
section
variable {c : DC} {U H U' H' : Hp} {σ : L2.St} {ρ : Env} {tr tk : TA} {r rk : AL}
def aCallV (n m : Nat) (A : AF) (arr : List KB) (r rk : AL) : AO := fun ρ Q X => r ρ (fun ds => rk ρ (fun es => ds.length = n ∧ es.length = m ∧ arr.all (kbOk m) = true ∧ A ((ds ++ arr.map (kbD es)).map .fz) Q X) X) X
def aCallV0 (n m : Nat) (A : AF) (arr : List KB) (r rk : AL) : AO := fun ρ Q X => r ρ (fun ds => rk ρ (fun es => ds.length = n ∧ es.length = m ∧ arr.all (kbOk m) = true ∧ A ((ds ++ arr.map (kbD es)).map .fz) Q fun _ => False) X) X
variable {O : AV → Prop} {XE : Exn → Prop} {A : AF} {n m : Nat} {arr : List KB}
theorem w_callV0 (q : r ρ (fun ds => rk ρ (fun es => ds.length = n ∧ es.length = m ∧ arr.all (kbOk m) = true ∧ A ((ds ++ arr.map (kbD es)).map .fz) O fun _ => False) XE) XE) : aCallV0 n m A arr r rk ρ O XE := q
instance s_callV0  : Stp (aCallV0 n m A arr r rk ρ O XE) (r ρ (fun ds => rk ρ (fun es => ds.length = n ∧ es.length = m ∧ arr.all (kbOk m) = true ∧ A ((ds ++ arr.map (kbD es)).map .fz) O fun _ => False) XE) XE) := ⟨w_callV0⟩
theorem w_callV (q : r ρ (fun ds => rk ρ (fun es => ds.length = n ∧ es.length = m ∧ arr.all (kbOk m) = true ∧ A ((ds ++ arr.map (kbD es)).map .fz) O XE) XE) XE) : aCallV n m A arr r rk ρ O XE := q
instance s_callV  : Stp (aCallV n m A arr r rk ρ O XE) (r ρ (fun ds => rk ρ (fun es => ds.length = n ∧ es.length = m ∧ arr.all (kbOk m) = true ∧ A ((ds ++ arr.map (kbD es)).map .fz) O XE) XE) XE) := ⟨w_callV⟩
end
end SW
namespace SW
open PySem PySem.Spec PyProof.Rows L2 SWS
variable [QN]
abbrev Hnd := Value × Option Nat × (Addr → Value → Option Addr → TS)
structure AHnd where
  C : Addr
  i : Option Nat
  suite : Addr → Addr → Option Addr → AS
/-- the marked slots stand as they are, of the others nothing is known -/
def fillM : List Bool → List (Option AV) → Nat → Env
  | _, _, 0 => []
  | [], _, n + 1 => none :: fillM [] [] n
  | true :: ks, a :: as, n + 1 => a :: fillM ks as n
  | true :: ks, [], n + 1 => none :: fillM ks [] n
  | false :: ks, as, n + 1 => none :: fillM ks as n
def setE (i : Option Nat) (a : AV) (ρ : Env) : Env := match i with
  | none => ρ
  | some i => ρ.set i (some a)
def goneE (i : Option Nat) (ρ : Env) : Env := match i with
  | none => ρ
  | some i => ρ.set i none
def endsE (i : Option Nat) (N : AEnds) : AEnds := ⟨fun ρ => N.nx (goneE i ρ), N.rt, fun ρ => N.bk (goneE i ρ), fun ρ => N.ct (goneE i ρ), fun _ _ => False⟩
def handleA (K : PySem.W.Frag) (z : Bool) (N : AEnds) (x : Exn) (ρ : Env) : List AHnd → Prop
  | [] => if z = true then N.ex x ρ else False
  | h :: r => ∃ b, PySem.W.exmOne K (.ref x.C) (.ref h.C) = some b ∧ (b = true → ∀ a o, h.suite a x.C o (endsE h.i N) (setE h.i (.fz (.exn a x.C o x.ns x.ds)) ρ)) ∧ (b = false → handleA K z N x ρ r)
def allSome : List (Option AV) → Bool
  | [] => true
  | some _ :: r => allSome r
  | none :: _ => false
def flat1 : Option AV → Bool
  | none => true
  | some (.fz _) => true
  | some _ => false
/-- what is one's own is marked -/
def flatM : List Bool → Env → Bool
  | _, [] => true
  | [], a :: ρ => flat1 a && flatM [] ρ
  | true :: ks, _ :: ρ => flatM ks ρ
  | false :: ks, a :: ρ => flat1 a && flatM ks ρ
def aTry (K : PySem.W.Frag) (z : Bool) (mask : List Bool) (hs : List AHnd) (body : AS) : AS := fun N ρ => allSome (selM mask ρ) = true ∧ flatM mask ρ = true ∧
  body ⟨N.nx, N.rt, N.bk, N.ct, fun x ρ' => handleA K z N x (fillM mask (selM mask ρ') ρ.length) hs⟩ ρ
section
variable {K : PySem.W.Frag} {c : DC} {U H U1 H1 : Hp} {σ σ1 : L2.St} {ρ ρ1 : Env}
theorem DI.gone (h : DI c U H σ ρ) {i : Nat} (hi : noPar c i = true) : DI c U H (σ.set i none) (ρ.set i none) := by
  have hn := noPar_of hi
  refine ⟨h.gr, Paired.setAt (F := RepS c.K U H) (show RepS c.K U H none none from True.intro) i h.rep, (owns_set_sub ρ σ i none none rfl).nodup h.nd, fun p hp => h.out p ((owns_set_sub ρ σ i none none rfl).mem hp), par_set (sel_set _ _ _ _ hn) (sel_set _ _ _ _ hn) h.par, h.ko, fun k av w e1 e2 p hp => ?_, by rw [List.length_set]; exact h.on⟩
  by_cases z : i = k
  · subst z
    rw [List.getElem?_set] at e1
    simp at e1
  · rw [List.getElem?_set_ne z] at e1 e2
    exact h.ow k av w e1 e2 p hp
variable {mask : List Bool} {pk : List Nat} {pv : List V} {X : Exn → List (Option AV) → Prop} {E : L2.St → XK} {avs0 : List AV}
inductive HndsR (c : DC) : List Hnd → List AHnd → Prop
  | nil : HndsR c [] []
  | only {C : Addr} {ts : Addr → Value → Option Addr → TS} {su : Addr → Addr → Option Addr → AS} {l : List Hnd} {ls : List AHnd} (h : ∀ a D o, SimS c.no (ts a (.ref D) o) (su a D o)) (r : HndsR c l ls) : HndsR c ((.ref C, none, ts) :: l) (⟨C, none, su⟩ :: ls)
  | named {C : Addr} {i j : Nat} {ts : Addr → Value → Option Addr → TS} {su : Addr → Addr → Option Addr → AS} {l : List Hnd} {ls : List AHnd} (hi : noPar c i = true) (hj : j = i) (h : ∀ a D o, SimS c.no (ts a (.ref D) o) (su a D o)) (r : HndsR c l ls) : HndsR c ((.ref C, some j, ts) :: l) (⟨C, some i, su⟩ :: ls)
end
end SW
namespace SW
open PySem PySem.Spec PyProof.Rows L2 SWS
open PySem.W (AlikeAll iter_listW cmpIn_lt moved_old argBest_fold)
variable [QN]
def gDecMem {κ : Type} [DecidableEq κ] (y : κ) : (ks : List κ) → Decidable (y ∈ ks)
  | [] => Decidable.isFalse (by simp)
  | k :: ks => if h : y = k then Decidable.isTrue (h ▸ List.mem_cons_self) else match gDecMem y ks with
    | Decidable.isTrue t => Decidable.isTrue (List.mem_cons_of_mem _ t)
    | Decidable.isFalse t => Decidable.isFalse fun z => (List.mem_cons.mp z).elim h t
section
local instance gDec {κ : Type} [DecidableEq κ] (y : κ) (ks : List κ) : Decidable (y ∈ ks) := gDecMem y ks
def gval {κ : Type} [DecidableEq κ] : List κ → List D → κ → Option D
  | k :: ks, d :: ds, y => if k = y then some d else gval ks ds y
  | _, _, _ => none
/-- in its place, or at the end -/
def gputK {κ : Type} [DecidableEq κ] (ks : List κ) (y : κ) : List κ := if y ∈ ks then ks else ks ++ [y]
def gputD {κ : Type} [DecidableEq κ] : List κ → List D → κ → D → List D
  | k :: ks, d :: ds, y, e => if k = y then e :: ds else d :: gputD ks ds y e
  | _, _, _, e => [e]
end
instance gDecT (y : List Key) (ks : List (List Key)) : Decidable (y ∈ ks) := gDecMem y ks
def keyT : List D → Option (List Key)
  | [] => some []
  | d :: ds => match keyD d, keyT ds with
    | some k, some r => some (k :: r)
    | _, _ => none
def dTQ (Q : List (List Key) → List D → Prop) : D → Prop
  | .dT ks ds => Q ks ds
  | _ => False
section
variable {c : DC} {U H U' H' : Hp} {σ : L2.St} {ρ ρ' : Env} {ta tb : TE} {a b : AE} {tr : TA} {r : AL}
def aDInT (neg : Bool) (r : AL) (b : AE) : AE := fun ρ Q X => r ρ (fun ds => ds.length ≤ 1000000 ∧ someQ (fun k => b ρ (dTQ fun ks _ => Q (.bl (if neg then !decide (k ∈ ks) else decide (k ∈ ks)))) X) (keyT ds)) X
def aDGetT (b : AE) (r : AL) : AE := fun ρ Q X => b ρ (dTQ fun ks es => r ρ (fun ds => ds.length ≤ 1000000 ∧ someQ (fun k => someQ Q (gval ks es k)) (keyT ds)) X) X
/-- d.get((..), x) -/
def aDGet2T (b : AE) (r : AL) (e : AE) : AE := fun ρ Q X => b ρ (dTQ fun ks es => r ρ (fun ds => ds.length ≤ 1000000 ∧ someQ (fun k => e ρ (fun x => Q ((gval ks es k).getD x)) X) (keyT ds)) X) X
/-- a dict of one's own is written: plain keys, tuples as keys -/
def okS (ρ : Env) (i : Nat) (Q : List Key → List D → Prop) : Prop := match ρ[i]? with
  | some (some (.ok ks ds)) => Q ks ds
  | _ => False
def otS (ρ : Env) (i : Nat) (Q : List (List Key) → List D → Prop) : Prop := match ρ[i]? with
  | some (some (.ot ks ds)) => Q ks ds
  | _ => False
def aDPutS (i : Nat) (ky e : AE) : AS := fun N ρ => e ρ (fun d => okS ρ i fun ks ds => ky ρ (fun y => someQ (fun kk => ks.length < 1000000 ∧ ks.Nodup ∧ N.nx (ρ.set i (some (.ok (dputK ks kk) (dputD ks ds kk d))))) (keyD y)) (fun x => N.ex x ρ)) (fun x => N.ex x ρ)
def aDPutT (i : Nat) (r : AL) (e : AE) : AS := fun N ρ => e ρ (fun d => otS ρ i fun ks es => r ρ (fun ds => ds.length ≤ 1000000 ∧ someQ (fun k => ks.length < 1000000 ∧ ks.Nodup ∧ N.nx (ρ.set i (some (.ot (gputK ks k) (gputD ks es k d))))) (keyT ds)) (fun x => N.ex x ρ)) (fun x => N.ex x ρ)
def aDNewT : AO := fun _ Q _ => Q (.ot [] [])
/-- len(d) -/
def oLenT : List D → (D → Prop) → Prop := fun ds Q => oneQ (dTQ fun ks _ => Q (.int ks.length)) ds
def aCompT (g : AG) (rk : AL) (ev : AE) (ρ : Env) (X : Exn → Prop) : List D → List (List Key) → List D → (List (List Key) → List D → Prop) → Prop
  | [], ks, es, Q => Q ks es
  | d :: r, ks, es, Q => g d ρ (fun ρ2 => rk ρ2 (fun ds => ds.length ≤ 1000000 ∧ someQ (fun k => ev ρ2 (fun x => ks.length < 1000000 ∧ ks.Nodup ∧ aCompT g rk ev ρ X r (gputK ks k) (gputD ks es k x) Q) X) (keyT ds)) X)
def aDcT (it : AL) (g : AG) (rk : AL) (ev : AE) (vs : List Nat) : AO := fun ρ Q X => it ρ (fun ds => aCompT g rk ev (wipeA ρ vs) X ds [] [] (fun ks es => Q (.ot ks es))) X
end
section
variable {c : DC} {tr : TA} {r : AL}
def aMkA (C : Addr) (A : AFM) (r : AL) : AO := fun ρ Q X => r ρ (fun ds => mkQ C A Q X (ds.map .fz)) X
def aMkA0 (C : Addr) (A : AFM) (r : AL) : AO := fun ρ Q X => r ρ (fun ds => mkQ C A Q (fun _ => False) (ds.map .fz)) X
end
section
variable {ρ : Env} {nx : Env → Prop} {rt : AV → Env → Prop} {bk ct : Env → Prop} {ex : Exn → Env → Prop} {i : Nat} {a b e : AE} {r rk : AL} {Q : D → Prop} {O : AV → Prop} {XE : Exn → Prop} {ks : List (List Key)} {es : List D} {it : AL} {g : AG} {vs : List Nat} {C : Addr} {A : AFM}
theorem w_dInTF (q : r ρ (fun ds => ds.length ≤ 1000000 ∧ someQ (fun k => b ρ (dTQ fun ks _ => Q (.bl (decide (k ∈ ks)))) XE) (keyT ds)) XE) : aDInT false r b ρ Q XE := q
instance s_dInTF  : Stp (aDInT false r b ρ Q XE) (r ρ (fun ds => ds.length ≤ 1000000 ∧ someQ (fun k => b ρ (dTQ fun ks _ => Q (.bl (decide (k ∈ ks)))) XE) (keyT ds)) XE) := ⟨w_dInTF⟩
theorem w_dInTT (q : r ρ (fun ds => ds.length ≤ 1000000 ∧ someQ (fun k => b ρ (dTQ fun ks _ => Q (.bl (!decide (k ∈ ks)))) XE) (keyT ds)) XE) : aDInT true r b ρ Q XE := q
instance s_dInTT  : Stp (aDInT true r b ρ Q XE) (r ρ (fun ds => ds.length ≤ 1000000 ∧ someQ (fun k => b ρ (dTQ fun ks _ => Q (.bl (!decide (k ∈ ks)))) XE) (keyT ds)) XE) := ⟨w_dInTT⟩
theorem w_dGetT (q : b ρ (dTQ fun ks es => r ρ (fun ds => ds.length ≤ 1000000 ∧ someQ (fun k => someQ Q (gval ks es k)) (keyT ds)) XE) XE) : aDGetT b r ρ Q XE := q
instance s_dGetT  : Stp (aDGetT b r ρ Q XE) (b ρ (dTQ fun ks es => r ρ (fun ds => ds.length ≤ 1000000 ∧ someQ (fun k => someQ Q (gval ks es k)) (keyT ds)) XE) XE) := ⟨w_dGetT⟩
theorem w_dGet2T (q : b ρ (dTQ fun ks es => r ρ (fun ds => ds.length ≤ 1000000 ∧ someQ (fun k => e ρ (fun x => Q ((gval ks es k).getD x)) XE) (keyT ds)) XE) XE) : aDGet2T b r e ρ Q XE := q
instance s_dGet2T  : Stp (aDGet2T b r e ρ Q XE) (b ρ (dTQ fun ks es => r ρ (fun ds => ds.length ≤ 1000000 ∧ someQ (fun k => e ρ (fun x => Q ((gval ks es k).getD x)) XE) (keyT ds)) XE) XE) := ⟨w_dGet2T⟩
theorem w_dTQ {P : List (List Key) → List D → Prop} (q : P ks es) : dTQ P (.dT ks es) := q
instance s_dTQ {P : List (List Key) → List D → Prop} : Stp (dTQ P (.dT ks es)) (P ks es) := ⟨w_dTQ⟩
theorem w_dPutS (q : e ρ (fun d => okS ρ i fun ks ds => a ρ (fun y => someQ (fun kk => ks.length < 1000000 ∧ ks.Nodup ∧ nx (ρ.set i (some (.ok (dputK ks kk) (dputD ks ds kk d))))) (keyD y)) (fun x => ex x ρ)) (fun x => ex x ρ)) : aDPutS i a e ⟨nx, rt, bk, ct, ex⟩ ρ := q
instance s_dPutS  : Stp (aDPutS i a e ⟨nx, rt, bk, ct, ex⟩ ρ) (e ρ (fun d => okS ρ i fun ks ds => a ρ (fun y => someQ (fun kk => ks.length < 1000000 ∧ ks.Nodup ∧ nx (ρ.set i (some (.ok (dputK ks kk) (dputD ks ds kk d))))) (keyD y)) (fun x => ex x ρ)) (fun x => ex x ρ)) := ⟨w_dPutS⟩
theorem w_okS {P : List Key → List D → Prop} {ks : List Key} {ds : List D} (h : ρ[i]? = some (some (.ok ks ds))) (q : P ks ds) : okS ρ i P := by unfold okS; rw [h]; exact q
instance s_okS {P : List Key → List D → Prop} : St2 (β := List Key) (γ := List D) (okS ρ i P) (fun ks ds => ρ[i]? = some (some (.ok ks ds))) (fun ks ds => True) (fun ks ds => P ks ds) := ⟨fun _ _ h _ q => w_okS h q⟩
theorem w_dPutT (q : e ρ (fun d => otS ρ i fun ks es => r ρ (fun ds => ds.length ≤ 1000000 ∧ someQ (fun k => ks.length < 1000000 ∧ ks.Nodup ∧ nx (ρ.set i (some (.ot (gputK ks k) (gputD ks es k d))))) (keyT ds)) (fun x => ex x ρ)) (fun x => ex x ρ)) : aDPutT i r e ⟨nx, rt, bk, ct, ex⟩ ρ := q
instance s_dPutT  : Stp (aDPutT i r e ⟨nx, rt, bk, ct, ex⟩ ρ) (e ρ (fun d => otS ρ i fun ks es => r ρ (fun ds => ds.length ≤ 1000000 ∧ someQ (fun k => ks.length < 1000000 ∧ ks.Nodup ∧ nx (ρ.set i (some (.ot (gputK ks k) (gputD ks es k d))))) (keyT ds)) (fun x => ex x ρ)) (fun x => ex x ρ)) := ⟨w_dPutT⟩
theorem w_otS {P : List (List Key) → List D → Prop} (h : ρ[i]? = some (some (.ot ks es))) (q : P ks es) : otS ρ i P := by unfold otS; rw [h]; exact q
instance s_otS {P : List (List Key) → List D → Prop} : St2 (β := List (List Key)) (γ := List D) (otS ρ i P) (fun ks es => ρ[i]? = some (some (.ot ks es))) (fun ks es => True) (fun ks es => P ks es) := ⟨fun _ _ h _ q => w_otS h q⟩
theorem w_dNew (q : O (.ok [] [])) : aDNew ρ O XE := q
instance s_dNew  : Stp (aDNew ρ O XE) (O (.ok [] [])) := ⟨w_dNew⟩
theorem w_dNewT (q : O (.ot [] [])) : aDNewT ρ O XE := q
instance s_dNewT  : Stp (aDNewT ρ O XE) (O (.ot [] [])) := ⟨w_dNewT⟩
theorem w_lenTD (q : Q (.int ks.length)) : oLenT [.dT ks es] Q := q
instance s_lenTD  : Stp (oLenT [.dT ks es] Q) (Q (.int ks.length)) := ⟨w_lenTD⟩
theorem w_dcT (q : it ρ (fun ds => aCompT g rk e (wipeA ρ vs) XE ds [] [] (fun ks es => O (.ot ks es))) XE) : aDcT it g rk e vs ρ O XE := q
instance s_dcT  : Stp (aDcT it g rk e vs ρ O XE) (it ρ (fun ds => aCompT g rk e (wipeA ρ vs) XE ds [] [] (fun ks es => O (.ot ks es))) XE) := ⟨w_dcT⟩
theorem w_mkA0 (q : r ρ (fun ds => mkQ C A O (fun _ => False) (ds.map .fz)) XE) : aMkA0 C A r ρ O XE := q
instance s_mkA0  : Stp (aMkA0 C A r ρ O XE) (r ρ (fun ds => mkQ C A O (fun _ => False) (ds.map .fz)) XE) := ⟨w_mkA0⟩
theorem w_mkA (q : r ρ (fun ds => mkQ C A O XE (ds.map .fz)) XE) : aMkA C A r ρ O XE := q
instance s_mkA  : Stp (aMkA C A r ρ O XE) (r ρ (fun ds => mkQ C A O XE (ds.map .fz)) XE) := ⟨w_mkA⟩
theorem w_try {K : PySem.W.Frag} {z : Bool} {mask : List Bool} {hs : List AHnd} {body : AS} {N : AEnds} (h1 : allSome (selM mask ρ) = true) (h2 : flatM mask ρ = true) (q : body ⟨N.nx, N.rt, N.bk, N.ct, fun x ρ' => handleA K z N x (fillM mask (selM mask ρ') ρ.length) hs⟩ ρ) : aTry K z mask hs body N ρ := ⟨h1, h2, q⟩
end
end SW
namespace SW
open PySem PySem.Spec PyProof.Rows L2 SWS
variable [QN]
def aRaiseX1 (C : Addr) (f : Str) (r : AL) : AS := fun N ρ => r ρ (oneQ fun d => N.ex ⟨C, [f], [d]⟩ ρ) (fun x => N.ex x ρ)
def aRaiseX2 (C : Addr) (f g : Str) (r : AL) : AS := fun N ρ => r ρ (twoQ fun d e => N.ex ⟨C, [g, f], [e, d]⟩ ρ) (fun x => N.ex x ρ)
section
variable {ρ : Env} {N : AEnds} {C : Addr} {f g : Str} {r : AL}
theorem w_raiseX1 (q : r ρ (oneQ fun d => N.ex ⟨C, [f], [d]⟩ ρ) (fun x => N.ex x ρ)) : aRaiseX1 C f r N ρ := q
instance s_raiseX1  : Stp (aRaiseX1 C f r N ρ) (r ρ (oneQ fun d => N.ex ⟨C, [f], [d]⟩ ρ) (fun x => N.ex x ρ)) := ⟨w_raiseX1⟩
theorem w_raiseX2 (q : r ρ (twoQ fun d e => N.ex ⟨C, [g, f], [e, d]⟩ ρ) (fun x => N.ex x ρ)) : aRaiseX2 C f g r N ρ := q
instance s_raiseX2  : Stp (aRaiseX2 C f g r N ρ) (r ρ (twoQ fun d e => N.ex ⟨C, [g, f], [e, d]⟩ ρ) (fun x => N.ex x ρ)) := ⟨w_raiseX2⟩
end
section
variable {c : DC} {ρ : Env} {i : Nat}
def aClr (i : Nat) : AS := fun N ρ => olQ ρ i fun _ => N.nx (ρ.set i (some (.ol [])))
theorem w_clr {ds : List D} {nx bk ct : Env → Prop} {rt : AV → Env → Prop} {ex : Exn → Env → Prop} (h : ρ[i]? = some (some (.ol ds))) (q : nx (ρ.set i (some (.ol [])))) : aClr i ⟨nx, rt, bk, ct, ex⟩ ρ := by
  unfold aClr olQ
  rw [h]
  exact q
instance s_clr {nx bk ct : Env → Prop} {rt : AV → Env → Prop} {ex : Exn → Env → Prop} : St1 (β := List D) (aClr i ⟨nx, rt, bk, ct, ex⟩ ρ) (fun ds => ρ[i]? = some (some (.ol ds))) (fun ds => nx (ρ.set i (some (.ol [])))) := ⟨fun _ h q => w_clr h q⟩
end
end SW
namespace SW
open PySem PySem.Spec PyProof.Rows L2 SWS
end SW
namespace SW
open PySem PySem.Spec PyProof.Rows L2 SWS
variable [QN]
section
variable {c : DC} {U H U' H' : Hp} {σ : L2.St} {ρ ρ' : Env}
def olA (Q : List D → Prop) : AV → Prop
  | .ol ds => Q ds
  | _ => False
end
end SW
namespace SW
open PySem PySem.Spec PyProof.Rows L2 SWS
end SW
namespace SW
open PySem PySem.Spec PyProof.Rows L2 SWS
end SW
namespace SW
open PySem PySem.Spec PyProof.Rows L2 SWS
end SW
namespace SW
open PySem PySem.Spec PyProof.Rows L2 SWS
variable [QN]
section
variable {c : DC} {U H : Hp} {σ : L2.St} {ρ : Env}
def lenAV (Q : D → Prop) : AV → Prop
  | .fz (.int n) => (0 ≤ n ∧ n < 2 ^ 63) ∧ Q (.int n)
  | _ => False
end
end SW
namespace SW
open PySem PySem.Spec PyProof.Rows L2 SWS
end SW
namespace SW
open PySem PySem.Spec PyProof.Rows L2 SWS
variable [QN]
def oStr : List D → (D → Prop) → Prop := fun ds Q => oneQ (intQ fun i => i.natAbs.log2 < 1920 ∧ Q (.str (toString i))) ds
theorem bu_str {K : PySem.W.Frag} : BuD K (fun xs H Q => ∃ i, xs = [.int i] ∧ i.natAbs.log2 < 1920 ∧ Q (.str (toString i)) H) oStr := fun U H vs ds Q q s r z k => by
  obtain ⟨d, rfl, z0⟩ := oneQ_of z
  obtain ⟨i, rfl, h1, z1⟩ := intQ_of z0
  obtain ⟨v, rfl, cd⟩ := paired1 r
  rw [cd.int]
  exact ⟨i, rfl, h1, k U H (.str _) _ (Gr.refl s) rfl z1⟩
theorem w_str {i : Int} {Q : D → Prop} (h : i.natAbs.log2 < 1920) (q : Q (.str (toString i))) : oStr [.int i] Q := ⟨h, q⟩
theorem pe_bmK {X : Cx} {K : PySem.W.Frag} {e : Expr} {T : String} {r : V → List V → Hp → VK → Prop} {to : TE} {t : TA} (h : X.K = K) (p : PE X e (tBM X.K T r to t)) : PE X e (tBM K T r to t) := by subst h; exact p
end SW
namespace SW
open PySem PySem.Spec PyProof.Rows L2 SWS
variable [QN]
def kTD (k : List Key) : D := .tup (k.map kD)
def leT (a b : List Key) : Bool := leD (kTD a) (kTD b)
end SW
namespace SW
open PySem PySem.Spec PyProof.Rows L2 SWS
variable [QN]
section
variable {c : DC} {U H : Hp} {σ : L2.St} {ρ : Env}
def aLcST (b : AE) (ag : AG) (at' : AT) (e : AE) (vs : List Nat) : AO := fun ρ Q X => b ρ (dTQ fun ks _ => okDs 8 (ks.map kTD) = true ∧ alikeD (ks.map kTD) = true ∧ sortableD (ks.map kTD) = true ∧ aComp ag at' e (wipeA ρ vs) X ((ks.mergeSort leT).map kTD) [] (fun acc => Q (.ol acc))) X
end
end SW
namespace SW
open PySem PySem.Spec PyProof.Rows L2 SWS
end SW
namespace SW
open PySem PySem.Spec PyProof.Rows L2 SWS
variable [QN]
section
variable {c : DC} {U H : Hp} {σ : L2.St} {ρ : Env}
def aZipS (r : AL) : AL := fun ρ Q X => r ρ (twoQ fun d e => lstQ (fun xs => lstQ (fun ys => xs.length = ys.length ∧ Q (zipD xs ys)) e) d) X
end
section
variable {ρ : Env} {L : List D → Prop} {XE : Exn → Prop} {r : AL}
theorem w_zipS (q : r ρ (twoQ fun d e => lstQ (fun xs => lstQ (fun ys => xs.length = ys.length ∧ L (zipD xs ys)) e) d) XE) : aZipS r ρ L XE := q
instance s_zipS  : Stp (aZipS r ρ L XE) (r ρ (twoQ fun d e => lstQ (fun xs => lstQ (fun ys => xs.length = ys.length ∧ L (zipD xs ys)) e) d) XE) := ⟨w_zipS⟩
end
end SW
namespace SW
open PySem PySem.Spec PyProof.Rows L2 SWS
variable [QN]
section
variable {c : DC} {U H : Hp} {σ : L2.St} {ρ : Env}
def isObj (C : Addr) : D → Prop
  | .obj C' _ _ => C' = C
  | _ => False
def aLenO (C : Addr) (A : AF) (a : AE) : AE := fun ρ Q X => a ρ (fun d => isObj C d ∧ A [.fz d] (lenAV Q) fun _ => False) X
theorem w_lenO {C : Addr} {A : AF} {a : AE} {Q : D → Prop} {X : Exn → Prop} (q : a ρ (fun d => isObj C d ∧ A [.fz d] (lenAV Q) fun _ => False) X) : aLenO C A a ρ Q X := q
instance s_lenO {C : Addr} {A : AF} {a : AE} {Q : D → Prop} {X : Exn → Prop} : Stp (aLenO C A a ρ Q X) (a ρ (fun d => isObj C d ∧ A [.fz d] (lenAV Q) fun _ => False) X) := ⟨w_lenO⟩
end
section
variable {ρ : Env} {O : AV → Prop} {X : Exn → Prop} {b e : AE} {ag : AG} {at' : AT} {vs : List Nat}
theorem w_lcST (q : b ρ (dTQ fun ks _ => okDs 8 (ks.map kTD) = true ∧ alikeD (ks.map kTD) = true ∧ sortableD (ks.map kTD) = true ∧ aComp ag at' e (wipeA ρ vs) X ((ks.mergeSort leT).map kTD) [] (fun acc => O (.ol acc))) X) : aLcST b ag at' e vs ρ O X := q
instance s_lcST  : Stp (aLcST b ag at' e vs ρ O X) (b ρ (dTQ fun ks _ => okDs 8 (ks.map kTD) = true ∧ alikeD (ks.map kTD) = true ∧ sortableD (ks.map kTD) = true ∧ aComp ag at' e (wipeA ρ vs) X ((ks.mergeSort leT).map kTD) [] (fun acc => O (.ol acc))) X) := ⟨w_lcST⟩
end
end SW
namespace SW
open PySem PySem.Spec PyProof.Rows L2 SWS
end SW
namespace SW
open PySem PySem.Spec PyProof.Rows L2 SWS
end SW
namespace SW
open PySem PySem.Spec PyProof.Rows L2 SWS
variable [QN]
section
variable {c : DC} {U H : Hp} {σ : L2.St} {ρ : Env}
def aAsg2 (e : AE) (g1 g2 : AG) : AS := fun N ρ => e ρ (fun d => g1 d ρ fun ρ1 => g2 d ρ1 N.nx) (fun x => N.ex x ρ)
theorem w_asg2 {ρ : Env} {nx bk ct : Env → Prop} {rt : AV → Env → Prop} {ex : Exn → Env → Prop} {e : AE} {g1 g2 : AG} (q : e ρ (fun d => g1 d ρ fun ρ1 => g2 d ρ1 nx) (fun x => ex x ρ)) : aAsg2 e g1 g2 ⟨nx, rt, bk, ct, ex⟩ ρ := q
instance s_asg2 {ρ : Env} {nx bk ct : Env → Prop} {rt : AV → Env → Prop} {ex : Exn → Env → Prop} {e : AE} {g1 g2 : AG} : Stp (aAsg2 e g1 g2 ⟨nx, rt, bk, ct, ex⟩ ρ) (e ρ (fun d => g1 d ρ fun ρ1 => g2 d ρ1 nx) (fun x => ex x ρ)) := ⟨w_asg2⟩
def fzA (Q : D → Prop) : AV → Prop
  | .fz d => Q d
  | _ => False
def aFldE (i : Nat) (C : Addr) (f : Str) : AE := fun ρ Q _ => obfQ ρ i C f fun _ _ _ _ _ av => fzA Q av
def aAppLF (i : Nat) (C : Addr) (f : Str) (e : AE) : AS := fun N ρ => obfQ ρ i C f fun _ _ _ _ _ av0 => olA (fun _ => e ρ (fun d => obfQ ρ i C f fun dx ns ws as n av => olA (fun ds => ds.length < 1000000 ∧ N.nx (ρ.set i (some (.ob C dx ns ws (as.set n (.ol (ds ++ [d]))))))) av) (fun x => N.ex x ρ)) av0
end
section
variable {ρ : Env} {nx bk ct : Env → Prop} {rt : AV → Env → Prop} {ex : Exn → Env → Prop} {Q : D → Prop} {X : Exn → Prop} {i k : Nat} {C dx : Addr} {f : Str} {ns : List Str} {ws : List V} {as : List AV} {ds : List D} {d : D} {e : AE}
theorem w_fldE (h1 : ρ[i]? = some (some (.ob C dx ns ws as))) (h2 : fldIx f ns 0 = some k) (h3 : as[k]? = some (.fz d)) (q : Q d) : aFldE i C f ρ Q X := w_obfQ h1 h2 h3 q
theorem w_appLF (h1 : ρ[i]? = some (some (.ob C dx ns ws as))) (h2 : fldIx f ns 0 = some k) (h3 : as[k]? = some (.ol ds)) (q : e ρ (fun d => ds.length < 1000000 ∧ nx (ρ.set i (some (.ob C dx ns ws (as.set k (.ol (ds ++ [d]))))))) (fun x => ex x ρ)) : aAppLF i C f e ⟨nx, rt, bk, ct, ex⟩ ρ := by
  refine w_obfQ h1 h2 h3 ?_
  show e ρ _ _
  have e1 : (fun d => obfQ ρ i C f fun dx ns ws as n av => olA (fun ds => ds.length < 1000000 ∧ nx (ρ.set i (some (.ob C dx ns ws (as.set n (.ol (ds ++ [d]))))))) av) = fun d => ds.length < 1000000 ∧ nx (ρ.set i (some (.ob C dx ns ws (as.set k (.ol (ds ++ [d])))))) := funext fun d => propext ⟨fun h => by
      obtain ⟨_, _, _, _, _, _, k1, k2, k3, h⟩ := obfQ_of h
      rw [h1] at k1
      cases k1
      rw [h2] at k2
      cases k2
      rw [h3] at k3
      cases k3
      exact h, fun h => w_obfQ h1 h2 h3 h⟩
  rw [e1]
  exact q
end
end SW
namespace SW
open PySem PySem.Spec PyProof.Rows L2 SWS
end SW
namespace SW
open PySem PySem.Spec PyProof.Rows L2 SWS
variable [QN]
section
variable {c : DC} {U H : Hp} {σ : L2.St} {ρ : Env} {te : TE} {e : AE}
def aLstR (e : AE) : AO := fun ρ Q X => e ρ (intQ fun n => (0 ≤ n ∧ n ≤ 1000000) ∧ Q (.ol (rngD 0 n.toNat))) X
theorem w_lstR {O : AV → Prop} {X : Exn → Prop} (q : e ρ (intQ fun n => (0 ≤ n ∧ n ≤ 1000000) ∧ O (.ol (rngD 0 n.toNat))) X) : aLstR e ρ O X := q
instance s_lstR {O : AV → Prop} {X : Exn → Prop} : Stp (aLstR e ρ O X) (e ρ (intQ fun n => (0 ≤ n ∧ n ≤ 1000000) ∧ O (.ol (rngD 0 n.toNat))) X) := ⟨w_lstR⟩
end
end SW
namespace SW
open PySem PySem.Spec PyProof.Rows L2 SWS
variable [QN]
def rStrOwn (C : Addr) (sp : Sp) (E : XK) : List V → Hp → VK → Prop := fun vs H Q => ∃ a dx fs, vs = [.ref a] ∧ H a = some (.ins C dx fs) ∧ sp [.ref a] H (fun v H' => ∃ x : Str, v = .str x ∧ Q (.str x) H') E
section
variable {X : Cx} {CX : CXT} {k : Nat} {C f : Addr} {fd : FuncData} {ps : List Str} {sp : Sp} {E : XK}
theorem cr_strOwn (F : FnOk X.prog X.w X.K X.mg X.base CX k f fd ps sp) (hr : Room (k + 2) X.A) (hm : Meth X.K C "__str__" f) (hb : Binds X.K fd ps []) (hx : Passes CX X E) : CallR X (.type "str") (rStrOwn C sp E) := by
  intro pins s σ H vs us Q I r h
  obtain ⟨a, dx, fs, rfl, ha, hsp⟩ := h
  rw [Vals.ref1 r]
  obtain ⟨mA, J, _⟩ := ins_get I.hok ha
  obtain ⟨od, J, _⟩ := J.look
  have hr2 : Room k X.A.in1.in1 := (show Room (k + 1) X.A.in1 from Room.in1 hr).in1
  refine PySem.W.kso_call hr2.units0 I.kIn J hm.at_ hm.fn ?_
  have hl := F.len _ _ _ _ hsp
  have e0 : Env0 X.prog X.w X.K X.mg X.base X.A.in1.in1 X.stack s H := I.env0.in1.in1
  refine wpAny_call (codeAny_mono (F.run X.A.in1.in1 X.stack s H ⟨[.ref a], []⟩ [.ref a] [.ref a] _ E hr2 e0 (by
    have := hb s [.ref a] I.kIn (by simpa using hl)
    simpa using this) (.cons rfl .nil) hsp) fun r s' hq => ?_)
  cases r with
  | error e => exact hx pins σ H s e s' I hq
  | ok fl =>
    cases fl with
    | ret w =>
      obtain ⟨z, H', I', rz, x, rfl, q⟩ := I.after hq
      obtain ⟨t, rfl⟩ := rz
      exact ⟨.str x, H', I', ⟨t, rfl⟩, q⟩
    | next => exact False.elim hq
    | brk => exact False.elim hq
    | cont => exact False.elim hq
end
section
variable {prog : Program} {w : World} {A : Around} {E : Value → Shared → Prop} {s : Shared}
open PySem.W in
theorem star_items {l : Addr} {items : Array Value} {Q : List Value → Shared → Prop} (hh : A.handled = none) (hl : s.heap.IsList l items) (h1 : 1 ≤ items.size) (hz : items.size ≤ sizeLine)
    (hQ : ∀ (h' : Heap) (tk : Nat), Heap.ExtBut s.heap.objs.size s.heap h' → Q (items.toList.take 1 ++ [.ref h'.objs.size] ++ []) { s with heap := h'.push { cls := .type "list", data := .seq (items.toList.drop 1).toArray }, toks := tk }) :
    wpAny (model prog w) A (unpackItems (.ref l) 2 (some 1)) Q E s := by
  have hlt : l ≠ s.heap.objs.size := by obtain ⟨o, ho, _⟩ := hl; exact Nat.ne_of_lt (Heap.lt_size ho)
  unfold unpackItems
  refine wpAny_bind ?_
  unfold notIterableAtAll
  refine wpAny_bind (wpAny_specialOf hl.typeIs slot_list_iter.lookup ?_)
  refine wpAny_pure ?_
  simp only [Bool.false_eq_true, if_false]
  refine wpAny_bind (wpAny_holding (wpAny_pyIter_list hl ?_))
  refine wpAny_bind (wpAny_holding (kun_draw hlt 1 0 _ _ ⟨_, Heap.get?_push_size _ rfl, rfl, rfl⟩ (hl.push _) (by omega) fun h₁ hit₁ hs₁ => ?_))
  have hl₁ : h₁.IsList l items := (hl.push _).extBut hs₁.extBut hlt
  rw [Nat.zero_add] at hit₁
  obtain ⟨oi, hoi, _⟩ := id hit₁
  obtain ⟨ol, hol, _⟩ := id hl₁
  rw [List.drop_zero]
  have hfl : (items.toList.take 1).length = 1 := by rw [List.length_take, Array.length_toList]; omega
  rw [if_neg (show ¬ ((items.toList.take 1).length < 1) by omega)]
  refine wpAny_bind (wpAny_holding (kun_collect (s := { s with heap := h₁ }) (T := "list_iterator") (.inr (.inr (.inl rfl))) (PySem.Walks.list (A := A.in1) hh s.heap.objs.size l hlt items) (fun j u st => st.1.typeIs) (k := 1) h1 ⟨hit₁, hl₁⟩ (Heap.lt_size hoi) (Heap.lt_size hol) (fun h₂ tk hk => ?_) hz))
  have hrl : (items.toList.drop 1).length = items.size - 1 := by rw [List.length_drop, Array.length_toList]
  show wpAny _ _ (if (items.toList.drop 1).length < 0 then _ else _) _ _ _
  rw [if_neg (Nat.not_lt_zero _)]
  show wpAny _ _ (newList ((items.toList.drop 1).take ((items.toList.drop 1).length - 0)) >>= fun d => pure (items.toList.take 1 ++ [d] ++ (items.toList.drop 1).drop ((items.toList.drop 1).length - 0))) _ _ _
  rw [Nat.sub_zero, List.take_length, List.drop_length]
  have he : Heap.ExtBut s.heap.objs.size s.heap h₂ := fun b o hb e => hk b o hb (hs₁.extBut b o hb (Heap.get?_push_of_some _ e))
  refine wpAny_bind (wpAny_newObj_type (wpAny_pure (hQ h₂ tk he)) ?_)
  show (items.toList.drop 1).toArray.size ≤ sizeLine
  rw [List.size_toArray, hrl]
  omega
end
def gStr (K : PySem.W.Frag) (t : TGs) : TG := fun v σ H Q => ∃ a x xs, v = .ref a ∧ SqL K H a (x :: xs) ∧ ∀ p, H p = none → t [x, .ref p] σ (upd H p (.lst xs)) Q
section
variable {X : Cx} {pos : Pos}
theorem pg_star {K : PySem.W.Frag} {e1 e2 : Expr} {sp : Pos} {k : Nat} {t : TGs} (hK : X.K = K) (hc : X.calm = true) (h : PGs X [e1, e2] t)
    (he : assignEach [e1, .Starred e2 sp] X.env = [(false, assign e1 X.env), (true, assign e2 X.env)] := by rfl) (hs : (assignEach [e1, e2] X.env).map (·.2) = [assign e1 X.env, assign e2 X.env] := by rfl) : PG X (.Tuple [e1, .Starred e2 sp] k pos) (gStr K t) := by
  subst hK
  refine ⟨fun pins s σ H v u Q I r hw => ?_⟩
  obtain ⟨a, x, xs, rfl, hq, hw⟩ := hw
  cases r
  obtain ⟨its, rv, pl, hz⟩ := I.list hq
  have hl := rv.length
  rw [List.length_cons] at hl
  rw [PyProof.Rows.assign_Tuple]
  refine wpAny_bind (wpAny_standAt ?_)
  unfold unpack
  rw [he]
  show wpAny _ _ (holding [.ref a] (unpackItems (.ref a) 2 (some 1)) >>= assignInOrder [assign e1 X.env, assign e2 X.env]) _ _ _
  cases rv with
  | @cons _ u _ us rx rr =>
    refine wpAny_bind (wpAny_holding (star_items (I.ok.hd hc) pl.isList (by rw [List.size_toArray]; show 1 ≤ us.length + 1; omega) (by rw [List.size_toArray, ← hl]; exact hz) fun h' tk hx => ?_))
    have I1 : Inv X pins σ H { s with heap := h', toks := tk } := I.kept (t' := tk) fun b o e => hx b o (Nat.ne_of_lt (Heap.lt_size e)) e
    have I2 := I1.laid (t' := tk) (o := .lst xs) (a := h'.objs.size) (h' := h'.push { cls := .type "list", data := .seq us.toArray }) (fun b ob q => Heap.get?_push_of_some _ q) (Nat.le_refl _) ⟨by have := hz; rw [List.length_cons] at this; omega, _, 0, rr, Heap.get?_push_size _ rfl⟩
    rw [← hs]
    exact h.run pins _ σ _ [x, .ref h'.objs.size] _ Q I2 (.cons rx (.cons rfl .nil)) (hw _ (I1.hok.fresh (Nat.le_refl _)))
end
def pickL {α : Type} (xs : List α) (lo hi : Option Int) (st : Int) : List α :=
  (sliceRange (sliceBounds lo hi (some st) xs.length).1 (sliceBounds lo hi (some st) xs.length).2.1 (sliceBounds lo hi (some st) xs.length).2.2).filterMap (xs[·]?)
theorem pick_vals {xs : List V} {its : List Value} (r : Vals xs its) : ∀ ks : List Nat, Vals (ks.filterMap (xs[·]?)) (ks.filterMap (its[·]?))
  | [] => .nil
  | k :: ks => by
    rw [List.filterMap_cons, List.filterMap_cons]
    cases e : xs[k]? with
    | none =>
      rw [List.getElem?_eq_none_iff, r.length, ← List.getElem?_eq_none_iff] at e
      rw [e]
      exact pick_vals r ks
    | some x =>
      obtain ⟨u, hu, ru⟩ := r.get e
      rw [hu]
      exact .cons ru (pick_vals r ks)
theorem pick_rs {K : PySem.W.Frag} {U : Hp} {ds : List D} {xs : List V} (r : Rs K U ds xs) : ∀ ks : List Nat, Rs K U (ks.filterMap (ds[·]?)) (ks.filterMap (xs[·]?))
  | [] => rfl
  | k :: ks => by
    rw [List.filterMap_cons, List.filterMap_cons]
    cases e : ds[k]? with
    | none =>
      rw [List.getElem?_eq_none_iff, r.len, ← List.getElem?_eq_none_iff] at e
      rw [e]
      exact pick_rs r ks
    | some d =>
      obtain ⟨u, hu, ru⟩ := r.at _ _ e
      rw [hu]
      exact ⟨u, _, rfl, ru, pick_rs r ks⟩
def tSlL (K : PySem.W.Frag) (st : Int) (te : TE) (tl th : TO) : TE := fun σ H Q => te σ H fun x H1 => tl σ H1 fun lo H2 => th σ H2 fun hi H3 => ∃ a xs, x = .ref a ∧ SqL K H3 a xs ∧ (pickL xs lo hi st).length ≤ sizeLine ∧ ∀ p, H3 p = none → Q (.ref p) (upd H3 p (.lst (pickL xs lo hi st)))
theorem pe_slL {X : Cx} {K : PySem.W.Frag} {e : Expr} {te : TE} {lo hi : Option Expr} {tl th : TO} {st : Int} {k : Nat} {p1 p2 pos : Pos} (hK : X.K = K) (he : PE X e te) (hl : PO X lo tl) (hu : PO X hi th) (h0 : st ≠ 0 := by decide) :
    PE X (.Subscript e (.Slice lo hi (some (.Constant (.int st) k p1)) p2) pos) (tSlL K st te tl th) := by
  subst hK
  refine ⟨fun pins s σ H Q I h => ?_⟩
  refine Subscript_ (thn (he.run pins s σ H _ I h) fun v s1 ⟨x, H1, I1, r1, q1⟩ => ?_)
  refine wpAny_Slice (thn (hl.run pins s1 σ H1 _ I1 q1) fun vl s2 ⟨l, H2, I2, pl, q2⟩ => thn (hu.run pins s2 σ H2 _ I2 q2) fun vu s3 ⟨u, H3, I3, pu, q3⟩ => ?_)
  have hst : PO X (some (.Constant (.int st) k p1)) (tPart (tC (.int st))) := po_some pe_int
  refine thn (hst.run pins s3 σ H3 (fun o H4 => o = some st ∧ H4 = H3) I3 ⟨st, rfl, rfl, rfl⟩) fun vs s4 ⟨o, H4, I4, ps, eo, e4⟩ => ?_
  subst eo e4
  obtain ⟨a, xs, rfl, hx, hz, q⟩ := q3
  cases r1
  have I5 : Inv X pins σ H4 { s4 with heap := s4.heap.push { cls := .type "slice", data := .fields #[vl, vu, vs] } } := I4.kept (t' := s4.toks) fun b ob q => Heap.get?_push_of_some _ q
  obtain ⟨its, r, ht, hz0⟩ := I5.list hx
  have hlen := r.length
  show wpAny (model X.prog X.w) X.A (subscriptTail e (.Slice lo hi (some (.Constant (.int st) k p1)) p2) (.ref a) (.ref s4.heap.objs.size)) (EP X pins σ Q) X.xe { s4 with heap := s4.heap.push { cls := .type "slice", data := .fields #[vl, vu, vs] } }
  have rp : Vals (pickL xs l u st) (pickL its l u st) := by
    unfold pickL
    rw [hlen]
    exact pick_vals r _
  refine tail_any (ops := [.ref a, .ref s4.heap.objs.size]) ht.isList.typeIs slot_list_getitem.lookup ?_ (by with_unfolding_all rfl)
  refine wpAny_getItem_list_slice ht.isList (Heap.IsSliceOf.new ..) pl pu ps (by intro z; exact h0 (Option.some.inj z)) ?_ (by rw [List.size_toArray, ← hlen]; exact hz0)
  have e : slicePick its.toArray l u (some st) = (pickL its l u st).toArray := by
    unfold slicePick pickL
    simp only [List.size_toArray, List.getElem?_toArray]
  rw [e]
  exact ⟨.ref _, _, I5.laid (t' := s4.toks) (o := .lst (pickL xs l u st)) (fun b ob q => Heap.get?_push_of_some _ q) (Nat.le_refl _) ⟨hz, _, 0, rp, Heap.get?_push_size _ rfl⟩, rfl, q _ (I5.hok.fresh (Nat.le_refl _))⟩
section
variable {c : DC} {U H : Hp} {σ : L2.St} {ρ : Env} {te : TE} {e : AE} {tl th : TO} {l h : AP}
def aSlLs (st : Int) (a : AE) (lo hi : AP) : AE := fun ρ Q X => a ρ (lstQ fun ds => lo ρ (fun l => hi ρ (fun h => (pickL ds l h st).length ≤ 1000000 ∧ Q (.lst (pickL ds l h st))) X) X) X
theorem sim_slLs {st : Int} (ha : SimW c te e) (hl : SimP c tl l) (hh : SimP c th h) : SimE c (tSlL c.K st te tl th) (aSlLs st e l h) := fun U H σ ρ Q q I z k =>
  ha U H σ ρ _ _ I z fun U1 H1 d v g1 I1 w1 z1 => by
    obtain ⟨ds, rfl, z2⟩ := lstQ_of z1
    refine hl U1 H1 σ ρ _ _ I1 z2 fun U2 H2 lo g2 I2 z3 => hh U2 H2 σ ρ _ _ I2 z3 fun U3 H3 hi g3 I3 z4 => ?_
    obtain ⟨a, xs, rfl, hs, hr⟩ := ((w1.mono (g2.vv.trans g3.vv)).cr I3).lst I3.vh
    have rp : Rs c.K U3 (pickL ds lo hi st) (pickL xs lo hi st) := by
      unfold pickL
      rw [hr.len]
      exact pick_rs hr _
    refine ⟨a, xs, rfl, SqL.of hs, le_size (by rw [← rp.len]; exact z4.1), fun p np => ?_⟩
    have g4 : Gr [] U3 H3 (upd U3 p (.lst (pickL xs lo hi st))) (upd H3 p (.lst (pickL xs lo hi st))) := (Gr.refl I3.vh).new np
    exact k _ _ (.lst (pickL ds lo hi st)) (.ref p) (((g1.trans g2).trans g3).trans g4.any) (I3.grow g4) (R.lst upd_same (Rs.mono g4.vv _ _ rp)) z4.2
theorem w_slLs {Q : D → Prop} {X : Exn → Prop} {st : Int} (q : e ρ (lstQ fun ds => l ρ (fun lo => h ρ (fun hi => (pickL ds lo hi st).length ≤ 1000000 ∧ Q (.lst (pickL ds lo hi st))) X) X) X) : aSlLs st e l h ρ Q X := q
instance s_slLs {Q : D → Prop} {X : Exn → Prop} {st : Int} : Stp (aSlLs st e l h ρ Q X) (e ρ (lstQ fun ds => l ρ (fun lo => h ρ (fun hi => (pickL ds lo hi st).length ≤ 1000000 ∧ Q (.lst (pickL ds lo hi st))) X) X) X) := ⟨w_slLs⟩
/-- a, *b = a list: both are only read from here on -/
def consQ (Q : D → List D → Prop) : List D → Prop
  | d :: ds => Q d ds
  | [] => False
def aStar (i j : Nat) (e : AE) : AS := fun N ρ => e ρ (lstQ (consQ fun d ds => N.nx ((ρ.set i (some (.fz d))).set j (some (.fz (.lst ds)))))) (fun x => N.ex x ρ)
theorem sim_star {i j : Nat} (hi : noPar c i = true) (hj : noPar c j = true) (he : SimW c te e) : SimS c (tAsg te (gStr c.K (gCons (gName i) (gCons (gName j) gNil)))) (aStar i j e) := fun U H σ ρ N n hx I z P => by
  unfold aStar at z
  rw [hx] at z
  refine he U H σ ρ _ _ I z fun U1 H1 d v g1 I1 w1 z1 => ?_
  obtain ⟨ds, rfl, z2⟩ := lstQ_of z1
  cases ds with
  | nil => exact z2.elim
  | cons d0 ds =>
    obtain ⟨a, xs, rfl, hs, hr⟩ := (w1.cr I1).lst I1.vh
    obtain ⟨x, xs', rfl, r0, rr⟩ := hr
    refine ⟨a, x, xs', rfl, SqL.of hs, fun p np => ?_⟩
    have g4 : Gr [] U1 H1 (upd U1 p (.lst xs')) (upd H1 p (.lst xs')) := (Gr.refl I1.vh).new np
    have I2 := I1.grow g4
    exact ⟨x, [.ref p], rfl, .ref p, [], rfl, rfl, P.nx _ _ _ _ (g1.vv.trans g4.vv) ((I2.setF (R.mono g4.vv _ _ r0) hi).setF (R.lst upd_same (Rs.mono g4.vv _ _ rr)) hj) z2⟩
theorem w_star {i j : Nat} {nx bk ct : Env → Prop} {rt : AV → Env → Prop} {ex : Exn → Env → Prop} (q : e ρ (lstQ (consQ fun d ds => nx ((ρ.set i (some (.fz d))).set j (some (.fz (.lst ds)))))) (fun x => ex x ρ)) : aStar i j e ⟨nx, rt, bk, ct, ex⟩ ρ := q
instance s_star {i j : Nat} {nx bk ct : Env → Prop} {rt : AV → Env → Prop} {ex : Exn → Env → Prop} : Stp (aStar i j e ⟨nx, rt, bk, ct, ex⟩ ρ) (e ρ (lstQ (consQ fun d ds => nx ((ρ.set i (some (.fz d))).set j (some (.fz (.lst ds)))))) (fun x => ex x ρ)) := ⟨w_star⟩
theorem w_consQ {Q : D → List D → Prop} {d : D} {ds : List D} (q : Q d ds) : consQ Q (d :: ds) := q
def strAV (Q : D → Prop) : AV → Prop
  | .fz (.str x) => Q (.str x)
  | _ => False
def aStrO (C : Addr) (A : AF) (a : AE) : AE := fun ρ Q X => a ρ (fun d => isObj C d ∧ A [.fz d] (strAV Q) fun _ => False) X
theorem sim_strO {C : Addr} {A : AF} {ta : TE} {a : AE} {E : XK} (ha : SimE c ta a) : SimE c (tCB (rStrOwn C (spD c.K c.tb A) E) (tCons ta tNil)) (aStrO C A a) := fun U H σ ρ Q q I z k =>
  ha U H σ ρ _ _ I z fun U1 H1 d v g1 I1 r1 z1 => by
    obtain ⟨ok, z3⟩ := z1
    cases d with
    | obj C' ns ds =>
      obtain rfl : C' = C := ok
      have r1' := r1
      obtain ⟨p, dx, xs, rfl, hp, _⟩ := r1'
      refine ⟨p, dx, _, rfl, I1.vh _ _ hp, ?_⟩
      refine run_spD (Q := strAV Q) (X := fun _ => False) I1 (as := [.val (.obj C' ns ds)]) (vs := [.ref p]) (.cons r1 .nil) ⟨Nat.zero_le _, z3⟩ (fun U3 H3 av v g3 I3 r3 n3 z4 => ?_) (fun _ _ _ _ _ _ _ z => z.elim)
      cases av with
      | fz y =>
        cases y with
        | str x => exact ⟨x, r3, by rw [show v = .str x from r3] at *; exact k U3 H3 (.str x) _ (g1.trans g3) I3 rfl z4⟩
        | _ => exact z4.elim
      | _ => exact z4.elim
    | _ => exact (show False from ok).elim
theorem w_strO {C : Addr} {A : AF} {a : AE} {Q : D → Prop} {X : Exn → Prop} (q : a ρ (fun d => isObj C d ∧ A [.fz d] (strAV Q) fun _ => False) X) : aStrO C A a ρ Q X := q
instance s_strO {C : Addr} {A : AF} {a : AE} {Q : D → Prop} {X : Exn → Prop} : Stp (aStrO C A a ρ Q X) (a ρ (fun d => isObj C d ∧ A [.fz d] (strAV Q) fun _ => False) X) := ⟨w_strO⟩
theorem w_strAV {Q : D → Prop} {x : Str} (q : Q (.str x)) : strAV Q (.fz (.str x)) := q
def fmtQ (Q : D → Prop) : D → Prop
  | .str y => y.length ≤ 1000000 ∧ Q (.str y)
  | .int i => i.natAbs.log2 < 1920 ∧ Q (.str (toString i))
  | _ => False
def aFmt (a : AE) : AE := fun ρ Q X => a ρ (fmtQ Q) X
theorem sim_fmt {ta : TE} {a : AE} (ha : SimW c ta a) : SimE c (tFmt ta) (aFmt a) := fun U H σ ρ Q q I z k =>
  ha U H σ ρ _ _ I z fun U1 H1 d v g1 I1 w1 z1 => by
    cases d with
    | str y => exact .inl ⟨y, (w1.cr I1).str, le_size z1.1, k U1 H1 (.str y) _ g1 I1 rfl z1.2⟩
    | int i => exact .inr ⟨i, (w1.cr I1).int, z1.1, k U1 H1 (.str (toString i)) _ g1 I1 rfl z1.2⟩
    | _ => exact (show False from z1).elim
theorem w_fmt {a : AE} {Q : D → Prop} {X : Exn → Prop} (q : a ρ (fmtQ Q) X) : aFmt a ρ Q X := q
instance s_fmt {a : AE} {Q : D → Prop} {X : Exn → Prop} : Stp (aFmt a ρ Q X) (a ρ (fmtQ Q) X) := ⟨w_fmt⟩
def aJs : List AE → Str → Env → (Str → Prop) → (Exn → Prop) → Prop
  | [], acc, _, Q, _ => Q acc
  | a :: as, acc, ρ, Q, X => a ρ (strQ fun y => (acc ++ y).length ≤ 1000000 ∧ aJs as (acc ++ y) ρ Q X) X
inductive SimJ (c : DC) : List TE → List AE → Prop where
  | nil : SimJ c [] []
  | cons {t : TE} {a : AE} {ts : List TE} {as : List AE} (h : SimE c t a) (r : SimJ c ts as) : SimJ c (t :: ts) (a :: as)
def aFst (as : List AE) : AE := fun ρ Q X => aJs as Str.empty ρ (fun y => Q (.str y)) X
theorem sim_js {ts : List TE} {as : List AE} (h : SimJ c ts as) : ∀ (acc : Str) (U H : Hp) (σ : L2.St) (ρ : Env) (Q : Str → Prop) (q : Str → Hp → Prop), DI c U H σ ρ → aJs as acc ρ Q (c.x ρ) →
    (∀ U' H' y, Gr (drs ρ σ) U H U' H' → DI c U' H' σ ρ → Q y → q y H') → tJs ts acc σ H q := by
  induction h with
  | nil => exact fun acc U H σ ρ Q q I z k => k U H acc (Gr.refl I.vh).any I z
  | cons h r ih =>
    intro acc U H σ ρ Q q I z k
    refine h U H σ ρ _ _ I z fun U1 H1 d v g1 I1 r1 z1 => ?_
    obtain ⟨y, rfl, hl, z2⟩ := strQ_of z1
    exact ⟨y, r1, le_size hl, ih (acc ++ y) U1 H1 σ ρ Q q I1 z2 fun U2 H2 y' g2 I2 z3 => k U2 H2 y' (g1.trans g2) I2 z3⟩
theorem sim_fst {ts : List TE} {as : List AE} (h : SimJ c ts as) : SimE c (fun σ H Q => tJs ts Str.empty σ H fun out H1 => Q (.str out) H1) (aFst as) := fun U H σ ρ Q q I z k =>
  sim_js h Str.empty U H σ ρ _ _ I z fun U1 H1 y g1 I1 z1 => k U1 H1 (.str y) _ g1 I1 rfl z1
def MtO (K : PySem.W.Frag) (m : V → List V → Hp → VK → Prop) (f : D → List D → (AV → Prop) → Prop) : Prop := ∀ (U H : Hp) (v : V) (vs : List V) (d : D) (ds : List D) (Q : AV → Prop) (q : VK), Same U H → CR K U H d v → Paired (CR K U H) ds vs → f d ds Q →
  (∀ U' H' av u, Gr [] U H U' H' → RepA K U' H' av u → Fresh U' H av u → Q av → q u H') → m v vs H q
def aBmO (f : D → List D → (AV → Prop) → Prop) (a : AE) (r : AL) : AO := fun ρ Q X => a ρ (strQ fun x => r ρ (fun ds => f (.str x) ds Q) X) X
theorem sim_bmO {ta : TE} {tr : TA} {a : AE} {r : AL} {m : V → List V → Hp → VK → Prop} {f : D → List D → (AV → Prop) → Prop} (h : MtO c.K m f) (ha : SimW c ta a) (hr : SimLW c tr r) : SimO c (tBM c.K "str" m ta tr) (aBmO f a r) := fun U H σ ρ Q q I z k =>
  ha U H σ ρ _ _ I z fun U1 H1 d v g1 I1 w1 z1 => by
    obtain ⟨x, rfl, z2⟩ := strQ_of z1
    have e := (w1.cr I1).str
    subst e
    exact ⟨rfl, hr U1 H1 σ ρ _ _ I1 z2 fun U2 H2 ds vs g2 I2 w2 z3 => h U2 H2 _ vs (.str x) ds Q q I2.vh (.of rfl) (wks_cr I2 w2) z3 fun U3 H3 y u g3 r3 n3 z4 => k U3 H3 y u ((g1.trans g2).trans g3.any) (I2.grow g3) r3 (n3.back fun _ h => (g1.trans g2).fresh h) z4⟩
def rSplit : V → List V → Hp → VK → Prop := fun x xs H Q => ∃ a b, x = .str a ∧ xs = [.str b] ∧ (b.length == 0) = false ∧ a.length + 2 ≤ sizeLine ∧ rNewStrs (Txt.split a b) H Q
theorem mt_splitR {X : Cx} : MtR X "str.split" rSplit := mt_split
def oSplit : D → List D → (AV → Prop) → Prop := fun d ds O => strQ (fun x => oneQ (strQ fun y => ((y.length == 0) = false ∧ x.length ≤ 100000) ∧ O (.ol ((Txt.split x y).map .str))) ds) d
theorem mt_splitD {K : PySem.W.Frag} : MtO K rSplit oSplit := fun U H v vs d ds Q q s cd cs z k => by
  obtain ⟨x, rfl, y0⟩ := strQ_of z
  obtain ⟨e, rfl, y1⟩ := oneQ_of y0
  obtain ⟨y, rfl, ⟨z1, z2⟩, z3⟩ := strQ_of y1
  obtain ⟨w, rfl, ce⟩ := paired1 cs
  exact ⟨x, y, cd.str, by rw [ce.str], z1, Nat.le_trans (show x.length + 2 ≤ 100002 by omega) (by decide), fun p np => own_new s np (rs_strs _) z3 k⟩
theorem w_bmO {f : D → List D → (AV → Prop) → Prop} {a : AE} {r : AL} {O : AV → Prop} {X : Exn → Prop} (q : a ρ (strQ fun x => r ρ (fun ds => f (.str x) ds O) X) X) : aBmO f a r ρ O X := q
instance s_bmO {f : D → List D → (AV → Prop) → Prop} {a : AE} {r : AL} {O : AV → Prop} {X : Exn → Prop} : Stp (aBmO f a r ρ O X) (a ρ (strQ fun x => r ρ (fun ds => f (.str x) ds O) X) X) := ⟨w_bmO⟩
theorem w_split {O : AV → Prop} {x y : Str} (h : (y.length == 0) = false) (hl : x.length ≤ 100000) (q : O (.ol ((Txt.split x y).map .str))) : oSplit (.str x) [.str y] O := ⟨⟨h, hl⟩, q⟩
def rIntS : List V → Hp → VK → Prop := fun xs H Q => ∃ a n, xs = [.str a] ∧ PySem.intText? a = some n ∧ a.length ≤ 640 ∧ Q (.int n) H
theorem cr_intS {X : Cx} : CallR X (.type "int") rIntS := call_int_str
def oIntS : List D → (D → Prop) → Prop := fun ds Q => oneQ (strQ fun x => x.length ≤ 640 ∧ someQ (fun n => Q (.int n)) (PySem.intText? x)) ds
theorem bu_intS {K : PySem.W.Frag} : BuD K rIntS oIntS := fun U H vs ds Q q s cs z k => by
  obtain ⟨e, rfl, y1⟩ := oneQ_of z
  obtain ⟨x, rfl, z1, z2⟩ := strQ_of y1
  obtain ⟨n, hn, z3⟩ := someQ_of z2
  obtain ⟨w, rfl, ce⟩ := paired1 cs
  exact ⟨x, n, by rw [ce.str], hn, z1, k U H (.int n) _ (Gr.refl s) rfl z3⟩
theorem w_intS {Q : D → Prop} {x : Str} {n : Int} (h : x.length ≤ 640) (hn : PySem.intText? x = some n) (q : Q (.int n)) : oIntS [.str x] Q := ⟨h, by rw [hn]; exact q⟩
end
end SW
open PySem L2 SW
local macro_rules | `(tactic| walk_at "sw1") => `(tactic| first
  | with_reducible refine i_seq ?_
  | with_reducible refine i_set ?_
  | with_reducible refine i_asg ?_
  | with_reducible refine i_var rfl ?_
  | with_reducible refine i_c ?_
  | with_reducible refine i_op ?_
  | with_reducible refine i_rI0 ?_
  | with_reducible refine i_cons ?_
  | with_reducible refine i_nil ?_
  | with_reducible refine i_call ?_
  | with_reducible refine i_cb ?_
  | with_reducible refine i_if ?_
  | with_reducible refine i_test ?_
  | with_reducible refine i_B ?_
  | with_reducible refine i_bl ?_
  | with_reducible refine i_blV ?_
  | with_reducible refine i_itT ?_
  | with_reducible refine i_itF ?_
  | with_reducible refine i_iteNT ?_
  | with_reducible refine i_iteNF ?_
  | with_reducible refine i_iteNN ?_
  | with_reducible refine i_ret ?_
  | with_reducible refine i_drop ?_
  | with_reducible refine i_next ?_
  | with_reducible refine i_un ?_
  | with_reducible refine i_rU ?_
  | with_reducible refine i_eqI ?_
  | with_reducible refine i_neI ?_
  | with_reducible refine i_eqS ?_
  | with_reducible refine i_neS ?_
  | with_reducible refine i_not ?_
  | with_reducible refine i_and ?_
  | with_reducible refine i_or ?_
  | with_reducible refine i_andV ?_
  | with_reducible refine i_orV ?_
  | with_reducible refine i_notV ?_
  | with_reducible refine i_ifE ?_
  | with_reducible refine i_chain ?_
  | with_reducible refine i_sub ?_
  | with_reducible refine i_lst ?_
  | with_reducible refine i_tup ?_
  | with_reducible refine i_for1 ?_
  | with_reducible refine i_for2 ?_
  | with_reducible refine i_for3 ?_
  | with_reducible refine i_forL ?_
  | with_reducible refine i_forT ?_
  | with_reducible refine i_lc1 ?_
  | with_reducible refine i_lc2 ?_
  | with_reducible refine i_lcL ?_
  | with_reducible refine i_lcT ?_
  | with_reducible refine i_gname ?_
  | with_reducible refine i_yes ?_
  | with_reducible refine i_callN ?_
  | with_reducible refine i_callW ?_
  | with_reducible refine i_callS ?_
  | with_reducible refine i_par ?_
  | with_reducible refine i_sl ?_
  | with_reducible refine i_nopart ?_
  | with_reducible refine i_part ?_
  | with_reducible refine i_partE ?_
  | with_reducible refine i_parE ?_
  | with_reducible refine i_ipI ?_
  | with_reducible refine i_asg2 ?_
  | with_reducible refine i_gcons ?_
  | with_reducible refine i_gnil ?_
  | with_reducible refine i_retN ?_
  | with_reducible refine i_brk ?_
  | with_reducible refine i_cont ?_)
local macro_rules | `(tactic| walk_at "hp") => `(tactic| first | assumption | exact upd_same | (refine upd_get (by assumption) ?_; walk_at "hp") | ((rw [upd_ne (by assumption)]); walk_at "hp"))
local macro_rules | `(tactic| walk_at "cc") => `(tactic| first | omega | decide | exact ⟨by decide, by decide⟩ | exact ⟨by omega, by omega⟩ | exact ⟨by decide, by decide, by decide⟩ | exact Or.inr ⟨by decide, by decide⟩ | exact Or.inl ⟨by decide, by decide⟩ | exact Or.inr ⟨by omega, by omega⟩ | exact Or.inl ⟨by omega, by omega⟩ | assumption)
local macro_rules | `(tactic| walk_at "sw2") => `(tactic| first
  | walk_at "sw1"
  | ((with_reducible refine' i_rI ?c1 ?_); (case c1 => (dsimp only; walk_at "cc")))
  | ((with_reducible refine' i_rI ?c1 ?_); (case c1 => (walk_at "cc")))
  | ((with_reducible refine' i_ixL ?c1 ?c2 ?_); (case c1 => walk_at "hp"); (case c2 => exact rfl))
  | ((with_reducible refine' i_ixT ?c1 ?c2 ?_); (case c1 => walk_at "hp"); (case c2 => exact rfl))
  | with_reducible refine i_isI ?_
  | with_reducible refine i_isB ?_
  | with_reducible refine i_isBB ?_
  | ((with_reducible refine' i_isL ?c1 ?_); (case c1 => walk_at "hp"))
  | ((with_reducible refine' i_isT ?c1 ?_); (case c1 => walk_at "hp"))
  | ((with_reducible refine' i_setL ?c1 ?c2 ?_); (case c1 => walk_at "hp"); (case c2 => exact rfl))
  | ((with_reducible refine' i_rI ?c1 ?_); (case c1 => first | (apply_assumption; done) | exact wide_div (b := 200) (by omega) (by omega) (by decide) (by decide)))
  | ((with_reducible refine' Exists.intro _ (Exists.intro _ (And.intro rfl (And.intro (Or.inl (SqL.of ?c1)) ?_)))); (case c1 => walk_at "hp"))
  | ((with_reducible refine' Exists.intro _ (Exists.intro _ (And.intro rfl (And.intro (Or.inr (SqT.of ?c1)) ?_)))); (case c1 => walk_at "hp"))
  | ((with_reducible refine' Exists.intro _ (And.intro (rfl : [V.int _] = [V.int _]) ?_)))
  | ((with_reducible refine' Exists.intro _ (Exists.intro _ (And.intro (rfl : [V.int _, V.int _] = [V.int _, V.int _]) ?_))))
  | (with_reducible refine And.intro (Nat.le_of_ble_eq_true rfl : List.length _ ≤ sizeLine) ?_))
local macro_rules | `(tactic| walk_at "sw3") => `(tactic| first
  | walk_at "sw2"
  | with_reducible refine i_fld ?_
  | ((with_reducible refine' i_fldI ?c1 ?c2 ?c3 ?c4 ?_); (case c1 => walk_at "hp"); (case c2 => assumption); (case c3 => assumption); (case c4 => exact rfl))
  | with_reducible refine i_sfld ?_
  | ((with_reducible refine' i_sfldI ?c1 ?c2 ?c3 ?c4 ?c5 ?_); (case c1 => walk_at "hp"); (case c2 => assumption); (case c3 => assumption); (case c4 => exact rfl); (case c5 => exact (Nat.le_of_ble_eq_true rfl)))
  | with_reducible refine i_meS ?_
  | with_reducible refine i_meth ?_
  | ((with_reducible refine' i_recv ?c1 ?c2 ?_); (case c1 => walk_at "hp"); (case c2 => exact rfl))
  | with_reducible refine i_mkS ?_
  | with_reducible refine i_mkNS ?_
  | with_reducible refine i_callNS ?_
  | with_reducible refine i_callSD ?_
  | with_reducible refine i_forE ?_
  | with_reducible refine i_forZ ?_
  | with_reducible refine i_lcE ?_
  | with_reducible refine i_lcZ ?_
  | ((with_reducible refine' i_aug ?c1 ?_); (case c1 => exact rfl))
  | with_reducible refine And.intro (rfl : V.non = V.non) ?_
  | with_reducible refine i_bm ?_
  | with_reducible refine i_bm0 ?_
  | ((with_reducible refine' i_lenL ?c1 ?_); (case c1 => walk_at "hp"))
  | ((with_reducible refine' i_lenT ?c1 ?_); (case c1 => walk_at "hp"))
  | ((with_reducible refine' i_listL ?c1 ?_); (case c1 => walk_at "hp"))
  | ((with_reducible refine' i_listT ?c1 ?_); (case c1 => walk_at "hp"))
  | ((with_reducible refine' i_tupleL ?c1 ?_); (case c1 => walk_at "hp"))
  | ((with_reducible refine' i_tupleT ?c1 ?_); (case c1 => walk_at "hp"))
  | ((with_reducible refine' i_tyL ?c1 ?_); (case c1 => walk_at "hp"))
  | ((with_reducible refine' i_app ?c1 ?c2 ?_); (case c1 => walk_at "hp"); (case c2 => first | assumption | omega | (simp; done) | ((simp only [List.length_map, List.length_append, List.length_take]); omega)))
  | ((with_reducible refine' i_slL ?c1 ?_); (case c1 => walk_at "hp"))
  | ((with_reducible refine' i_gtup ?c1 ?c2 ?_); (case c1 => walk_at "hp"); (case c2 => exact rfl)))
local macro_rules | `(tactic| walk_at "sw") => `(tactic| ((try dsimp only); repeat walk_at "sw3"))
local macro_rules | `(tactic| walk_at "arr") => `(tactic| (intro vs zs h; first
  | (match zs, h with | [_], _ => rfl)
  | (match zs, h with | [_, _], _ => rfl)
  | (match zs, h with | [_, _, _], _ => rfl)
  | (match zs, h with | [_, _, _, _], _ => rfl)))
local macro_rules | `(tactic| walk_at "aw1") => `(tactic| first
  | ((with_reducible refine' w_sealL ?c1 ?_); (case c1 => exact rfl))
  | ((with_reducible refine' w_sealF ?c1 ?_); (case c1 => exact rfl))
  | ((with_reducible refine' w_callQ ?c1 ?c2 ?_); (case c1 => exact (Nat.le_of_ble_eq_true rfl)); (case c2 => exact rfl))
  | ((with_reducible refine' w_oIC ?c1 ?_); (case c1 => (dsimp only; walk_at "cc")))
  | ((with_reducible refine' w_oIC ?c1 ?_); (case c1 => walk_at "cc"))
  | ((with_reducible refine' w_isiT ?c1 ?c2 ?c3 ?_); (case c1 => exact rfl); (case c2 => decide); (case c3 => decide))
  | ((with_reducible refine' w_isiF ?c1 ?c2 ?c3 ?_); (case c1 => exact rfl); (case c2 => decide); (case c3 => decide))
  | (with_reducible refine And.intro (Nat.le_of_ble_eq_true rfl : List.length _ ≤ 1000000) ?_)
  | (with_reducible refine And.intro (Nat.le_of_ble_eq_true rfl : List.length _ < 1000000) ?_))
local macro_rules | `(tactic| walk_at "am1") => `(tactic| first
  | ((with_reducible refine' m_appN ?c1 ?_); (case c1 => exact rfl))
  | ((with_reducible refine' m_callM ?c1 ?c2 ?_); (case c1 => exact rfl); (case c2 => exact rfl))
  | ((with_reducible refine' w_obfQ ?c1 ?c2 ?c3 ?_); (case c1 => exact rfl); (case c2 => exact rfl); (case c3 => exact rfl))
  | ((with_reducible refine' w_fldS ?c1 ?c2 ?c3 ?c4 ?_); (case c1 => exact rfl); (case c2 => exact rfl); (case c3 => exact rfl); (case c4 => exact rfl))
  | ((with_reducible refine' w_lcD ?c1 ?c2 ?c3 ?_); (case c1 => exact rfl); (case c2 => exact rfl); (case c3 => exact rfl))
  | ((with_reducible refine' m_me ?c1 ?c2 ?_); (case c1 => exact rfl); (case c2 => exact rfl))
  | ((with_reducible refine' m_me0 ?c1 ?c2 ?_); (case c1 => exact rfl); (case c2 => exact rfl))
  | ((with_reducible refine' m_meN0 ?c1 ?c2 ?_); (case c1 => exact rfl); (case c2 => exact rfl))
  | ((with_reducible refine' m_lenOwn ?c1 ?_); (case c1 => exact rfl))
  | ((with_reducible refine' m_meD0 ?c1 ?c2 ?_); (case c1 => exact rfl); (case c2 => exact rfl)))
local macro_rules | `(tactic| walk_at "aw0") => `(tactic| first
  | with_reducible refine Stp.go ?_
  | ((with_reducible refine' St1.go _ ?c1 ?_); (case c1 => exact rfl))
  | ((with_reducible refine' St0.go ?c1 ?_); (case c1 => exact rfl))
  | ((with_reducible refine' St2.go _ _ ?c1 ?c2 ?_); (case c1 => exact rfl); (case c2 => first | exact rfl | exact trivial)))
local macro_rules | `(tactic| walk_at "aw") => `(tactic| ((repeat (first | walk_at "aw0" | walk_at "aw1" | walk_at "am1")); (try dsimp only [List.set_cons_zero, List.set_cons_succ])))
local macro_rules | `(tactic| walk_at "rg") => `(tactic| ((try rw [List.length_map]); (refine ⟨⟨by omega, by omega⟩, ?_⟩); (rw [Int.toNat_natCast])))
local macro_rules | `(tactic| walk_at "awt") => `(tactic| (repeat (first | walk_at "aw0" | walk_at "aw1" | walk_at "am1" | ((with_reducible refine' w_catT ?c1 ?_); (case c1 => exact Nat.le_of_ble_eq_true rfl)) | ((with_reducible refine' w_ixT ?c1 ?_); (case c1 => exact rfl)))))
local macro_rules | `(tactic| walk_at "kbr") => `(tactic| (repeat' (first | exact trivial | exact fun _ => rfl | exact fun U => ⟨_, _, rfl, by first | exact (by assumption : ∀ H : Hp, SqT _ H _ _) U | assumption, rfl⟩ | refine And.intro ?_ ?_)))
local macro_rules | `(tactic| walk_at "drs") => `(tactic| first
  | exact fun _ => ⟨_, _, rfl, rfl, rfl⟩
  | exact fun U => ⟨_, _, rfl, rfl, _, _, rfl, ⟨_, _, rfl, (by assumption : ∀ H : Hp, SqT _ H _ _) U, rfl⟩, rfl⟩)
local macro_rules | `(tactic| walk_at "hnds") => `(tactic| (repeat' first
  | exact HndsR.nil
  | (refine HndsR.named rfl rfl (fun a D o => ?_) ?_)
  | (refine HndsR.only (fun a D o => ?_) ?_)))
local macro_rules | `(tactic| walk_at "am1") => `(tactic| first
  | ((with_reducible refine' w_try ?c1 ?c2 ?_); (case c1 => exact rfl); (case c2 => exact rfl)))
local macro_rules | `(tactic| walk_at "am1") => `(tactic| first
  | ((with_reducible refine' w_fldE ?c1 ?c2 ?c3 ?_); (case c1 => exact rfl); (case c2 => exact rfl); (case c3 => exact rfl))
  | ((with_reducible refine' w_appLF ?c1 ?c2 ?c3 ?_); (case c1 => exact rfl); (case c2 => exact rfl); (case c3 => exact rfl)))
namespace SW
open PySem L2
variable [QN]
def top (i : Nat) : Stmt := PySem.Challenge.pw_slotwright_k11_frames_written_and_read.main.body.getD i (.Pass ⟨0, 0, 0, 0⟩)
abbrev s_within : Stmt := top 10
abbrev s_check : Stmt := top 11
abbrev s_good_name : Stmt := top 14
abbrev s_good_way : Stmt := top 16
abbrev s_good_ways : Stmt := top 17
abbrev s_Frame_init : Stmt := inClass (top 18) 0
abbrev s_Frame_numbers : Stmt := inClass (top 18) 1
abbrev s_Frame_eq : Stmt := inClass (top 18) 2
abbrev s_Frame_str : Stmt := inClass (top 18) 3
abbrev s_read_number : Stmt := top 19
abbrev s_read_frame : Stmt := top 20
abbrev s_law_start : Stmt := top 22
abbrev s_law_draw : Stmt := top 23
abbrev s_law_pick : Stmt := top 24
abbrev s_law_name : Stmt := top 25
abbrev s_law_hop : Stmt := top 26
abbrev s_law_way : Stmt := top 27
abbrev s_law_need : Stmt := top 28
abbrev s_law_row : Stmt := top 29
abbrev s_law_world : Stmt := top 30
abbrev s_law_frame : Stmt := top 31
abbrev s_law_text : Stmt := top 32
abbrev s_law_whole : Stmt := top 33
abbrev s_law_fields : Stmt := top 34
abbrev s_law : Stmt := top 35
theorem sc_within : FnScope ["value", "low", "high"] ["value", "low", "high"] (defScope s_within) := ⟨rfl, rfl, rfl, by decide +kernel, rfl, by decide +kernel, by decide +kernel⟩
theorem sc_check : FnScope ["value", "low", "high"] ["value", "low", "high"] (defScope s_check) := ⟨rfl, rfl, rfl, by decide +kernel, rfl, by decide +kernel, by decide +kernel⟩
theorem sc_good_name : FnScope ["name", "sign"] ["name"] (defScope s_good_name) := ⟨rfl, rfl, rfl, by decide +kernel, rfl, by decide +kernel, by decide +kernel⟩
theorem sc_good_way : FnScope ["way", "one"] ["way"] (defScope s_good_way) := ⟨rfl, rfl, rfl, by decide +kernel, rfl, by decide +kernel, by decide +kernel⟩
theorem sc_good_ways : FnScope ["ways", "one", "two", "way", "name"] ["ways"] (defScope s_good_ways) := ⟨rfl, rfl, rfl, by decide +kernel, rfl, by decide +kernel, by decide +kernel⟩
theorem sc_Frame_init : FnScope ["self", "name", "ways", "every", "long", "release", "last"] ["self", "name", "ways", "every", "long", "release", "last"] (defScope s_Frame_init) := ⟨rfl, rfl, rfl, by decide +kernel, rfl, by decide +kernel, by decide +kernel⟩
theorem sc_Frame_numbers : FnScope ["self"] ["self"] (defScope s_Frame_numbers) := ⟨rfl, rfl, rfl, by decide +kernel, rfl, by decide +kernel, by decide +kernel⟩
theorem sc_Frame_eq : FnScope ["self", "other"] ["self", "other"] (defScope s_Frame_eq) := ⟨rfl, rfl, rfl, by decide +kernel, rfl, by decide +kernel, by decide +kernel⟩
theorem sc_Frame_str : FnScope ["self", "road", "head", "way"] ["self"] (defScope s_Frame_str) := ⟨rfl, rfl, rfl, by decide +kernel, rfl, by decide +kernel, by decide +kernel⟩
theorem sc_read_number : FnScope ["word", "sign"] ["word"] (defScope s_read_number) := ⟨rfl, rfl, rfl, by decide +kernel, rfl, by decide +kernel, by decide +kernel⟩
theorem sc_read_frame : FnScope ["text", "name", "rest", "every", "long", "release", "last", "roads", "ways", "word", "road"] ["text"] (defScope s_read_frame) := ⟨rfl, rfl, rfl, by decide +kernel, rfl, by decide +kernel, by decide +kernel⟩
theorem sc_law_start : FnScope ["_law_script"] ["_law_script"] (defScope s_law_start) := ⟨rfl, rfl, rfl, by decide +kernel, rfl, by decide +kernel, by decide +kernel⟩
theorem sc_law_draw : FnScope ["_law_s", "_law_many", "_law_cell", "_law_found"] ["_law_s", "_law_many"] (defScope s_law_draw) := ⟨rfl, rfl, rfl, by decide +kernel, rfl, by decide +kernel, by decide +kernel⟩
theorem sc_law_pick : FnScope ["_law_s", "_law_row_here"] ["_law_s", "_law_row_here"] (defScope s_law_pick) := ⟨rfl, rfl, rfl, by decide +kernel, rfl, by decide +kernel, by decide +kernel⟩
theorem sc_law_name : FnScope ["_law_s", "_law_names", "_law_letters", "_law_turn", "_law_size", "_law_word", "_law_k"] ["_law_s", "_law_names"] (defScope s_law_name) := ⟨rfl, rfl, rfl, by decide +kernel, rfl, by decide +kernel, by decide +kernel⟩
theorem sc_law_hop : FnScope ["_law_s", "_law_names", "_law_lines", "_law_one", "_law_two", "_law_barred", "_law_fit", "_law_line"] ["_law_s", "_law_names", "_law_lines", "_law_one", "_law_two", "_law_barred"] (defScope s_law_hop) := ⟨rfl, rfl, rfl, by decide +kernel, rfl, by decide +kernel, by decide +kernel⟩
theorem sc_law_way : FnScope ["_law_s", "_law_names", "_law_lines", "_law_gates", "_law_first", "_law_the_last", "_law_barred", "_law_free", "_law_way_here", "_law_k", "_law_gate", "_law_other"] ["_law_s", "_law_names", "_law_lines", "_law_gates", "_law_first", "_law_the_last", "_law_barred"] (defScope s_law_way) := ⟨rfl, rfl, rfl, by decide +kernel, rfl, by decide +kernel, by decide +kernel⟩
theorem sc_law_need : FnScope ["_law_row_here", "_law_lines", "_law_the_slack", "_law_the_most", "_law_way_here", "_law_sums", "_law_line"] ["_law_row_here", "_law_lines", "_law_the_slack"] (defScope s_law_need) := ⟨rfl, rfl, rfl, by decide +kernel, rfl, by decide +kernel, by decide +kernel⟩
theorem sc_law_row : FnScope ["_law_s", "_law_names", "_law_lines", "_law_houses", "_law_gates", "_law_the_slack", "_law_at", "_law_first", "_law_the_last", "_law_ways", "_law_the_every", "_law_the_long", "_law_row_here", "_law_spare"] ["_law_s", "_law_names", "_law_lines", "_law_houses", "_law_gates", "_law_the_slack"] (defScope s_law_row) := ⟨rfl, rfl, rfl, by decide +kernel, rfl, by decide +kernel, by decide +kernel⟩
theorem sc_law_world : FnScope ["_law_s", "_law_the_most", "_law_names", "_law_houses", "_law_gates", "_law_the_slack", "_law_lines", "_law_rows", "_law_k"] ["_law_s", "_law_the_most"] (defScope s_law_world) := ⟨rfl, rfl, rfl, by decide +kernel, rfl, by decide +kernel, by decide +kernel⟩
theorem sc_law_frame : FnScope ["_law_row_here"] ["_law_row_here"] (defScope s_law_frame) := ⟨rfl, rfl, rfl, by decide +kernel, rfl, by decide +kernel, by decide +kernel⟩
theorem sc_law_text : FnScope ["_law_row_here", "_law_road", "_law_head", "_law_way_here"] ["_law_row_here"] (defScope s_law_text) := ⟨rfl, rfl, rfl, by decide +kernel, rfl, by decide +kernel, by decide +kernel⟩
theorem sc_law_whole : FnScope ["_law_x"] ["_law_x"] (defScope s_law_whole) := ⟨rfl, rfl, rfl, by decide +kernel, rfl, by decide +kernel, by decide +kernel⟩
theorem sc_law_fields : FnScope ["_law_frame_here", "_law_head"] ["_law_frame_here"] (defScope s_law_fields) := ⟨rfl, rfl, rfl, by decide +kernel, rfl, by decide +kernel, by decide +kernel⟩
theorem sc_law : FnScope ["_law_script", "_law_s", "_law_world_here", "_law_row_here", "_law_numbers", "_law_frame_here", "_law_told", "_law_back", "_law_fields_here", "_law_x", "_law_way_here"] ["_law_script"] (defScope s_law) := ⟨rfl, rfl, rfl, by decide +kernel, rfl, by decide +kernel, by decide +kernel⟩
structure Tx (K : PySem.W.Frag) (mg : Str → Option Value) (base : Heap) where
  tb : List Addr
  c_Frame : Addr
  g_Frame : mg "Frame" = some (.ref c_Frame)
  C_Frame : Cls K c_Frame
  N_Frame_name : NoAttr K c_Frame "name"
  N_Frame_ways : NoAttr K c_Frame "ways"
  N_Frame_every : NoAttr K c_Frame "every"
  N_Frame_long : NoAttr K c_Frame "long"
  N_Frame_release : NoAttr K c_Frame "release"
  N_Frame_last : NoAttr K c_Frame "last"
  I_Frame : IsiC K c_Frame
  f_within : Addr
  fd_within : FuncData
  F_within : Fun K "within" "within" s_within f_within fd_within
  b_within : Binds K fd_within ["value", "low", "high"] []
  g_within : mg "within" = some (.ref f_within)
  f_check : Addr
  fd_check : FuncData
  F_check : Fun K "check" "check" s_check f_check fd_check
  b_check : Binds K fd_check ["value", "low", "high"] []
  g_check : mg "check" = some (.ref f_check)
  f_good_name : Addr
  fd_good_name : FuncData
  F_good_name : Fun K "good_name" "good_name" s_good_name f_good_name fd_good_name
  b_good_name : Binds K fd_good_name ["name"] []
  g_good_name : mg "good_name" = some (.ref f_good_name)
  f_good_way : Addr
  fd_good_way : FuncData
  F_good_way : Fun K "good_way" "good_way" s_good_way f_good_way fd_good_way
  b_good_way : Binds K fd_good_way ["way"] []
  g_good_way : mg "good_way" = some (.ref f_good_way)
  f_good_ways : Addr
  fd_good_ways : FuncData
  F_good_ways : Fun K "good_ways" "good_ways" s_good_ways f_good_ways fd_good_ways
  b_good_ways : Binds K fd_good_ways ["ways"] []
  g_good_ways : mg "good_ways" = some (.ref f_good_ways)
  f_Frame_init : Addr
  fd_Frame_init : FuncData
  F_Frame_init : Fun K "__init__" "Frame.__init__" s_Frame_init f_Frame_init fd_Frame_init
  D_Frame_init : FunD K "__init__" "Frame.__init__" (defArgs s_Frame_init) (defBody s_Frame_init) (defScope s_Frame_init) [] [("long", V.int 1), ("release", V.int 0), ("last", V.int 480)] f_Frame_init fd_Frame_init
  m_Frame_init : Meth K c_Frame "__init__" f_Frame_init
  f_Frame_numbers : Addr
  fd_Frame_numbers : FuncData
  F_Frame_numbers : Fun K "numbers" "Frame.numbers" s_Frame_numbers f_Frame_numbers fd_Frame_numbers
  b_Frame_numbers : Binds K fd_Frame_numbers ["self"] []
  m_Frame_numbers : Meth K c_Frame "numbers" f_Frame_numbers
  f_Frame_eq : Addr
  fd_Frame_eq : FuncData
  F_Frame_eq : Fun K "__eq__" "Frame.__eq__" s_Frame_eq f_Frame_eq fd_Frame_eq
  b_Frame_eq : Binds K fd_Frame_eq ["self", "other"] []
  m_Frame_eq : Meth K c_Frame "__eq__" f_Frame_eq
  f_Frame_str : Addr
  fd_Frame_str : FuncData
  F_Frame_str : Fun K "__str__" "Frame.__str__" s_Frame_str f_Frame_str fd_Frame_str
  b_Frame_str : Binds K fd_Frame_str ["self"] []
  m_Frame_str : Meth K c_Frame "__str__" f_Frame_str
  f_read_number : Addr
  fd_read_number : FuncData
  F_read_number : Fun K "read_number" "read_number" s_read_number f_read_number fd_read_number
  b_read_number : Binds K fd_read_number ["word"] []
  g_read_number : mg "read_number" = some (.ref f_read_number)
  f_read_frame : Addr
  fd_read_frame : FuncData
  F_read_frame : Fun K "read_frame" "read_frame" s_read_frame f_read_frame fd_read_frame
  b_read_frame : Binds K fd_read_frame ["text"] []
  g_read_frame : mg "read_frame" = some (.ref f_read_frame)
  f_law_start : Addr
  fd_law_start : FuncData
  F_law_start : Fun K "_law_start" "_law_start" s_law_start f_law_start fd_law_start
  b_law_start : Binds K fd_law_start ["_law_script"] []
  g_law_start : mg "_law_start" = some (.ref f_law_start)
  f_law_draw : Addr
  fd_law_draw : FuncData
  F_law_draw : Fun K "_law_draw" "_law_draw" s_law_draw f_law_draw fd_law_draw
  b_law_draw : Binds K fd_law_draw ["_law_s", "_law_many"] []
  g_law_draw : mg "_law_draw" = some (.ref f_law_draw)
  f_law_pick : Addr
  fd_law_pick : FuncData
  F_law_pick : Fun K "_law_pick" "_law_pick" s_law_pick f_law_pick fd_law_pick
  b_law_pick : Binds K fd_law_pick ["_law_s", "_law_row_here"] []
  g_law_pick : mg "_law_pick" = some (.ref f_law_pick)
  f_law_name : Addr
  fd_law_name : FuncData
  F_law_name : Fun K "_law_name" "_law_name" s_law_name f_law_name fd_law_name
  b_law_name : Binds K fd_law_name ["_law_s", "_law_names"] []
  g_law_name : mg "_law_name" = some (.ref f_law_name)
  f_law_hop : Addr
  fd_law_hop : FuncData
  F_law_hop : Fun K "_law_hop" "_law_hop" s_law_hop f_law_hop fd_law_hop
  b_law_hop : Binds K fd_law_hop ["_law_s", "_law_names", "_law_lines", "_law_one", "_law_two", "_law_barred"] []
  g_law_hop : mg "_law_hop" = some (.ref f_law_hop)
  f_law_way : Addr
  fd_law_way : FuncData
  F_law_way : Fun K "_law_way" "_law_way" s_law_way f_law_way fd_law_way
  b_law_way : Binds K fd_law_way ["_law_s", "_law_names", "_law_lines", "_law_gates", "_law_first", "_law_the_last", "_law_barred"] []
  g_law_way : mg "_law_way" = some (.ref f_law_way)
  f_law_need : Addr
  fd_law_need : FuncData
  F_law_need : Fun K "_law_need" "_law_need" s_law_need f_law_need fd_law_need
  b_law_need : Binds K fd_law_need ["_law_row_here", "_law_lines", "_law_the_slack"] []
  g_law_need : mg "_law_need" = some (.ref f_law_need)
  f_law_row : Addr
  fd_law_row : FuncData
  F_law_row : Fun K "_law_row" "_law_row" s_law_row f_law_row fd_law_row
  b_law_row : Binds K fd_law_row ["_law_s", "_law_names", "_law_lines", "_law_houses", "_law_gates", "_law_the_slack"] []
  g_law_row : mg "_law_row" = some (.ref f_law_row)
  f_law_world : Addr
  fd_law_world : FuncData
  F_law_world : Fun K "_law_world" "_law_world" s_law_world f_law_world fd_law_world
  b_law_world : Binds K fd_law_world ["_law_s", "_law_the_most"] []
  g_law_world : mg "_law_world" = some (.ref f_law_world)
  f_law_frame : Addr
  fd_law_frame : FuncData
  F_law_frame : Fun K "_law_frame" "_law_frame" s_law_frame f_law_frame fd_law_frame
  b_law_frame : Binds K fd_law_frame ["_law_row_here"] []
  g_law_frame : mg "_law_frame" = some (.ref f_law_frame)
  f_law_text : Addr
  fd_law_text : FuncData
  F_law_text : Fun K "_law_text" "_law_text" s_law_text f_law_text fd_law_text
  b_law_text : Binds K fd_law_text ["_law_row_here"] []
  g_law_text : mg "_law_text" = some (.ref f_law_text)
  f_law_whole : Addr
  fd_law_whole : FuncData
  F_law_whole : Fun K "_law_whole" "_law_whole" s_law_whole f_law_whole fd_law_whole
  b_law_whole : Binds K fd_law_whole ["_law_x"] []
  g_law_whole : mg "_law_whole" = some (.ref f_law_whole)
  f_law_fields : Addr
  fd_law_fields : FuncData
  F_law_fields : Fun K "_law_fields" "_law_fields" s_law_fields f_law_fields fd_law_fields
  b_law_fields : Binds K fd_law_fields ["_law_frame_here"] []
  g_law_fields : mg "_law_fields" = some (.ref f_law_fields)
  f_law : Addr
  fd_law : FuncData
  F_law : Fun K "law" "law" s_law f_law fd_law
  b_law : Binds K fd_law ["_law_script"] []
  g_law : mg "law" = some (.ref f_law)
  M_Frame : Mk K c_Frame f_Frame_init
  t_LAST : Tok
  g_LAST : mg "LAST" = some (.int 480 t_LAST)
  t_LETTERS : Tok
  g_LETTERS : mg "LETTERS" = some (.str "abcdefghijklmnopqrstuvwxyz" t_LETTERS)
  t_LONGEST : Tok
  g_LONGEST : mg "LONGEST" = some (.int 30 t_LONGEST)
  a_ROUNDS : Addr
  g_ROUNDS : mg "ROUNDS" = some (.ref a_ROUNDS)
  q_ROUNDS : ∀ H : Hp, SqT K H a_ROUNDS [V.int 4, V.int 5, V.int 6, V.int 8, V.int 10, V.int 12, V.int 15, V.int 20, V.int 24, V.int 30, V.int 40, V.int 60, V.int 120]
  z_abs : mg "abs" = none
  z_all : mg "all" = none
  z_any : mg "any" = none
  z_bool : mg "bool" = none
  z_int : mg "int" = none
  z_isinstance : mg "isinstance" = none
  z_len : mg "len" = none
  z_list : mg "list" = none
  z_max : mg "max" = none
  z_min : mg "min" = none
  z_range : mg "range" = none
  z_set : mg "set" = none
  z_str : mg "str" = none
  z_tuple : mg "tuple" = none
  c_NetError : Addr
  g_NetError : mg "NetError" = some (.ref c_NetError)
  k_base : PySem.W.subIn K (.ref c_NetError) (.type "BaseException") = some true
  k_dict : PySem.W.hasDictIn K c_NetError = true
  k_type : PySem.W.typeIn K (.ref c_NetError) = some (.type "type")
  k_get : PySem.W.specialIn K (.builtin "object.__class__") "__get__" = some (some (.builtin "getset_descriptor.__get__"))
  k_tak : PySem.W.takesIn K (.builtin "object.__class__") = some true
  c_BadName : Addr
  g_BadName : mg "BadName" = some (.ref c_BadName)
  e_BadName : ErrC K c_BadName c_NetError
  x_BadName : PySem.W.excIn K c_BadName [.type "ValueError", .type "Exception", .type "BaseException", .type "object"] "ValueError.__new__" = true
  c_BadNumber : Addr
  g_BadNumber : mg "BadNumber" = some (.ref c_BadNumber)
  e_BadNumber : ErrC K c_BadNumber c_NetError
  x_BadNumber : PySem.W.excIn K c_BadNumber [.type "ValueError", .type "Exception", .type "BaseException", .type "object"] "ValueError.__new__" = true
  c_BadWay : Addr
  g_BadWay : mg "BadWay" = some (.ref c_BadWay)
  e_BadWay : ErrC K c_BadWay c_NetError
  x_BadWay : PySem.W.excIn K c_BadWay [.type "ValueError", .type "Exception", .type "BaseException", .type "object"] "ValueError.__new__" = true
  c_BadLine : Addr
  g_BadLine : mg "BadLine" = some (.ref c_BadLine)
  e_BadLine : ErrC K c_BadLine c_NetError
  x_BadLine : PySem.W.excIn K c_BadLine [.type "ValueError", .type "Exception", .type "BaseException", .type "object"] "ValueError.__new__" = true
  k_nd : [c_NetError, c_BadName, c_BadNumber, c_BadWay, c_BadLine].Nodup
theorem kb_Frame_init_every_long_release_last {K : PySem.W.Frag} {mg : Str → Option Value} {base : Heap} (T : Tx K mg base) : ∃ mv : List Value, KBn K T.fd_Frame_init ["self", "name", "ways", "every", "long", "release", "last"] 3 ["every", "long", "release", "last"] (fun us ws => us ++ (((ws.drop 0).take 1) ++ (((ws.drop 1).take 1) ++ (((ws.drop 2).take 1) ++ ((ws.drop 3).take 1))))) (fun vs zs => vs ++ (((zs.drop 0).take 1) ++ (((zs.drop 1).take 1) ++ (((zs.drop 2).take 1) ++ ((zs.drop 3).take 1))))) :=
  T.D_Frame_init.kbinds0 3 ["every", "long", "release", "last"] [] (fun vs mz zs => vs ++ (((zs.drop 0).take 1) ++ (((zs.drop 1).take 1) ++ (((zs.drop 2).take 1) ++ ((zs.drop 3).take 1))))) (by intro z; cases z) (fun q h => by simp at h ⊢; try (rcases h with rfl | rfl | rfl | rfl <;> simp); try (subst h; simp)) (fun a b c => a.append (((c.drop 0).take 1).append (((c.drop 1).take 1).append (((c.drop 2).take 1).append ((c.drop 3).take 1))))) (fun D doc pm an cdv ct us mv ws h1 h2 h3 => by
    match us, h1, mv, h2, ws, h3 with
    | [_, _, _], _, [], _, [_, _, _, _], _ => exact rfl)
def spLaw (K : PySem.W.Frag) (tb : List Addr) : Sp := fun vs H Q _ => ∃ (a : Addr) (ns : List Int), vs = [.ref a] ∧ SqL K H a (ns.map V.int) ∧ ns.length ≤ 63 ∧ (∀ z ∈ ns, Builtin.Int.intBits z ≤ 1048576) ∧ (∀ p ∈ tb, LamX.TabS H p (QN.qn p)) ∧ ∀ H', Q (.bl true) H'
section
variable {P : Program} {w : World} {K : PySem.W.Frag} {mg : Str → Option Value} {base : Heap}
theorem ok_law_start (T : Tx K mg base) : FnOk P w K mg base CX0 1 T.f_law_start T.fd_law_start ["_law_script"] (spStart K) := by
  refine T.F_law_start.ok sc_law_start (fun vs H Q E h => ?_) (fun cdv A outer s H vs Q E hr h => ?_)
  · obtain ⟨a, ns, U, rfl, _⟩ := h
    rfl
  · obtain ⟨a, ns, U, rfl, hS, hU, q⟩ := h
    refine ⟨_, (pss_one (ps_ret (pe_lst (pa_cons (pe_callTy (call_listK (K := K) rfl) (by rfl) T.z_list bt_list (pa_cons (pe_slice (sl_listK (K := K) rfl) (pv 0) po_none (po_some pe_int)) pa_nil)) (pa_cons pe_int (pa_cons pe_int (pa_cons pe_int pa_nil))))))), ?_⟩
    walk_at "sw"
    refine ⟨a, _, rfl, hS, fun c nc => ?_⟩
    obtain ⟨ms, em⟩ := cut63 ns
    rw [em]
    have g1 : Gr [] U H U (upd H c (.lst (ms.map V.int))) := (Gr.refl hU).newM nc
    walk_at "sw"
    intro l nl
    have g2 := g1.new (o := .lst (ms.map V.int)) nl
    walk_at "sw"
    intro s ns'
    have g3 := g2.newM (o := .lst [.ref l, .int 0, .int 0, .int 90210]) ns'
    refine q s _ _ g3 ⟨⟨l, ms, 0, 0, 90210, upd_same, upd_same, Int.le_refl _, by omega, Int.le_refl _⟩, g2.vh.free ns'⟩ (g2.fresh ns')
theorem okh_law_draw (T : Tx K mg base) : FnOk P w K mg base CX0 1 T.f_law_draw T.fd_law_draw ["_law_s", "_law_many"] spDraw := by
  refine T.F_law_draw.ok sc_law_draw (fun vs H Q E h => ?_) (fun cdv A outer s0 H vs Q E hr h => ?_)
  · obtain ⟨s, many, U, rfl, _⟩ := h
    rfl
  · obtain ⟨s, many, U, rfl, h0, h2, hU, D, q⟩ := h
    obtain ⟨⟨l, ns, i, b, e, hs, hl, hi, hi2, hb⟩, hn⟩ := D
    have hlU := hU _ _ hl
    have sl : s ≠ l := fun z => by
      subst z
      rw [hn] at hl
      cases hl
    refine ⟨_, (pss_cons (ps_if (pt_cmpR op_eq (pe_ix (ix_listK (K := K) rfl) (pv 0) pe_int (fun _ _ => rfl)) pe_int (nomark _))
      (pss_cons (ps_set (i := 2) sc_law_draw.nd rfl (Or.inl rfl) pe_int)
      (pss_cons (ps_if (pt_cmpR op_lt (pe_ix (ix_listK (K := K) rfl) (pv 0) pe_int (fun _ _ => rfl)) (pe_callB (call_lenK (K := K) rfl) (by rfl) T.z_len bt_len (pa_cons (pe_ix (ix_listK (K := K) rfl) (pv 0) pe_int (fun _ _ => rfl)) pa_nil)) (nomark _))
      (pss_cons (ps_set (i := 2) sc_law_draw.nd rfl (Or.inl rfl) (pe_ix (ix_listK (K := K) rfl) (pe_ix (ix_listK (K := K) rfl) (pv 0) pe_int (fun _ _ => rfl)) (pe_ix (ix_listK (K := K) rfl) (pv 0) pe_int (fun _ _ => rfl)) (fun _ _ => rfl)))
      (pss_one (ps_asg (pe_op op_add (pe_ix (ix_listK (K := K) rfl) (pv 0) pe_int (fun _ _ => rfl)) pe_int) (pg_sub (pv 0) pe_int set_list))))
      pss_nil)
      (pss_one (ps_if ((pw_or (pt_cmpR op_ge (pv 2) (pe_op op_pow pe_int pe_int) (nomark _)) (pw_or1 (pt_cmpR op_le (pv 2) (pe_un un_neg (pe_op op_pow pe_int pe_int)) (nomark _))))).pt
      (pss_one (ps_asg (pe_callB call_abs (by rfl) T.z_abs bt_abs (pa_cons (pv 2) pa_nil)) (pg_sub (pv 0) pe_int set_list)))
      (pss_cons (ps_asg (pe_op op_mod (pe_op op_add (pe_op op_add (pe_op op_mul (pe_ix (ix_listK (K := K) rfl) (pv 0) pe_int (fun _ _ => rfl)) pe_int) (pe_op op_mod (pv 2) pe_int)) pe_int) pe_int) (pg_sub (pv 0) pe_int set_list))
      (pss_one (ps_ret (pe_op op_mod (pe_op op_fdiv (pe_ix (ix_listK (K := K) rfl) (pv 0) pe_int (fun _ _ => rfl)) pe_int) (pv 1)))))))))
      pss_nil)
      (pss_cons (ps_set (i := 3) sc_law_draw.nd rfl (Or.inl rfl) (pe_op op_mod (pe_ix (ix_listK (K := K) rfl) (pv 0) pe_int (fun _ _ => rfl)) (pv 1)))
      (pss_cons (ps_asg (pe_op op_fdivW (pe_ix (ix_listK (K := K) rfl) (pv 0) pe_int (fun _ _ => rfl)) (pv 1)) (pg_sub (pv 0) pe_int set_list))
      (pss_one (ps_ret (pv 3)))))), ?_⟩
    have w3 : ∀ z : Int, CDivW z many := fun z => wide_div h0 (b := 200) (by omega) (by decide) (by decide)
    -- the end, from a heap that has changed at s alone
    have fin : ∀ (H1 : Hp) (i1 b1 e1 : Int) (r : Int), (∀ a, a ≠ s → H1 a = H a) → H1 s = some (.lst [.ref l, .int i1, .int b1, .int e1]) → 0 ≤ i1 → i1 ≤ ns.length → 0 ≤ b1 → 0 ≤ r → r < many → Q (.int r) H1 := by
      intro H1 i1 b1 e1 r ho h1 a1 a2 a3 a4 a5
      refine q r H1 a4 a5 (fun a o ha => ?_) ⟨⟨l, ns, i1, b1, e1, h1, hl, a1, a2, a3⟩, hn⟩ ho
      have ne : a ≠ s := fun z => by
        subst z
        rw [hn] at ha
        cases ha
      rw [ho a ne]
      exact hU a o ha
    have tail : ∀ (H1 : Hp) (i1 b1 e1 : Int), (∀ a, a ≠ s → H1 a = H a) → H1 s = some (.lst [.ref l, .int i1, .int b1, .int e1]) → 0 ≤ i1 → i1 ≤ ns.length → 0 ≤ b1 →
        Q (.int (b1 % many)) (upd H1 s (.lst [.ref l, .int i1, .int (b1 / many), .int e1])) := by
      intro H1 i1 b1 e1 ho h1 a1 a2 a3
      refine fin _ i1 (b1 / many) e1 _ (fun a ne => ?_) upd_same a1 a2 (Int.ediv_nonneg a3 (by omega)) (Int.emod_nonneg _ (by omega)) (Int.emod_lt_of_pos _ h0)
      rw [upd_ne ne]
      exact ho a ne
    have ab : ∀ c : Int, 0 ≤ (if c < 0 then -c else c) := fun c => by split <;> omega
    have md : ∀ c : Int, 0 ≤ c % many ∧ c % many < many := fun c => ⟨Int.emod_nonneg _ (by omega), Int.emod_lt_of_pos _ h0⟩
    have un : ∀ (o : HO) (a : Addr), a ≠ s → upd H s o a = H a := fun o a ne => upd_ne ne
    have un2 : ∀ (o o' : HO) (a : Addr), a ≠ s → upd (upd H s o) s o' a = H a := fun o o' a ne => by rw [upd_ne ne, upd_ne ne]
    walk_at "sw"
    refine i_ite (fun h => ?_) (fun h => ?_)
    · walk_at "sw"
      refine i_ite (fun h => ?_) (fun h => ?_)
      · obtain ⟨j, rfl⟩ : ∃ j : Nat, i = (j : Int) := ⟨i.toNat, by omega⟩
        rw [List.length_map] at h
        have hj : j < ns.length := by omega
        walk_at "sw"
        refine i_ixL hlU (at_of (j := j) (v := V.int ns[j]) rfl (by rw [List.getElem?_map, List.getElem?_eq_getElem hj]; rfl)) ?_
        walk_at "sw"
        refine i_ite (fun h => ?_) (fun h => ?_)
        · walk_at "sw"
          exact tail _ (j + 1) _ e (un2 _ _) upd_same (by omega) (by omega) (ab _)
        · walk_at "sw"
          refine i_ite (fun h => ?_) (fun h => ?_)
          · walk_at "sw"
            exact tail _ (j + 1) _ e (un2 _ _) upd_same (by omega) (by omega) (ab _)
          · walk_at "sw"
            exact fin _ (j + 1) b _ _ (un2 _ _) upd_same (by omega) (by omega) hb (md _).1 (md _).2
      · walk_at "sw"
        refine i_ite (fun h => ?_) (fun h => ?_)
        · walk_at "sw"
          exact tail _ i _ e (un _) upd_same hi hi2 (ab _)
        · walk_at "sw"
          refine i_ite (fun h => ?_) (fun h => ?_)
          · walk_at "sw"
            exact tail _ i _ e (un _) upd_same hi hi2 (ab _)
          · walk_at "sw"
            exact fin _ i b _ _ (un _) upd_same hi hi2 hb (md _).1 (md _).2
    · walk_at "sw"
      exact tail H i b e (fun a _ => rfl) hs hi hi2 hb
abbrev A_law_draw (T : Tx K mg base) : AF := A_draw
theorem ok_law_draw (T : Tx K mg base) : FnOk P w K mg base CX0 1 T.f_law_draw T.fd_law_draw ["_law_s", "_law_many"] (spD K T.tb (A_law_draw T)) := (okh_law_draw T).imp draw_imp
def b_within (T : Tx K mg base) : AS := (aSeq (aIf (aOr (aNot (aTest (aCB oIsi (aCons (aVar 0) (aCons (aC (.ty "int")) aNil))))) (aTest (aCB oIsi (aCons (aVar 0) (aCons (aC (.ty "bool")) aNil)))))
    (aRet (aC (.bl false)))
    aNext)
    (aRet (aChain oLe oLe (aVar 1) (aVar 0) (aVar 2))))
abbrev A_within (T : Tx K mg base) : AF := bodyA [false, false, false] 0 (b_within T)
theorem A_within_of (T : Tx K mg base) {d0 d1 d2 : D} {q : AV → Prop} {x : Exn → Prop} (h : b_within T ⟨fun _ => q (.fz .non), fun av _ => q av, fun _ => False, fun _ => False, fun e _ => x e⟩ [some (.fz d0), some (.fz d1), some (.fz d2)]) : A_within T [.fz d0, .fz d1, .fz d2] q x := ⟨rfl, h⟩
theorem ok_within (T : Tx K mg base) : FnOk P w K mg base CX0 1 T.f_within T.fd_within ["value", "low", "high"] (spD K T.tb (A_within T)) := by
  refine T.F_within.ok sc_within (fun vs H Q E h => spD_len h) (fun cdv A outer s0 H vs Q E hr h => ?_)
  have hst : L2.start ["value", "low", "high"] vs = vs.map some ++ List.replicate 0 none := by
    unfold L2.start
    rw [spD_len h]
    rfl
  refine ⟨_, (pss_cons (ps_if ((pw_or (pt_not (pt_val (pe_callB (call_isiKK (K := K) rfl) (by rfl) T.z_isinstance bt_isinstance (pa_cons (pv 0) (pa_cons (pe_bltn (v := .ty "int") (by rfl) T.z_int bt_int rfl) pa_nil))))) (pw_or1 (pt_val (pe_callB (call_isiKK (K := K) rfl) (by rfl) T.z_isinstance bt_isinstance (pa_cons (pv 0) (pa_cons (pe_bltn (v := .ty "bool") (by rfl) T.z_bool bt_bool rfl) pa_nil))))))).pt
      (pss_one (ps_ret pe_bl))
      pss_nil)
      (pss_one (ps_ret (pe_chain op_le op_le (pv 1) (pv 0) (pv 2))))), run_body h hst fun pk pv O M U0 H0 X => ?_⟩
  unfold b_within
  exact (sim_seq (sim_if (sim_or (sim_not (sim_test (SimE.w (sim_cb bu_isi (sim_consW (SimE.w sim_var) (sim_consW (SimE.w sim_ty) sim_nilW)))))) (sim_test (SimE.w (sim_cb bu_isi (sim_consW (SimE.w sim_var) (sim_consW (SimE.w sim_ty) sim_nilW))))))
    (sim_ret sim_bl)
    sim_next)
    (sim_ret (sim_chain (op_i0 (fun _ _ _ => rfl)) (op_i0 (fun _ _ _ => rfl)) (SimE.w sim_var) (SimE.w sim_var) (SimE.w sim_var))))
def b_check (T : Tx K mg base) : AS := (aIf (aNot (aTest (aFz (aCall0 (A_within T) (aArg (aVar 0) (aArg (aVar 1) (aArg (aVar 2) aArgs)))))))
    (aRaise T.c_BadNumber)
    aNext)
abbrev A_check (T : Tx K mg base) : AF := bodyA [false, false, false] 0 (b_check T)
theorem A_check_of (T : Tx K mg base) {d0 d1 d2 : D} {q : AV → Prop} {x : Exn → Prop} (h : b_check T ⟨fun _ => q (.fz .non), fun av _ => q av, fun _ => False, fun _ => False, fun e _ => x e⟩ [some (.fz d0), some (.fz d1), some (.fz d2)]) : A_check T [.fz d0, .fz d1, .fz d2] q x := ⟨rfl, h⟩
theorem ok_check (T : Tx K mg base) : FnOk P w K mg base (L2.CX P w) 2 T.f_check T.fd_check ["value", "low", "high"] (spD K T.tb (A_check T)) := by
  refine T.F_check.okX sc_check (fun vs H Q E h => spD_len h) (fun cdv A outer s0 H vs Q E hr h => ?_)
  have hst : L2.start ["value", "low", "high"] vs = vs.map some ++ List.replicate 0 none := by
    unfold L2.start
    rw [spD_len h]
    rfl
  refine ⟨_, (pss_one (ps_if (pt_not (pt_val (pe_call (ok_within T) (hr.mono (by decide)) (by rfl) T.g_within T.F_within.kp T.b_within .nil pass0 (pa_cons (pv 0) (pa_cons (pv 1) (pa_cons (pv 2) pa_nil))))))
      (pss_one (ps_raise0 rfl (takes_of rfl rfl rfl rfl) (pmk_own0 PySem.F.excBase_ValueError T.x_BadNumber T.g_BadNumber T.e_BadNumber.kp T.e_BadNumber.raises (by rfl))))
      pss_nil)), run_body h hst fun pk pv O M U0 H0 X => ?_⟩
  unfold b_check
  exact (sim_if (sim_not (sim_test (SimE.w (sim_fz (sim_call (sim_arg sim_var (sim_arg sim_var (sim_arg sim_var sim_args))))))))
    (sim_raise (fun _ => rfl))
    sim_next)
def b_good_name (T : Tx K mg base) : AS := (aSeq (aIf (aOr (aTest (aOp oLt (aCB oLenS (aCons (aVar 0) aNil)) (aC (.int 1)))) (aTest (aOp oGt (aCB oLenS (aCons (aVar 0) aNil)) (aC (.int 8)))))
    (aRet (aC (.bl false)))
    aNext)
    (aRet (aCB oAll (aCons (aFz (aLc (aItS (aVar 0)) (gN 1) aYes (aOp oInS (aVar 1) (aC (.str "abcdefghijklmnopqrstuvwxyz"))) [1])) aNil))))
abbrev A_good_name (T : Tx K mg base) : AF := bodyA [false] 1 (b_good_name T)
theorem A_good_name_of (T : Tx K mg base) {d0 : D} {q : AV → Prop} {x : Exn → Prop} (h : b_good_name T ⟨fun _ => q (.fz .non), fun av _ => q av, fun _ => False, fun _ => False, fun e _ => x e⟩ [some (.fz d0), none]) : A_good_name T [.fz d0] q x := ⟨rfl, h⟩
theorem ok_good_name (T : Tx K mg base) : FnOk P w K mg base CX0 1 T.f_good_name T.fd_good_name ["name"] (spD K T.tb (A_good_name T)) := by
  refine T.F_good_name.ok sc_good_name (fun vs H Q E h => spD_len h) (fun cdv A outer s0 H vs Q E hr h => ?_)
  have hst : L2.start ["name", "sign"] vs = vs.map some ++ List.replicate 1 none := by
    unfold L2.start
    rw [spD_len h]
    rfl
  refine ⟨_, (pss_cons (ps_if ((pw_or (pt_cmpR op_lt (pe_callB call_len_str (by rfl) T.z_len bt_len (pa_cons (pv 0) pa_nil)) pe_int (nomark _)) (pw_or1 (pt_cmpR op_gt (pe_callB call_len_str (by rfl) T.z_len bt_len (pa_cons (pv 0) pa_nil)) pe_int (nomark _))))).pt
      (pss_one (ps_ret pe_bl))
      pss_nil)
      (pss_one (ps_ret (pe_callB (cr_allK (K := K) rfl (by rfl)) (by rfl) T.z_all bt_all (pa_cons (pe_lc (own := [("sign", 1)]) (by rfl) sc_good_name.nd (pi_str (pv 0)) (blkOk_by (own := [("sign", 1)]) (N := ["name", "sign"]) (sc := defScope s_good_name) (by decide +kernel)) (fun _ _ _ _ _ => (pg_name (i := 1) sc_good_name.nd rfl (Or.inl rfl))) (fun _ _ _ _ _ => pts_nil) (fun _ _ _ _ _ => (pe_cmpR op_in_sign (pv 1) (pe_glob (v := .str "abcdefghijklmnopqrstuvwxyz") (by rfl) T.g_LETTERS ⟨_, rfl⟩) (by with_unfolding_all rfl)))) pa_nil))))), run_body h hst fun pk pv O M U0 H0 X => ?_⟩
  unfold b_good_name
  exact (sim_seq (sim_if (sim_or (sim_test (SimE.w (sim_op (op_i0 (fun _ _ _ => rfl)) (SimE.w (sim_cb bu_lenS (sim_consW (SimE.w sim_var) sim_nilW))) (SimE.w sim_int)))) (sim_test (SimE.w (sim_op (op_i0 (fun _ _ _ => rfl)) (SimE.w (sim_cb bu_lenS (sim_consW (SimE.w sim_var) sim_nilW))) (SimE.w sim_int)))))
    (sim_ret sim_bl)
    sim_next)
    (sim_ret (sim_cb bu_all (sim_consW (SimE.w (sim_fz (sim_lc (SimI.w (sim_itS sim_var)) (sim_gN rfl) sim_yes (sim_op op_inSS (SimE.w sim_var) (SimE.w sim_str)) rfl rfl))) sim_nilW))))
def b_good_way (T : Tx K mg base) : AS := (aSeq (aIf (aTest (aOp oNotIn (aCB oLen (aCons (aVar 0) aNil)) (aTup (aCons (aC (.int 3)) (aCons (aC (.int 5)) (aCons (aC (.int 7)) aNil))))))
    (aRet (aC (.bl false)))
    aNext)
    (aRet (aAndV (aCB oAll (aCons (aFz (aLc (aItT (aVar 0)) (gN 1) aYes (aFz (aCall0 (A_good_name T) (aArg (aVar 1) aArgs))) [1])) aNil)) (aOp oEq (aLenSet (aVar 0)) (aCB oLen (aCons (aVar 0) aNil))))))
abbrev A_good_way (T : Tx K mg base) : AF := bodyA [false] 1 (b_good_way T)
theorem A_good_way_of (T : Tx K mg base) {d0 : D} {q : AV → Prop} {x : Exn → Prop} (h : b_good_way T ⟨fun _ => q (.fz .non), fun av _ => q av, fun _ => False, fun _ => False, fun e _ => x e⟩ [some (.fz d0), none]) : A_good_way T [.fz d0] q x := ⟨rfl, h⟩
theorem ok_good_way (T : Tx K mg base) : FnOk P w K mg base CX0 2 T.f_good_way T.fd_good_way ["way"] (spD K T.tb (A_good_way T)) := by
  refine T.F_good_way.ok sc_good_way (fun vs H Q E h => spD_len h) (fun cdv A outer s0 H vs Q E hr h => ?_)
  have hst : L2.start ["way", "one"] vs = vs.map some ++ List.replicate 1 none := by
    unfold L2.start
    rw [spD_len h]
    rfl
  refine ⟨_, (pss_cons (ps_if (pt_cmpR (op_notInK (K := K) rfl) (pe_callB (call_lenK (K := K) rfl) (by rfl) T.z_len bt_len (pa_cons (pv 0) pa_nil)) (pe_tup (pa_cons pe_int (pa_cons pe_int (pa_cons pe_int pa_nil)))) (by with_unfolding_all rfl))
      (pss_one (ps_ret pe_bl))
      pss_nil)
      (pss_one (ps_ret (pe_and (pe_callB (cr_allK (K := K) rfl (by rfl)) (by rfl) T.z_all bt_all (pa_cons (pe_lc (own := [("one", 1)]) (by rfl) sc_good_way.nd (pi_tupK (K := K) rfl (pv 0)) (blkOk_by (own := [("one", 1)]) (N := ["way", "one"]) (sc := defScope s_good_way) (by decide +kernel)) (fun _ _ _ _ _ => (pg_name (i := 1) sc_good_way.nd rfl (Or.inl rfl))) (fun _ _ _ _ _ => pts_nil) (fun _ _ _ _ _ => (pe_call (ok_good_name T) (hr.mono (by decide)) (by rfl) T.g_good_name T.F_good_name.kp T.b_good_name .nil pass0 (pa_cons (pv 1) pa_nil)))) pa_nil)) (pe_one (pe_cmpR op_eq (pe_lenSetS (by rfl) (by rfl) T.z_len (by rfl) T.z_set (pv 0)) (pe_callB (call_lenK (K := K) rfl) (by rfl) T.z_len bt_len (pa_cons (pv 0) pa_nil)) (nomark _))))))), run_body h hst fun pk pv O M U0 H0 X => ?_⟩
  unfold b_good_way
  exact (sim_seq (sim_if (sim_test (SimE.w (sim_op op_notInS' (SimE.w (sim_cb bu_len (sim_consW (SimE.w sim_var) sim_nilW))) (SimE.w (sim_tup (sim_cons sim_int (sim_cons sim_int (sim_cons sim_int sim_nil))))))))
    (sim_ret sim_bl)
    sim_next)
    (sim_ret (sim_andV (SimE.w (sim_cb bu_all (sim_consW (SimE.w (sim_fz (sim_lc (SimI.w (sim_itT sim_var)) (sim_gN rfl) sim_yes (sim_fz (sim_call (sim_arg sim_var sim_args))) rfl rfl))) sim_nilW))) (sim_op op_eqS (SimE.w (sim_lenSet rfl (SimE.w sim_var))) (SimE.w (sim_cb bu_len (sim_consW (SimE.w sim_var) sim_nilW)))))))
def b_good_ways (T : Tx K mg base) : AS := (aSeq (aIf (aOr (aTest (aOp oLt (aCB oLen (aCons (aVar 0) aNil)) (aC (.int 1)))) (aTest (aOp oGt (aCB oLen (aCons (aVar 0) aNil)) (aC (.int 2)))))
    (aRet (aC (.bl false)))
    aNext)
    (aSeq (aIf (aNot (aTest (aCB oAll (aCons (aFz (aLc (aItT (aVar 0)) (gN 3) aYes (aFz (aCall0 (A_good_way T) (aArg (aVar 3) aArgs))) [3])) aNil))))
    (aRet (aC (.bl false)))
    aNext)
    (aSeq (aIf (aTest (aOp oEq (aCB oLen (aCons (aVar 0) aNil)) (aC (.int 1))))
    (aRet (aC (.bl true)))
    aNext)
    (aSeq (aAsg (aVar 0) (gT 2 (gsCons (gN 1) (gsCons (gN 2) gsNil))))
    (aSeq (aIf (aOr (aTest (aOp oNe (aOp oIxT (aVar 1) (aC (.int 0))) (aOp oIxT (aVar 2) (aC (.int 0))))) (aTest (aOp oNe (aOp oIxT (aVar 1) (aUn oNeg (aC (.int 1)))) (aOp oIxT (aVar 2) (aUn oNeg (aC (.int 1)))))))
    (aRet (aC (.bl false)))
    aNext)
    (aRet (aNotV (aCB oAny (aCons (aFz (aLc (aItT (aSl oSlT (aVar 1) (aPart (aC (.int 1))) (aPart (aUn oNeg (aC (.int 1)))))) (gN 4) aYes (aOp oIn (aVar 4) (aVar 2)) [4])) aNil)))))))))
abbrev A_good_ways (T : Tx K mg base) : AF := bodyA [false] 4 (b_good_ways T)
theorem A_good_ways_of (T : Tx K mg base) {d0 : D} {q : AV → Prop} {x : Exn → Prop} (h : b_good_ways T ⟨fun _ => q (.fz .non), fun av _ => q av, fun _ => False, fun _ => False, fun e _ => x e⟩ [some (.fz d0), none, none, none, none]) : A_good_ways T [.fz d0] q x := ⟨rfl, h⟩
theorem ok_good_ways (T : Tx K mg base) : FnOk P w K mg base CX0 3 T.f_good_ways T.fd_good_ways ["ways"] (spD K T.tb (A_good_ways T)) := by
  refine T.F_good_ways.ok sc_good_ways (fun vs H Q E h => spD_len h) (fun cdv A outer s0 H vs Q E hr h => ?_)
  have hst : L2.start ["ways", "one", "two", "way", "name"] vs = vs.map some ++ List.replicate 4 none := by
    unfold L2.start
    rw [spD_len h]
    rfl
  refine ⟨_, (pss_cons (ps_if ((pw_or (pt_cmpR op_lt (pe_callB (call_lenK (K := K) rfl) (by rfl) T.z_len bt_len (pa_cons (pv 0) pa_nil)) pe_int (nomark _)) (pw_or1 (pt_cmpR op_gt (pe_callB (call_lenK (K := K) rfl) (by rfl) T.z_len bt_len (pa_cons (pv 0) pa_nil)) pe_int (nomark _))))).pt
      (pss_one (ps_ret pe_bl))
      pss_nil)
      (pss_cons (ps_if (pt_not (pt_val (pe_callB (cr_allK (K := K) rfl (by rfl)) (by rfl) T.z_all bt_all (pa_cons (pe_lc (own := [("way", 3)]) (by rfl) sc_good_ways.nd (pi_tupK (K := K) rfl (pv 0)) (blkOk_by (own := [("way", 3)]) (N := ["ways", "one", "two", "way", "name"]) (sc := defScope s_good_ways) (by decide +kernel)) (fun _ _ _ _ _ => (pg_name (i := 3) sc_good_ways.nd rfl (Or.inl rfl))) (fun _ _ _ _ _ => pts_nil) (fun _ _ _ _ _ => (pe_call (ok_good_way T) (hr.mono (by decide)) (by rfl) T.g_good_way T.F_good_way.kp T.b_good_way .nil pass0 (pa_cons (pv 3) pa_nil)))) pa_nil))))
      (pss_one (ps_ret pe_bl))
      pss_nil)
      (pss_cons (ps_if (pt_cmpR op_eq (pe_callB (call_lenK (K := K) rfl) (by rfl) T.z_len bt_len (pa_cons (pv 0) pa_nil)) pe_int (nomark _))
      (pss_one (ps_ret pe_bl))
      pss_nil)
      (pss_cons (ps_asg (pv 0) (pg_tupK (K := K) (n := 2) rfl (by rfl) (pgs_cons (pg_name (i := 1) sc_good_ways.nd rfl (Or.inl rfl)) (pgs_cons (pg_name (i := 2) sc_good_ways.nd rfl (Or.inr rfl)) pgs_nil))))
      (pss_cons (ps_if ((pw_or (pt_cmpR op_ne (pe_ix (ix_tupK (K := K) rfl) (pv 1) pe_int (fun _ _ => rfl)) (pe_ix (ix_tupK (K := K) rfl) (pv 2) pe_int (fun _ _ => rfl)) (nomark _)) (pw_or1 (pt_cmpR op_ne (pe_ix (ix_tupK (K := K) rfl) (pv 1) (pe_un un_neg pe_int) (fun _ _ => rfl)) (pe_ix (ix_tupK (K := K) rfl) (pv 2) (pe_un un_neg pe_int) (fun _ _ => rfl)) (nomark _))))).pt
      (pss_one (ps_ret pe_bl))
      pss_nil)
      (pss_one (ps_ret (pe_not (pe_callB (cr_anyK (K := K) rfl (by rfl)) (by rfl) T.z_any bt_any (pa_cons (pe_lc (own := [("name", 4)]) (by rfl) sc_good_ways.nd (pi_tupK (K := K) rfl (pe_slice (sl_tupAK (K := K) rfl) (pv 1) (po_some pe_int) (po_some (pe_un un_neg pe_int)))) (blkOk_by (own := [("name", 4)]) (N := ["ways", "one", "two", "way", "name"]) (sc := defScope s_good_ways) (by decide +kernel)) (fun _ _ _ _ _ => (pg_name (i := 4) sc_good_ways.nd rfl (Or.inl rfl))) (fun _ _ _ _ _ => pts_nil) (fun _ _ _ _ _ => (pe_cmpR (op_inK (K := K) rfl) (pv 4) (pv 2) (by with_unfolding_all rfl)))) pa_nil)))))))))), run_body h hst fun pk pv O M U0 H0 X => ?_⟩
  unfold b_good_ways
  exact (sim_seq (sim_if (sim_or (sim_test (SimE.w (sim_op (op_i0 (fun _ _ _ => rfl)) (SimE.w (sim_cb bu_len (sim_consW (SimE.w sim_var) sim_nilW))) (SimE.w sim_int)))) (sim_test (SimE.w (sim_op (op_i0 (fun _ _ _ => rfl)) (SimE.w (sim_cb bu_len (sim_consW (SimE.w sim_var) sim_nilW))) (SimE.w sim_int)))))
    (sim_ret sim_bl)
    sim_next)
    (sim_seq (sim_if (sim_not (sim_test (SimE.w (sim_cb bu_all (sim_consW (SimE.w (sim_fz (sim_lc (SimI.w (sim_itT sim_var)) (sim_gN rfl) sim_yes (sim_fz (sim_call (sim_arg sim_var sim_args))) rfl rfl))) sim_nilW)))))
    (sim_ret sim_bl)
    sim_next)
    (sim_seq (sim_if (sim_test (SimE.w (sim_op op_eqS (SimE.w (sim_cb bu_len (sim_consW (SimE.w sim_var) sim_nilW))) (SimE.w sim_int))))
    (sim_ret sim_bl)
    sim_next)
    (sim_seq (sim_asg sim_var (sim_gT (sim_gsCons (sim_gN rfl) (sim_gsCons (sim_gN rfl) sim_gsNil))))
    (sim_seq (sim_if (sim_or (sim_test (SimE.w (sim_op op_neS (SimE.w (sim_op op_ixT (SimE.w sim_var) (SimE.w sim_int))) (SimE.w (sim_op op_ixT (SimE.w sim_var) (SimE.w sim_int)))))) (sim_test (SimE.w (sim_op op_neS (SimE.w (sim_op op_ixT (SimE.w sim_var) (SimE.w (sim_un (un_i fun _ _ => rfl) (SimE.w sim_int))))) (SimE.w (sim_op op_ixT (SimE.w sim_var) (SimE.w (sim_un (un_i fun _ _ => rfl) (SimE.w sim_int)))))))))
    (sim_ret sim_bl)
    sim_next)
    (sim_ret (sim_notV (SimE.w (sim_cb bu_any (sim_consW (SimE.w (sim_fz (sim_lc (SimI.w (sim_itT (sim_sl sl_tD (SimE.w sim_var) (sim_part (SimE.w sim_int)) (sim_part (SimE.w (sim_un (un_i fun _ _ => rfl) (SimE.w sim_int))))))) (sim_gN rfl) sim_yes (sim_op op_inS' (SimE.w sim_var) (SimE.w sim_var)) rfl rfl))) sim_nilW))))))))))
def b_Frame_init (T : Tx K mg base) : AS := (aSeq (aIf (aNot (aTest (aFz (aCall0 (A_good_name T) (aArg (aVar 1) aArgs)))))
    (aRaise T.c_BadName)
    aNext)
    (aSeq (aIf (aNot (aTest (aFz (aCall0 (A_good_ways T) (aArg (aVar 2) aArgs)))))
    (aRaise T.c_BadWay)
    aNext)
    (aSeq (aIf (aOr (aNot (aTest (aFz (aCall0 (A_within T) (aArg (aVar 3) (aArg (aC (.int 1)) (aArg (aC (.int 120)) aArgs))))))) (aTest (aOp oNotIn (aVar 3) (aC (.tup (List.map D.int [4, 5, 6, 8, 10, 12, 15, 20, 24, 30, 40, 60, 120]))))))
    (aRaise T.c_BadNumber)
    aNext)
    (aSeq (aDrop (aFz (aCall (A_check T) (aArg (aVar 4) (aArg (aC (.int 1)) (aArg (aC (.int 30)) aArgs))))))
    (aSeq (aDrop (aFz (aCall (A_check T) (aArg (aVar 5) (aArg (aC (.int 0)) (aArg (aOp oSub (aVar 3) (aC (.int 1))) aArgs))))))
    (aSeq (aDrop (aFz (aCall (A_check T) (aArg (aVar 6) (aArg (aC (.int 1)) (aArg (aC (.int 480)) aArgs))))))
    (aSeq (aFldSet 0 T.c_Frame "name" (aVar 1))
    (aSeq (aFldSet 0 T.c_Frame "ways" (aVar 2))
    (aSeq (aFldSet 0 T.c_Frame "every" (aVar 3))
    (aSeq (aFldSet 0 T.c_Frame "long" (aVar 4))
    (aSeq (aFldSet 0 T.c_Frame "release" (aVar 5))
    (aFldSet 0 T.c_Frame "last" (aVar 6)))))))))))))
abbrev A_Frame_init (T : Tx K mg base) : AFM := bodyM [6, 0, 0, 0, 0, 0, 0] 0 (b_Frame_init T)
theorem A_Frame_init_of (T : Tx K mg base) (c0 x0 : Addr) (n0 : List Str) (w0 : List V) (a0 : List AV) (d1 : D) (d2 : D) (d3 : D) (d4 : D) (d5 : D) (d6 : D) {q : AV → List AV → Prop} {x : Exn → List AV → Prop} (h : b_Frame_init T ⟨fun ρ => q (.fz .non) (mrg [.ob c0 x0 n0 w0 a0, .fz d1, .fz d2, .fz d3, .fz d4, .fz d5, .fz d6] (selM [true, false, false, false, false, false, false] ρ)), fun av ρ => q av (mrg [.ob c0 x0 n0 w0 a0, .fz d1, .fz d2, .fz d3, .fz d4, .fz d5, .fz d6] (selM [true, false, false, false, false, false, false] ρ)), fun _ => False, fun _ => False, fun e ρ => x e (mrg [.ob c0 x0 n0 w0 a0, .fz d1, .fz d2, .fz d3, .fz d4, .fz d5, .fz d6] (selM [true, false, false, false, false, false, false] ρ))⟩ [some (.ob c0 x0 n0 w0 a0), some (.fz d1), some (.fz d2), some (.fz d3), some (.fz d4), some (.fz d5), some (.fz d6)]) : A_Frame_init T [.ob c0 x0 n0 w0 a0, .fz d1, .fz d2, .fz d3, .fz d4, .fz d5, .fz d6] q x := ⟨rfl, h⟩
theorem ok_Frame_init (T : Tx K mg base) : FnOk P w K mg base (L2.CX P w) 4 T.f_Frame_init T.fd_Frame_init ["self", "name", "ways", "every", "long", "release", "last"] (spM K T.tb (A_Frame_init T)) := by
  refine T.F_Frame_init.okX sc_Frame_init (fun vs H Q E h => spM_len h) (fun cdv A outer s0 H vs Q E hr h => ?_)
  have hst : L2.start ["self", "name", "ways", "every", "long", "release", "last"] vs = vs.map some ++ List.replicate 0 none := by
    unfold L2.start
    rw [spM_len h]
    rfl
  have qc_ROUNDS := T.q_ROUNDS
  have cl_Frame := T.C_Frame
  have na_Frame_every := T.N_Frame_every
  have na_Frame_last := T.N_Frame_last
  have na_Frame_long := T.N_Frame_long
  have na_Frame_name := T.N_Frame_name
  have na_Frame_release := T.N_Frame_release
  have na_Frame_ways := T.N_Frame_ways
  refine ⟨_, (pss_cons (ps_if (pt_not (pt_val (pe_call (ok_good_name T) (hr.mono (by decide)) (by rfl) T.g_good_name T.F_good_name.kp T.b_good_name .nil pass0 (pa_cons (pv 1) pa_nil))))
      (pss_one (ps_raise0 rfl (takes_of rfl rfl rfl rfl) (pmk_own0 PySem.F.excBase_ValueError T.x_BadName T.g_BadName T.e_BadName.kp T.e_BadName.raises (by rfl))))
      pss_nil)
      (pss_cons (ps_if (pt_not (pt_val (pe_call (ok_good_ways T) (hr.mono (by decide)) (by rfl) T.g_good_ways T.F_good_ways.kp T.b_good_ways .nil pass0 (pa_cons (pv 2) pa_nil))))
      (pss_one (ps_raise0 rfl (takes_of rfl rfl rfl rfl) (pmk_own0 PySem.F.excBase_ValueError T.x_BadWay T.g_BadWay T.e_BadWay.kp T.e_BadWay.raises (by rfl))))
      pss_nil)
      (pss_cons (ps_if ((pw_or (pt_not (pt_val (pe_call (ok_within T) (hr.mono (by decide)) (by rfl) T.g_within T.F_within.kp T.b_within .nil pass0 (pa_cons (pv 3) (pa_cons pe_int (pa_cons pe_int pa_nil)))))) (pw_or1 (pt_cmpR (op_notInK (K := K) rfl) (pv 3) (pe_glob (v := .ref T.a_ROUNDS) (by rfl) T.g_ROUNDS rfl) (by with_unfolding_all rfl))))).pt
      (pss_one (ps_raise0 rfl (takes_of rfl rfl rfl rfl) (pmk_own0 PySem.F.excBase_ValueError T.x_BadNumber T.g_BadNumber T.e_BadNumber.kp T.e_BadNumber.raises (by rfl))))
      pss_nil)
      (pss_cons (ps_expr (pe_callS (ok_check T) (hr.mono (by decide)) (by rfl) T.g_check T.F_check.kp T.b_check (fun σ => passAt (takes_of rfl rfl rfl rfl) σ) (pa_cons (pv 4) (pa_cons pe_int (pa_cons (pe_glob (v := .int 30) (by rfl) T.g_LONGEST ⟨_, rfl⟩) pa_nil)))))
      (pss_cons (ps_expr (pe_callS (ok_check T) (hr.mono (by decide)) (by rfl) T.g_check T.F_check.kp T.b_check (fun σ => passAt (takes_of rfl rfl rfl rfl) σ) (pa_cons (pv 5) (pa_cons pe_int (pa_cons (pe_op op_sub (pv 3) pe_int) pa_nil)))))
      (pss_cons (ps_expr (pe_callS (ok_check T) (hr.mono (by decide)) (by rfl) T.g_check T.F_check.kp T.b_check (fun σ => passAt (takes_of rfl rfl rfl rfl) σ) (pa_cons (pv 6) (pa_cons pe_int (pa_cons (pe_glob (v := .int 480) (by rfl) T.g_LAST ⟨_, rfl⟩) pa_nil)))))
      (pss_cons (ps_fldK (K := K) rfl (pv 0) (pv 1) rfl)
      (pss_cons (ps_fldK (K := K) rfl (pv 0) (pv 2) rfl)
      (pss_cons (ps_fldK (K := K) rfl (pv 0) (pv 3) rfl)
      (pss_cons (ps_fldK (K := K) rfl (pv 0) (pv 4) rfl)
      (pss_cons (ps_fldK (K := K) rfl (pv 0) (pv 5) rfl)
      (pss_one (ps_fldK (K := K) rfl (pv 0) (pv 6) rfl))))))))))))), run_bodyM h hst fun pk pv O M U0 H0 X => ?_⟩
  unfold b_Frame_init
  exact (sim_seq (sim_if (sim_not (sim_test (SimE.w (sim_fz (sim_call (sim_arg sim_var sim_args))))))
    (sim_raise (fun _ => rfl))
    sim_next)
    (sim_seq (sim_if (sim_not (sim_test (SimE.w (sim_fz (sim_call (sim_arg sim_var sim_args))))))
    (sim_raise (fun _ => rfl))
    sim_next)
    (sim_seq (sim_if (sim_or (sim_not (sim_test (SimE.w (sim_fz (sim_call (sim_arg sim_var (sim_arg sim_int (sim_arg sim_int sim_args)))))))) (sim_test (SimE.w (sim_op op_notInS' (SimE.w sim_var) (SimE.w (sim_ctI (by assumption)))))))
    (sim_raise (fun _ => rfl))
    sim_next)
    (sim_seq (sim_drop (sim_fz (sim_callS (fun _ => rfl) (sim_arg sim_var (sim_arg sim_int (sim_arg sim_int sim_args))))))
    (sim_seq (sim_drop (sim_fz (sim_callS (fun _ => rfl) (sim_arg sim_var (sim_arg sim_int (sim_arg (sim_op (op_i0 (fun _ _ _ => rfl)) (SimE.w sim_var) (SimE.w sim_int)) sim_args))))))
    (sim_seq (sim_drop (sim_fz (sim_callS (fun _ => rfl) (sim_arg sim_var (sim_arg sim_int (sim_arg sim_int sim_args))))))
    (sim_seq (sim_fldSet (by assumption) (by assumption) sim_var)
    (sim_seq (sim_fldSet (by assumption) (by assumption) sim_var)
    (sim_seq (sim_fldSet (by assumption) (by assumption) sim_var)
    (sim_seq (sim_fldSet (by assumption) (by assumption) sim_var)
    (sim_seq (sim_fldSet (by assumption) (by assumption) sim_var)
    (sim_fldSet (by assumption) (by assumption) sim_var))))))))))))
def b_Frame_numbers (T : Tx K mg base) : AS := (aRet (aTup (aCons (aFld T.c_Frame "every" (aVar 0)) (aCons (aFld T.c_Frame "long" (aVar 0)) (aCons (aFld T.c_Frame "release" (aVar 0)) (aCons (aFld T.c_Frame "last" (aVar 0)) aNil))))))
abbrev A_Frame_numbers (T : Tx K mg base) : AF := bodyA [false] 0 (b_Frame_numbers T)
theorem A_Frame_numbers_of (T : Tx K mg base) {d0 : D} {q : AV → Prop} {x : Exn → Prop} (h : b_Frame_numbers T ⟨fun _ => q (.fz .non), fun av _ => q av, fun _ => False, fun _ => False, fun e _ => x e⟩ [some (.fz d0)]) : A_Frame_numbers T [.fz d0] q x := ⟨rfl, h⟩
theorem ok_Frame_numbers (T : Tx K mg base) : FnOk P w K mg base CX0 1 T.f_Frame_numbers T.fd_Frame_numbers ["self"] (spD K T.tb (A_Frame_numbers T)) := by
  refine T.F_Frame_numbers.ok sc_Frame_numbers (fun vs H Q E h => spD_len h) (fun cdv A outer s0 H vs Q E hr h => ?_)
  have hst : L2.start ["self"] vs = vs.map some ++ List.replicate 0 none := by
    unfold L2.start
    rw [spD_len h]
    rfl
  have cl_Frame := T.C_Frame
  have na_Frame_every := T.N_Frame_every
  have na_Frame_last := T.N_Frame_last
  have na_Frame_long := T.N_Frame_long
  have na_Frame_release := T.N_Frame_release
  refine ⟨_, (pss_one (ps_ret (pe_tup (pa_cons (pe_fldK (K := K) rfl (pv 0) rfl) (pa_cons (pe_fldK (K := K) rfl (pv 0) rfl) (pa_cons (pe_fldK (K := K) rfl (pv 0) rfl) (pa_cons (pe_fldK (K := K) rfl (pv 0) rfl) pa_nil))))))), run_body h hst fun pk pv O M U0 H0 X => ?_⟩
  unfold b_Frame_numbers
  exact (sim_ret (sim_tup (sim_cons (sim_fld (by assumption) (by assumption) (SimE.w sim_var)) (sim_cons (sim_fld (by assumption) (by assumption) (SimE.w sim_var)) (sim_cons (sim_fld (by assumption) (by assumption) (SimE.w sim_var)) (sim_cons (sim_fld (by assumption) (by assumption) (SimE.w sim_var)) sim_nil))))))
def b_Frame_eq (T : Tx K mg base) : AS := (aSeq (aIf (aNot (aTest (aCB (oIsC T.c_Frame) (aCons (aVar 1) (aCons (aC (.adr T.c_Frame)) aNil)))))
    (aRet (aC (.bl false)))
    aNext)
    (aSeq (aIf (aOr (aTest (aOp oNe (aFld T.c_Frame "name" (aVar 0)) (aFld T.c_Frame "name" (aVar 1)))) (aTest (aOp oNeD (aFld T.c_Frame "ways" (aVar 0)) (aFld T.c_Frame "ways" (aVar 1)))))
    (aRet (aC (.bl false)))
    aNext)
    (aRet (aOp oEqD (aFz (aMe0 T.c_Frame "numbers" (A_Frame_numbers T) (aVar 0) aArgs)) (aFz (aMe0 T.c_Frame "numbers" (A_Frame_numbers T) (aVar 1) aArgs))))))
abbrev A_Frame_eq (T : Tx K mg base) : AF := bodyA [false, false] 0 (b_Frame_eq T)
theorem A_Frame_eq_of (T : Tx K mg base) {d0 d1 : D} {q : AV → Prop} {x : Exn → Prop} (h : b_Frame_eq T ⟨fun _ => q (.fz .non), fun av _ => q av, fun _ => False, fun _ => False, fun e _ => x e⟩ [some (.fz d0), some (.fz d1)]) : A_Frame_eq T [.fz d0, .fz d1] q x := ⟨rfl, h⟩
theorem ok_Frame_eq (T : Tx K mg base) : FnOk P w K mg base CX0 2 T.f_Frame_eq T.fd_Frame_eq ["self", "other"] (spD K T.tb (A_Frame_eq T)) := by
  refine T.F_Frame_eq.ok sc_Frame_eq (fun vs H Q E h => spD_len h) (fun cdv A outer s0 H vs Q E hr h => ?_)
  have hst : L2.start ["self", "other"] vs = vs.map some ++ List.replicate 0 none := by
    unfold L2.start
    rw [spD_len h]
    rfl
  have is_Frame := T.I_Frame
  have cL_Frame := T.C_Frame
  have cl_Frame := T.C_Frame
  have na_Frame_name := T.N_Frame_name
  have na_Frame_ways := T.N_Frame_ways
  refine ⟨_, (pss_cons (ps_if (pt_not (pt_val (pe_callB (call_isiKK (K := K) rfl) (by rfl) T.z_isinstance bt_isinstance (pa_cons (pv 1) (pa_cons (pe_glob (v := .ref T.c_Frame) (by rfl) T.g_Frame rfl) pa_nil)))))
      (pss_one (ps_ret pe_bl))
      pss_nil)
      (pss_cons (ps_if ((pw_or (pt_cmpR op_ne (pe_fldK (K := K) rfl (pv 0) rfl) (pe_fldK (K := K) rfl (pv 1) rfl) (nomark _)) (pw_or1 (pt_cmpR (op_neDK (K := K) rfl hr.units) (pe_fldK (K := K) rfl (pv 0) rfl) (pe_fldK (K := K) rfl (pv 1) rfl) (nomark _))))).pt
      (pss_one (ps_ret pe_bl))
      pss_nil)
      (pss_one (ps_ret (pe_cmpR (op_eqDK (K := K) rfl hr.units) (pe_meth0 (pv 0) T.C_Frame T.m_Frame_numbers (ok_Frame_numbers T) (hr.mono (by decide)) T.b_Frame_numbers .nil pass0) (pe_meth0 (pv 1) T.C_Frame T.m_Frame_numbers (ok_Frame_numbers T) (hr.mono (by decide)) T.b_Frame_numbers .nil pass0) (nomark _)))))), run_body h hst fun pk pv O M U0 H0 X => ?_⟩
  unfold b_Frame_eq
  exact (sim_seq (sim_if (sim_not (sim_test (SimE.w (sim_cb (bu_isC (by assumption) (by assumption)) (sim_consW (SimE.w sim_var) (sim_consW (SimE.w sim_adr) sim_nilW))))))
    (sim_ret sim_bl)
    sim_next)
    (sim_seq (sim_if (sim_or (sim_test (SimE.w (sim_op op_neS (SimE.w (sim_fld (by assumption) (by assumption) (SimE.w sim_var))) (SimE.w (sim_fld (by assumption) (by assumption) (SimE.w sim_var)))))) (sim_test (SimE.w (sim_op op_neDD (SimE.w (sim_fld (by assumption) (by assumption) (SimE.w sim_var))) (SimE.w (sim_fld (by assumption) (by assumption) (SimE.w sim_var)))))))
    (sim_ret sim_bl)
    sim_next)
    (sim_ret (sim_op op_eqDD (SimE.w (sim_fz (sim_me0 sim_var sim_args))) (SimE.w (sim_fz (sim_me0 sim_var sim_args)))))))
def b_Frame_str (T : Tx K mg base) : AS := (aSeq (aSet 1 (aBmS oJoin (aC (.str "/")) (aCons (aFz (aLc (aItT (aFld T.c_Frame "ways" (aVar 0))) (gN 3) aYes (aBmS oJoin (aC (.str ".")) (aCons (aVar 3) aNil)) [3])) aNil)))
    (aSeq (aSet 2 (aFst [(aFmt (aFld T.c_Frame "name" (aVar 0))), (aC (.str " every ")), (aFmt (aFld T.c_Frame "every" (aVar 0))), (aC (.str " long ")), (aFmt (aFld T.c_Frame "long" (aVar 0)))]))
    (aRet (aFst [(aFmt (aVar 2)), (aC (.str " release ")), (aFmt (aFld T.c_Frame "release" (aVar 0))), (aC (.str " last ")), (aFmt (aFld T.c_Frame "last" (aVar 0))), (aC (.str " by ")), (aFmt (aVar 1))]))))
abbrev A_Frame_str (T : Tx K mg base) : AF := bodyA [false] 3 (b_Frame_str T)
theorem A_Frame_str_of (T : Tx K mg base) {d0 : D} {q : AV → Prop} {x : Exn → Prop} (h : b_Frame_str T ⟨fun _ => q (.fz .non), fun av _ => q av, fun _ => False, fun _ => False, fun e _ => x e⟩ [some (.fz d0), none, none, none]) : A_Frame_str T [.fz d0] q x := ⟨rfl, h⟩
theorem ok_Frame_str (T : Tx K mg base) : FnOk P w K mg base CX0 1 T.f_Frame_str T.fd_Frame_str ["self"] (spD K T.tb (A_Frame_str T)) := by
  refine T.F_Frame_str.ok sc_Frame_str (fun vs H Q E h => spD_len h) (fun cdv A outer s0 H vs Q E hr h => ?_)
  have hst : L2.start ["self", "road", "head", "way"] vs = vs.map some ++ List.replicate 3 none := by
    unfold L2.start
    rw [spD_len h]
    rfl
  have cl_Frame := T.C_Frame
  have na_Frame_every := T.N_Frame_every
  have na_Frame_last := T.N_Frame_last
  have na_Frame_long := T.N_Frame_long
  have na_Frame_name := T.N_Frame_name
  have na_Frame_release := T.N_Frame_release
  have na_Frame_ways := T.N_Frame_ways
  refine ⟨_, (pss_cons (ps_set (i := 1) sc_Frame_str.nd rfl (Or.inl rfl) (pe_bmK (K := K) rfl (pe_bm PySem.F.plainAttrs_str PySem.F.slot_str_join PySem.F.type_str_join (mt_joinK (K := K) rfl) pe_str (pa_cons (pe_lc (own := [("way", 3)]) (by rfl) sc_Frame_str.nd (pi_tupK (K := K) rfl (pe_fldK (K := K) rfl (pv 0) rfl)) (blkOk_by (own := [("way", 3)]) (N := ["self", "road", "head", "way"]) (sc := defScope s_Frame_str) (by decide +kernel)) (fun _ _ _ _ _ => (pg_name (i := 3) sc_Frame_str.nd rfl (Or.inl rfl))) (fun _ _ _ _ _ => pts_nil) (fun _ _ _ _ _ => (pe_bmK (K := K) rfl (pe_bm PySem.F.plainAttrs_str PySem.F.slot_str_join PySem.F.type_str_join (mt_joinK (K := K) rfl) pe_str (pa_cons (pv 3) pa_nil))))) pa_nil))))
      (pss_cons (ps_set (i := 2) sc_Frame_str.nd rfl (Or.inl rfl) (pe_joined (.cons (pe_fmt (pe_fldK (K := K) rfl (pv 0) rfl)) (.cons pe_str (.cons (pe_fmt (pe_fldK (K := K) rfl (pv 0) rfl)) (.cons pe_str (.cons (pe_fmt (pe_fldK (K := K) rfl (pv 0) rfl)) .nil)))))))
      (pss_one (ps_ret (pe_joined (.cons (pe_fmt (pv 2)) (.cons pe_str (.cons (pe_fmt (pe_fldK (K := K) rfl (pv 0) rfl)) (.cons pe_str (.cons (pe_fmt (pe_fldK (K := K) rfl (pv 0) rfl)) (.cons pe_str (.cons (pe_fmt (pv 1)) .nil)))))))))))), run_body h hst fun pk pv O M U0 H0 X => ?_⟩
  unfold b_Frame_str
  exact (sim_seq (sim_set rfl (sim_bmS mt_joinD (SimE.w sim_str) (sim_consW (SimE.w (sim_fz (sim_lc (SimI.w (sim_itT (sim_fld (by assumption) (by assumption) (SimE.w sim_var)))) (sim_gN rfl) sim_yes (sim_bmS mt_joinD (SimE.w sim_str) (sim_consW (SimE.w sim_var) sim_nilW)) rfl rfl))) sim_nilW)))
    (sim_seq (sim_set rfl (sim_fst (.cons (sim_fmt (SimE.w (sim_fld (by assumption) (by assumption) (SimE.w sim_var)))) (.cons sim_str (.cons (sim_fmt (SimE.w (sim_fld (by assumption) (by assumption) (SimE.w sim_var)))) (.cons sim_str (.cons (sim_fmt (SimE.w (sim_fld (by assumption) (by assumption) (SimE.w sim_var)))) .nil)))))))
    (sim_ret (sim_fst (.cons (sim_fmt (SimE.w sim_var)) (.cons sim_str (.cons (sim_fmt (SimE.w (sim_fld (by assumption) (by assumption) (SimE.w sim_var)))) (.cons sim_str (.cons (sim_fmt (SimE.w (sim_fld (by assumption) (by assumption) (SimE.w sim_var)))) (.cons sim_str (.cons (sim_fmt (SimE.w sim_var)) .nil)))))))))))
def b_read_number (T : Tx K mg base) : AS := (aSeq (aIf (aOr (aTest (aOp oEq (aVar 0) (aC (.str "")))) (aOr (aTest (aOp oGt (aCB oLenS (aCons (aVar 0) aNil)) (aC (.int 6)))) (aNot (aTest (aCB oAll (aCons (aFz (aLc (aItS (aVar 0)) (gN 1) aYes (aOp oInS (aVar 1) (aC (.str "0123456789"))) [1])) aNil))))))
    aNever
    aNext)
    (aSeq (aIf (aAnd (aTest (aOp oGt (aCB oLenS (aCons (aVar 0) aNil)) (aC (.int 1)))) (aTest (aOp oEq (aOp oIxS (aVar 0) (aC (.int 0))) (aC (.str "0")))))
    aNever
    aNext)
    (aRet (aCB oIntS (aCons (aVar 0) aNil)))))
abbrev A_read_number (T : Tx K mg base) : AF := bodyA [false] 1 (b_read_number T)
theorem A_read_number_of (T : Tx K mg base) {d0 : D} {q : AV → Prop} {x : Exn → Prop} (h : b_read_number T ⟨fun _ => q (.fz .non), fun av _ => q av, fun _ => False, fun _ => False, fun e _ => x e⟩ [some (.fz d0), none]) : A_read_number T [.fz d0] q x := ⟨rfl, h⟩
theorem ok_read_number (T : Tx K mg base) : FnOk P w K mg base CX0 1 T.f_read_number T.fd_read_number ["word"] (spD K T.tb (A_read_number T)) := by
  refine T.F_read_number.ok sc_read_number (fun vs H Q E h => spD_len h) (fun cdv A outer s0 H vs Q E hr h => ?_)
  have hst : L2.start ["word", "sign"] vs = vs.map some ++ List.replicate 1 none := by
    unfold L2.start
    rw [spD_len h]
    rfl
  refine ⟨_, (pss_cons (ps_if ((pw_or (pt_cmpR op_eq (pv 0) pe_str (nomark _)) (pw_or (pt_cmpR op_gt (pe_callB call_len_str (by rfl) T.z_len bt_len (pa_cons (pv 0) pa_nil)) pe_int (nomark _)) (pw_or1 (pt_not (pt_val (pe_callB (cr_allK (K := K) rfl (by rfl)) (by rfl) T.z_all bt_all (pa_cons (pe_lc (own := [("sign", 1)]) (by rfl) sc_read_number.nd (pi_str (pv 0)) (blkOk_by (own := [("sign", 1)]) (N := ["word", "sign"]) (sc := defScope s_read_number) (by decide +kernel)) (fun _ _ _ _ _ => (pg_name (i := 1) sc_read_number.nd rfl (Or.inl rfl))) (fun _ _ _ _ _ => pts_nil) (fun _ _ _ _ _ => (pe_cmpR op_in_sign (pv 1) pe_str (by with_unfolding_all rfl)))) pa_nil)))))))).pt
      (pss_one ps_never)
      pss_nil)
      (pss_cons (ps_if ((pw_and (pt_cmpR op_gt (pe_callB call_len_str (by rfl) T.z_len bt_len (pa_cons (pv 0) pa_nil)) pe_int (nomark _)) (pw_and1 (pt_cmpR op_eq (pe_ix ix_str (pv 0) pe_int (fun _ _ => rfl)) pe_str (nomark _))))).pt
      (pss_one ps_never)
      pss_nil)
      (pss_one (ps_ret (pe_callTy cr_intS (by rfl) T.z_int bt_int (pa_cons (pv 0) pa_nil)))))), run_body h hst fun pk pv O M U0 H0 X => ?_⟩
  unfold b_read_number
  exact (sim_seq (sim_if (sim_or (sim_test (SimE.w (sim_op op_eqS (SimE.w sim_var) (SimE.w sim_str)))) (sim_or (sim_test (SimE.w (sim_op (op_i0 (fun _ _ _ => rfl)) (SimE.w (sim_cb bu_lenS (sim_consW (SimE.w sim_var) sim_nilW))) (SimE.w sim_int)))) (sim_not (sim_test (SimE.w (sim_cb bu_all (sim_consW (SimE.w (sim_fz (sim_lc (SimI.w (sim_itS sim_var)) (sim_gN rfl) sim_yes (sim_op op_inSS (SimE.w sim_var) (SimE.w sim_str)) rfl rfl))) sim_nilW)))))))
    sim_never
    sim_next)
    (sim_seq (sim_if (sim_and (sim_test (SimE.w (sim_op (op_i0 (fun _ _ _ => rfl)) (SimE.w (sim_cb bu_lenS (sim_consW (SimE.w sim_var) sim_nilW))) (SimE.w sim_int)))) (sim_test (SimE.w (sim_op op_eqS (SimE.w (sim_op op_ixS (SimE.w sim_var) (SimE.w sim_int))) (SimE.w sim_str)))))
    sim_never
    sim_next)
    (sim_ret (sim_cb bu_intS (sim_consW (SimE.w sim_var) sim_nilW)))))
def b_read_frame (T : Tx K mg base) : AS := (aSeq (aStar 1 2 (aFz (aBmO oSplit (aVar 0) (aCons (aC (.str " ")) aNil))))
    (aSeq (aIf (aOr (aTest (aOp oEq (aVar 1) (aC (.str "")))) (aOr (aTest (aOp oNe (aCB oLen (aCons (aVar 2) aNil)) (aC (.int 10)))) (aTest (aOp oNeD (aSlLs 2 (aVar 2) (aPart (aC (.int 0))) aNoPart) (aFz (aLst (aCons (aC (.str "every")) (aCons (aC (.str "long")) (aCons (aC (.str "release")) (aCons (aC (.str "last")) (aCons (aC (.str "by")) aNil)))))))))))
    aNever
    aNext)
    (aSeq (aAsg (aFz (aLc (aItL (aSlLs 2 (aVar 2) (aPart (aC (.int 1))) (aPart (aC (.int 8))))) (gN 9) aYes (aFz (aCall0 (A_read_number T) (aArg (aVar 9) aArgs))) [9])) (gL 4 (gsCons (gN 3) (gsCons (gN 4) (gsCons (gN 5) (gsCons (gN 6) gsNil))))))
    (aSeq (aSet 7 (aFz (aBmO oSplit (aOp oIxL (aVar 2) (aC (.int 9))) (aCons (aC (.str "/")) aNil))))
    (aSeq (aIf (aOr (aTest (aOp oGt (aCB oLen (aCons (aVar 7) aNil)) (aC (.int 2)))) (aTest (aOp oIn (aC (.str "")) (aVar 7))))
    aNever
    aNext)
    (aSeq (aSet 8 (aCB oTuple (aCons (aFz (aLc (aItL (aVar 7)) (gN 10) aYes (aCB oTuple (aCons (aFz (aBmO oSplit (aVar 10) (aCons (aC (.str ".")) aNil))) aNil)) [10])) aNil)))
    (aRet (aFz (aMkN0 T.c_Frame 2 4 (A_Frame_init T) [.kw 0, .kw 1, .kw 2, .kw 3] (aCons (aVar 1) (aCons (aVar 8) aNil)) (aCons (aVar 3) (aCons (aVar 4) (aCons (aVar 5) (aCons (aVar 6) aNil)))))))))))))
abbrev A_read_frame (T : Tx K mg base) : AF := bodyA [false] 10 (b_read_frame T)
theorem A_read_frame_of (T : Tx K mg base) {d0 : D} {q : AV → Prop} {x : Exn → Prop} (h : b_read_frame T ⟨fun _ => q (.fz .non), fun av _ => q av, fun _ => False, fun _ => False, fun e _ => x e⟩ [some (.fz d0), none, none, none, none, none, none, none, none, none, none]) : A_read_frame T [.fz d0] q x := ⟨rfl, h⟩
theorem ok_read_frame (T : Tx K mg base) : FnOk P w K mg base CX0 6 T.f_read_frame T.fd_read_frame ["text"] (spD K T.tb (A_read_frame T)) := by
  refine T.F_read_frame.ok sc_read_frame (fun vs H Q E h => spD_len h) (fun cdv A outer s0 H vs Q E hr h => ?_)
  have hst : L2.start ["text", "name", "rest", "every", "long", "release", "last", "roads", "ways", "word", "road"] vs = vs.map some ++ List.replicate 10 none := by
    unfold L2.start
    rw [spD_len h]
    rfl
  obtain ⟨mv_kb_Frame_init_every_long_release_last, hkb_Frame_init_every_long_release_last⟩ := kb_Frame_init_every_long_release_last T
  refine ⟨_, (pss_cons (ps_asg (pe_bmK (K := K) rfl (pe_bm PySem.F.plainAttrs_str PySem.F.slot_str_split PySem.F.type_str_split mt_splitR (pv 0) (pa_cons pe_str pa_nil))) (pg_star (K := K) rfl (by rfl) (pgs_cons (pg_name (i := 1) sc_read_frame.nd rfl (Or.inl rfl)) (pgs_cons (pg_name (i := 2) sc_read_frame.nd rfl (Or.inl rfl)) pgs_nil))))
      (pss_cons (ps_if ((pw_or (pt_cmpR op_eq (pv 1) pe_str (nomark _)) (pw_or (pt_cmpR op_ne (pe_callB (call_lenK (K := K) rfl) (by rfl) T.z_len bt_len (pa_cons (pv 2) pa_nil)) pe_int (nomark _)) (pw_or1 (pt_cmpR (op_neDK (K := K) rfl hr.units) (pe_slL (K := K) rfl (pv 2) (po_some pe_int) po_none) (pe_lst (pa_cons pe_str (pa_cons pe_str (pa_cons pe_str (pa_cons pe_str (pa_cons pe_str pa_nil)))))) (nomark _)))))).pt
      (pss_one ps_never)
      pss_nil)
      (pss_cons (ps_asg (pe_lc (own := [("word", 9)]) (by rfl) sc_read_frame.nd (pi_listK (K := K) rfl (pe_slL (K := K) rfl (pv 2) (po_some pe_int) (po_some pe_int))) (blkOk_by (own := [("word", 9)]) (N := ["text", "name", "rest", "every", "long", "release", "last", "roads", "ways", "word", "road"]) (sc := defScope s_read_frame) (by decide +kernel)) (fun _ _ _ _ _ => (pg_name (i := 9) sc_read_frame.nd rfl (Or.inl rfl))) (fun _ _ _ _ _ => pts_nil) (fun _ _ _ _ _ => (pe_call (ok_read_number T) (hr.mono (by decide)) (by rfl) T.g_read_number T.F_read_number.kp T.b_read_number .nil pass0 (pa_cons (pv 9) pa_nil)))) (pg_lstK (K := K) (n := 4) rfl (by rfl) (pgs_cons (pg_name (i := 3) sc_read_frame.nd rfl (Or.inl rfl)) (pgs_cons (pg_name (i := 4) sc_read_frame.nd rfl (Or.inl rfl)) (pgs_cons (pg_name (i := 5) sc_read_frame.nd rfl (Or.inl rfl)) (pgs_cons (pg_name (i := 6) sc_read_frame.nd rfl (Or.inl rfl)) pgs_nil))))))
      (pss_cons (ps_set (i := 7) sc_read_frame.nd rfl (Or.inl rfl) (pe_bmK (K := K) rfl (pe_bm PySem.F.plainAttrs_str PySem.F.slot_str_split PySem.F.type_str_split mt_splitR (pe_ix (ix_listK (K := K) rfl) (pv 2) pe_int (fun _ _ => rfl)) (pa_cons pe_str pa_nil))))
      (pss_cons (ps_if ((pw_or (pt_cmpR op_gt (pe_callB (call_lenK (K := K) rfl) (by rfl) T.z_len bt_len (pa_cons (pv 7) pa_nil)) pe_int (nomark _)) (pw_or1 (pt_cmpR (op_inK (K := K) rfl) pe_str (pv 7) (by with_unfolding_all rfl))))).pt
      (pss_one ps_never)
      pss_nil)
      (pss_cons (ps_set (i := 8) sc_read_frame.nd rfl (Or.inl rfl) (pe_callTy (call_tupleK (K := K) rfl) (by rfl) T.z_tuple bt_tuple (pa_cons (pe_lc (own := [("road", 10)]) (by rfl) sc_read_frame.nd (pi_listK (K := K) rfl (pv 7)) (blkOk_by (own := [("road", 10)]) (N := ["text", "name", "rest", "every", "long", "release", "last", "roads", "ways", "word", "road"]) (sc := defScope s_read_frame) (by decide +kernel)) (fun _ _ _ _ _ => (pg_name (i := 10) sc_read_frame.nd rfl (Or.inl rfl))) (fun _ _ _ _ _ => pts_nil) (fun _ _ _ _ _ => (pe_callTy (call_tupleK (K := K) rfl) (by rfl) T.z_tuple bt_tuple (pa_cons (pe_bmK (K := K) rfl (pe_bm PySem.F.plainAttrs_str PySem.F.slot_str_split PySem.F.type_str_split mt_splitR (pv 10) (pa_cons pe_str pa_nil))) pa_nil)))) pa_nil)))
      (pss_one (ps_ret (pe_mkNS T.M_Frame (ok_Frame_init T) (hr.mono (by decide)) (by rfl) T.g_Frame hkb_Frame_init_every_long_release_last coldAt (pa_cons (pv 1) (pa_cons (pv 8) pa_nil)) (pk_cons (pv 3) (pk_cons (pv 4) (pk_cons (pv 5) (pk_cons (pv 6) pk_nil))))))))))))), run_body h hst fun pk pv O M U0 H0 X => ?_⟩
  unfold b_read_frame
  exact (sim_seq (sim_star rfl rfl (SimE.w (sim_fz (sim_bmO mt_splitD (SimE.w sim_var) (sim_consW (SimE.w sim_str) sim_nilW)))))
    (sim_seq (sim_if (sim_or (sim_test (SimE.w (sim_op op_eqS (SimE.w sim_var) (SimE.w sim_str)))) (sim_or (sim_test (SimE.w (sim_op op_neS (SimE.w (sim_cb bu_len (sim_consW (SimE.w sim_var) sim_nilW))) (SimE.w sim_int)))) (sim_test (SimE.w (sim_op op_neDD (SimE.w (sim_slLs (SimE.w sim_var) (sim_part (SimE.w sim_int)) sim_noPart)) (SimE.w (sim_fz (sim_lst (sim_cons sim_str (sim_cons sim_str (sim_cons sim_str (sim_cons sim_str (sim_cons sim_str sim_nil)))))))))))))
    sim_never
    sim_next)
    (sim_seq (sim_asg (sim_fz (sim_lc (sim_itLW (SimE.w (sim_slLs (SimE.w sim_var) (sim_part (SimE.w sim_int)) (sim_part (SimE.w sim_int))))) (sim_gN rfl) sim_yes (sim_fz (sim_call (sim_arg sim_var sim_args))) rfl rfl)) (sim_gL (sim_gsCons (sim_gN rfl) (sim_gsCons (sim_gN rfl) (sim_gsCons (sim_gN rfl) (sim_gsCons (sim_gN rfl) sim_gsNil))))))
    (sim_seq (sim_set rfl (sim_fz (sim_bmO mt_splitD (SimE.w (sim_op op_ixL (SimE.w sim_var) (SimE.w sim_int))) (sim_consW (SimE.w sim_str) sim_nilW))))
    (sim_seq (sim_if (sim_or (sim_test (SimE.w (sim_op (op_i0 (fun _ _ _ => rfl)) (SimE.w (sim_cb bu_len (sim_consW (SimE.w sim_var) sim_nilW))) (SimE.w sim_int)))) (sim_test (SimE.w (sim_op op_inS' (SimE.w sim_str) (SimE.w sim_var)))))
    sim_never
    sim_next)
    (sim_seq (sim_set rfl (sim_cb bu_tuple (sim_consW (SimE.w (sim_fz (sim_lc (sim_itLW (SimE.w sim_var)) (sim_gN rfl) sim_yes (sim_cb bu_tuple (sim_consW (SimE.w (sim_fz (sim_bmO mt_splitD (SimE.w sim_var) (sim_consW (SimE.w sim_str) sim_nilW)))) sim_nilW)) rfl rfl))) sim_nilW)))
    (sim_ret (sim_fz (sim_mkN0 rfl (by walk_at "arr") (sim_cons sim_var (sim_cons sim_var sim_nil)) (sim_cons sim_var (sim_cons sim_var (sim_cons sim_var (sim_cons sim_var sim_nil)))))))))))))
def b_law_pick (T : Tx K mg base) : AS := (aRet (aOp oIxL (aVar 1) (aFz (aCall0 (A_law_draw T) (aSlot 0 (aArg (aCB oLen (aCons (aVar 1) aNil)) aArgs))))))
abbrev A_law_pick (T : Tx K mg base) : AF := bodyA [true, false] 0 (b_law_pick T)
theorem A_law_pick_of (T : Tx K mg base) {d1 : D} {q : AV → Prop} {x : Exn → Prop} (h : b_law_pick T ⟨fun _ => q (.fz .non), fun av _ => q av, fun _ => False, fun _ => False, fun e _ => x e⟩ [some (.dr), some (.fz d1)]) : A_law_pick T [.dr, .fz d1] q x := ⟨rfl, h⟩
theorem ok_law_pick (T : Tx K mg base) : FnOk P w K mg base CX0 2 T.f_law_pick T.fd_law_pick ["_law_s", "_law_row_here"] (spD K T.tb (A_law_pick T)) := by
  refine T.F_law_pick.ok sc_law_pick (fun vs H Q E h => spD_len h) (fun cdv A outer s0 H vs Q E hr h => ?_)
  have hst : L2.start ["_law_s", "_law_row_here"] vs = vs.map some ++ List.replicate 0 none := by
    unfold L2.start
    rw [spD_len h]
    rfl
  refine ⟨_, (pss_one (ps_ret (pe_ix (ix_listK (K := K) rfl) (pv 1) (pe_call (ok_law_draw T) (hr.mono (by decide)) (by rfl) T.g_law_draw T.F_law_draw.kp T.b_law_draw .nil pass0 (pa_cons (pv 0) (pa_cons (pe_callB (call_lenK (K := K) rfl) (by rfl) T.z_len bt_len (pa_cons (pv 1) pa_nil)) pa_nil))) (fun _ _ => rfl)))), run_body h hst fun pk pv O M U0 H0 X => ?_⟩
  unfold b_law_pick
  exact (sim_ret (sim_op op_ixL (SimE.w sim_var) (SimE.w (sim_fz (sim_call (sim_slot (sim_arg (sim_cb bu_len (sim_consW (SimE.w sim_var) sim_nilW)) sim_args)))))))
def b_law_name_1 (T : Tx K mg base) : AS := (aSeq (aSet 5 (aBmS oJoin (aC (.str "")) (aCons (aFz (aLc (aRng1 (aCons (aVar 4) aNil)) (gN 6) aYes (aOp oIxS (aVar 2) (aFz (aCall0 (A_law_draw T) (aSlot 0 (aArg (aC (.int 26)) aArgs))))) [6])) aNil)))
    (aIf (aTest (aOp oNotIn (aVar 5) (aVarW 1)))
    (aSeq (aApp 1 (aVar 5))
    (aRet (aVar 5)))
    aNext))
def b_law_name (T : Tx K mg base) : AS := (aSeq (aSet 2 (aC (.str "abcdefghijklmnopqrstuvwxyz")))
    (aSeq (aFor (aRng1 (aCons (aC (.int 4)) aNil)) (gN 3)
    (aSeq (aSet 4 (aOp oAdd (aC (.int 1)) (aFz (aCall0 (A_law_draw T) (aSlot 0 (aArg (aC (.int 3)) aArgs))))))
    (aSeq (aIf (aTest (aOp oEq (aVar 4) (aC (.int 3))))
    (aSet 4 (aOp oAdd (aC (.int 1)) (aFz (aCall0 (A_law_draw T) (aSlot 0 (aArg (aC (.int 8)) aArgs))))))
    aNext)
    (b_law_name_1 T))))
    (aSeq (aFor (aRng1 (aCons (aC (.int 104)) aNil)) (gN 6)
    (aSeq (aSet 5 (aOp oMulS (aOp oIxS (aVar 2) (aOp oMod (aVar 6) (aC (.int 26)))) (aOp oAdd (aC (.int 1)) (aOp oDiv (aVar 6) (aC (.int 26))))))
    (aIf (aTest (aOp oNotIn (aVar 5) (aVarW 1)))
    (aSeq (aApp 1 (aVar 5))
    (aRet (aVar 5)))
    aNext)))
    (aRet (aC (.str "zzzzzzzz"))))))
abbrev A_law_name (T : Tx K mg base) : AFM := bodyM [4, 1] 5 (b_law_name T)
theorem A_law_name_of (T : Tx K mg base) (l1 : List D) {q : AV → List AV → Prop} {x : Exn → List AV → Prop} (h : b_law_name T ⟨fun ρ => q (.fz .non) (mrg [.dr, .ol l1] (selM [true, true] ρ)), fun av ρ => q av (mrg [.dr, .ol l1] (selM [true, true] ρ)), fun _ => False, fun _ => False, fun e ρ => x e (mrg [.dr, .ol l1] (selM [true, true] ρ))⟩ [some (.dr), some (.ol l1), none, none, none, none, none]) : A_law_name T [.dr, .ol l1] q x := ⟨rfl, h⟩
theorem ok_law_name (T : Tx K mg base) : FnOk P w K mg base CX0 2 T.f_law_name T.fd_law_name ["_law_s", "_law_names"] (spM K T.tb (A_law_name T)) := by
  refine T.F_law_name.ok sc_law_name (fun vs H Q E h => spM_len h) (fun cdv A outer s0 H vs Q E hr h => ?_)
  have hst : L2.start ["_law_s", "_law_names", "_law_letters", "_law_turn", "_law_size", "_law_word", "_law_k"] vs = vs.map some ++ List.replicate 5 none := by
    unfold L2.start
    rw [spM_len h]
    rfl
  refine ⟨_, (pss_cons (ps_set (i := 2) sc_law_name.nd rfl (Or.inr rfl) pe_str)
      (pss_cons (ps_for PassesOwn.never rfl (pi_range1 (by rfl) T.z_range (pa_cons pe_int pa_nil)) (pg_name (i := 3) sc_law_name.nd rfl (Or.inl rfl))
      (pss_cons (ps_set (i := 4) sc_law_name.nd rfl (Or.inl rfl) (pe_op op_add pe_int (pe_call (ok_law_draw T) (hr.mono (by decide)) (by rfl) T.g_law_draw T.F_law_draw.kp T.b_law_draw .nil pass0 (pa_cons (pv 0) (pa_cons pe_int pa_nil)))))
      (pss_cons (ps_if (pt_cmpR op_eq (pv 4) pe_int (nomark _))
      (pss_one (ps_set (i := 4) sc_law_name.nd rfl (Or.inl rfl) (pe_op op_add pe_int (pe_call (ok_law_draw T) (hr.mono (by decide)) (by rfl) T.g_law_draw T.F_law_draw.kp T.b_law_draw .nil pass0 (pa_cons (pv 0) (pa_cons pe_int pa_nil))))))
      pss_nil)
      (pss_cons (ps_set (i := 5) sc_law_name.nd rfl (Or.inl rfl) (pe_bmK (K := K) rfl (pe_bm PySem.F.plainAttrs_str PySem.F.slot_str_join PySem.F.type_str_join (mt_joinK (K := K) rfl) pe_str (pa_cons (pe_lc (own := [("_law_k", 6)]) (by rfl) sc_law_name.nd (pi_range1 (by rfl) T.z_range (pa_cons (pv 4) pa_nil)) (blkOk_by (own := [("_law_k", 6)]) (N := ["_law_s", "_law_names", "_law_letters", "_law_turn", "_law_size", "_law_word", "_law_k"]) (sc := defScope s_law_name) (by decide +kernel)) (fun _ _ _ _ _ => (pg_name (i := 6) sc_law_name.nd rfl (Or.inl rfl))) (fun _ _ _ _ _ => pts_nil) (fun _ _ _ _ _ => (pe_ix ix_str (pv 2) (pe_call (ok_law_draw T) (hr.mono (by decide)) (by rfl) T.g_law_draw T.F_law_draw.kp T.b_law_draw .nil pass0 (pa_cons (pv 0) (pa_cons pe_int pa_nil))) (fun _ _ => rfl)))) pa_nil))))
      (pss_one (ps_if (pt_cmpR (op_notInK (K := K) rfl) (pv 5) (pv 1) (by with_unfolding_all rfl))
      (pss_cons (ps_expr (pe_bm PySem.F.plainAttrs_list PySem.F.slot_list_append PySem.F.type_list_append mt_append (pv 1) (pa_cons (pv 5) pa_nil)))
      (pss_one (ps_ret (pv 5))))
      pss_nil))))))
      (pss_cons (ps_for PassesOwn.never rfl (pi_range1 (by rfl) T.z_range (pa_cons pe_int pa_nil)) (pg_name (i := 6) sc_law_name.nd rfl (Or.inl rfl))
      (pss_cons (ps_set (i := 5) sc_law_name.nd rfl (Or.inl rfl) (pe_op op_mulS (pe_ix ix_str (pv 2) (pe_op op_mod (pv 6) pe_int) (fun _ _ => rfl)) (pe_op op_add pe_int (pe_op op_fdiv (pv 6) pe_int))))
      (pss_one (ps_if (pt_cmpR (op_notInK (K := K) rfl) (pv 5) (pv 1) (by with_unfolding_all rfl))
      (pss_cons (ps_expr (pe_bm PySem.F.plainAttrs_list PySem.F.slot_list_append PySem.F.type_list_append mt_append (pv 1) (pa_cons (pv 5) pa_nil)))
      (pss_one (ps_ret (pv 5))))
      pss_nil))))
      (pss_one (ps_ret pe_str))))), run_bodyM h hst fun pk pv O M U0 H0 X => ?_⟩
  unfold b_law_name b_law_name_1
  exact (sim_seq (sim_set rfl sim_str)
    (sim_seq (sim_for (sim_rng1 (sim_consW (SimE.w sim_int) sim_nilW)) (sim_gN rfl)
    (sim_seq (sim_set rfl (sim_op (op_i0 (fun _ _ _ => rfl)) (SimE.w sim_int) (SimE.w (sim_fz (sim_call (sim_slot (sim_arg sim_int sim_args)))))))
    (sim_seq (sim_if (sim_test (SimE.w (sim_op op_eqS (SimE.w sim_var) (SimE.w sim_int))))
    (sim_set rfl (sim_op (op_i0 (fun _ _ _ => rfl)) (SimE.w sim_int) (SimE.w (sim_fz (sim_call (sim_slot (sim_arg sim_int sim_args)))))))
    sim_next)
    (sim_seq (sim_set rfl (sim_bmS mt_joinD (SimE.w sim_str) (sim_consW (SimE.w (sim_fz (sim_lc (SimI.w (sim_rng1 (sim_consW (SimE.w sim_var) sim_nilW))) (sim_gN rfl) sim_yes (sim_op op_ixS (SimE.w sim_var) (SimE.w (sim_fz (sim_call (sim_slot (sim_arg sim_int sim_args)))))) rfl rfl))) sim_nilW)))
    (sim_if (sim_test (SimE.w (sim_op op_notInS' (SimE.w sim_var) sim_varW)))
    (sim_seq (sim_app sim_var)
    (sim_ret sim_var))
    sim_next)))))
    (sim_seq (sim_for (sim_rng1 (sim_consW (SimE.w sim_int) sim_nilW)) (sim_gN rfl)
    (sim_seq (sim_set rfl (sim_op op_mulSD (SimE.w (sim_op op_ixS (SimE.w sim_var) (SimE.w (sim_op (op_ic (fun _ _ _ => rfl)) (SimE.w sim_var) (SimE.w sim_int))))) (SimE.w (sim_op (op_i0 (fun _ _ _ => rfl)) (SimE.w sim_int) (SimE.w (sim_op (op_ic (fun _ _ _ => rfl)) (SimE.w sim_var) (SimE.w sim_int)))))))
    (sim_if (sim_test (SimE.w (sim_op op_notInS' (SimE.w sim_var) sim_varW)))
    (sim_seq (sim_app sim_var)
    (sim_ret sim_var))
    sim_next)))
    (sim_ret sim_str))))
def b_law_hop_1 (T : Tx K mg base) : AS := (aRet (aLnE 2 7 0))
def b_law_hop_2 (T : Tx K mg base) : AS := (aSeq (aIf (aTest (aOp oNotIn (aVar 4) (aLn 2 7 2)))
    (aAppLn 2 7 2 (aVar 4))
    aNext)
    (b_law_hop_1 T))
def b_law_hop (T : Tx K mg base) : AS := (aSeq (aSet 6 (aFz (aLc (aItL (aVarW 2)) (gN 7) (aAnd (aTest (aOp oNotIn (aLn 2 7 0) (aVar 5))) (aOr (aTest (aOp oIn (aVar 3) (aLn 2 7 1))) (aTest (aOp oLt (aCB oLen (aCons (aLn 2 7 1) aNil)) (aC (.int 6)))))) (aVar 7) [7])))
    (aSeq (aSet 6 (aFz (aLc (aItL (aVar 6)) (gN 7) (aOr (aTest (aOp oIn (aVar 4) (aLn 2 7 2))) (aTest (aOp oLt (aCB oLen (aCons (aLn 2 7 2) aNil)) (aC (.int 6))))) (aVar 7) [7])))
    (aSeq (aIf (aAnd (aTest (aOp oLt (aCB oLen (aCons (aVarW 2) aNil)) (aC (.int 14)))) (aOr (aTest (aOp oEq (aCB oLen (aCons (aVar 6) aNil)) (aC (.int 0)))) (aTest (aOp oEq (aFz (aCall0 (A_law_draw T) (aSlot 0 (aArg (aC (.int 3)) aArgs)))) (aC (.int 0))))))
    (aSeq (mAppN 2 (mLstO (mConsO (mUp (mFz (mCall0 (A_law_name T) (aSlot 0 (aSlotO 1 aArgs))))) (mConsO (mO (aLst (aCons (aVar 3) aNil))) (mConsO (mO (aLst (aCons (aVar 4) aNil))) (mConsO (mUp (mE (aFz (aCall0 (A_law_draw T) (aSlot 0 (aArg (aC (.int 4)) aArgs)))))) mNilO))))))
    (aRet (aOnIx 2 (aUn oNeg (aC (.int 1))) 0)))
    aNext)
    (aSeq (aSet 7 (aFz (aCall0 (A_law_pick T) (aSlot 0 (aArg (aVar 6) aArgs)))))
    (aSeq (aIf (aTest (aOp oNotIn (aVar 3) (aLn 2 7 1)))
    (aAppLn 2 7 1 (aVar 3))
    aNext)
    (b_law_hop_2 T))))))
abbrev A_law_hop (T : Tx K mg base) : AFM := bodyM [4, 1, 5, 0, 0, 0] 2 (b_law_hop T)
theorem A_law_hop_of (T : Tx K mg base) (l1 : List D) (w2 : List V) (a2 : List AV) (d3 : D) (d4 : D) (d5 : D) {q : AV → List AV → Prop} {x : Exn → List AV → Prop} (h : b_law_hop T ⟨fun ρ => q (.fz .non) (mrg [.dr, .ol l1, .on w2 a2, .fz d3, .fz d4, .fz d5] (selM [true, true, true, false, false, false] ρ)), fun av ρ => q av (mrg [.dr, .ol l1, .on w2 a2, .fz d3, .fz d4, .fz d5] (selM [true, true, true, false, false, false] ρ)), fun _ => False, fun _ => False, fun e ρ => x e (mrg [.dr, .ol l1, .on w2 a2, .fz d3, .fz d4, .fz d5] (selM [true, true, true, false, false, false] ρ))⟩ [some (.dr), some (.ol l1), some (.on w2 a2), some (.fz d3), some (.fz d4), some (.fz d5), none, none]) : A_law_hop T [.dr, .ol l1, .on w2 a2, .fz d3, .fz d4, .fz d5] q x := ⟨rfl, h⟩
theorem ok_law_hop (T : Tx K mg base) : FnOk P w K mg base CX0 3 T.f_law_hop T.fd_law_hop ["_law_s", "_law_names", "_law_lines", "_law_one", "_law_two", "_law_barred"] (spM K T.tb (A_law_hop T)) := by
  refine T.F_law_hop.ok sc_law_hop (fun vs H Q E h => spM_len h) (fun cdv A outer s0 H vs Q E hr h => ?_)
  have hst : L2.start ["_law_s", "_law_names", "_law_lines", "_law_one", "_law_two", "_law_barred", "_law_fit", "_law_line"] vs = vs.map some ++ List.replicate 2 none := by
    unfold L2.start
    rw [spM_len h]
    rfl
  refine ⟨_, (pss_cons (ps_setLc (i := 6) (own := [("_law_line", 7)]) (by rfl) sc_law_hop.nd rfl rfl (sw_true rfl rfl rfl (by decide +kernel)) (pi_listK (K := K) rfl (pv 2)) (blkOk_by (own := [("_law_line", 7)]) (N := ["_law_s", "_law_names", "_law_lines", "_law_one", "_law_two", "_law_barred", "_law_fit", "_law_line"]) (sc := defScope s_law_hop) (by decide +kernel)) (fun _ _ _ _ _ => (pg_name (i := 7) sc_law_hop.nd rfl (Or.inl rfl))) (fun _ _ _ _ _ => (pts_one ((pw_and (pt_cmpR (op_notInK (K := K) rfl) (pe_ix (ix_listK (K := K) rfl) (pv 7) pe_int (fun _ _ => rfl)) (pv 5) (by with_unfolding_all rfl)) (pw_and1 ((pw_or (pt_cmpR (op_inK (K := K) rfl) (pv 3) (pe_ix (ix_listK (K := K) rfl) (pv 7) pe_int (fun _ _ => rfl)) (by with_unfolding_all rfl)) (pw_or1 (pt_cmpR op_lt (pe_callB (call_lenK (K := K) rfl) (by rfl) T.z_len bt_len (pa_cons (pe_ix (ix_listK (K := K) rfl) (pv 7) pe_int (fun _ _ => rfl)) pa_nil)) pe_int (nomark _))))).pt))).pt)) (fun _ _ _ _ _ => (pv 7)))
      (pss_cons (ps_setLc (i := 6) (own := [("_law_line", 7)]) (by rfl) sc_law_hop.nd rfl rfl (sw_true rfl rfl rfl (by decide +kernel)) (pi_listK (K := K) rfl (pv 6)) (blkOk_by (own := [("_law_line", 7)]) (N := ["_law_s", "_law_names", "_law_lines", "_law_one", "_law_two", "_law_barred", "_law_fit", "_law_line"]) (sc := defScope s_law_hop) (by decide +kernel)) (fun _ _ _ _ _ => (pg_name (i := 7) sc_law_hop.nd rfl (Or.inl rfl))) (fun _ _ _ _ _ => (pts_one ((pw_or (pt_cmpR (op_inK (K := K) rfl) (pv 4) (pe_ix (ix_listK (K := K) rfl) (pv 7) pe_int (fun _ _ => rfl)) (by with_unfolding_all rfl)) (pw_or1 (pt_cmpR op_lt (pe_callB (call_lenK (K := K) rfl) (by rfl) T.z_len bt_len (pa_cons (pe_ix (ix_listK (K := K) rfl) (pv 7) pe_int (fun _ _ => rfl)) pa_nil)) pe_int (nomark _))))).pt)) (fun _ _ _ _ _ => (pv 7)))
      (pss_cons (ps_if ((pw_and (pt_cmpR op_lt (pe_callB (call_lenK (K := K) rfl) (by rfl) T.z_len bt_len (pa_cons (pv 2) pa_nil)) pe_int (nomark _)) (pw_and1 ((pw_or (pt_cmpR op_eq (pe_callB (call_lenK (K := K) rfl) (by rfl) T.z_len bt_len (pa_cons (pv 6) pa_nil)) pe_int (nomark _)) (pw_or1 (pt_cmpR op_eq (pe_call (ok_law_draw T) (hr.mono (by decide)) (by rfl) T.g_law_draw T.F_law_draw.kp T.b_law_draw .nil pass0 (pa_cons (pv 0) (pa_cons pe_int pa_nil))) pe_int (nomark _))))).pt))).pt
      (pss_cons (ps_expr (pe_bm PySem.F.plainAttrs_list PySem.F.slot_list_append PySem.F.type_list_append mt_append (pv 2) (pa_cons (pe_lst (pa_cons (pe_call (ok_law_name T) (hr.mono (by decide)) (by rfl) T.g_law_name T.F_law_name.kp T.b_law_name .nil pass0 (pa_cons (pv 0) (pa_cons (pv 1) pa_nil))) (pa_cons (pe_lst (pa_cons (pv 3) pa_nil)) (pa_cons (pe_lst (pa_cons (pv 4) pa_nil)) (pa_cons (pe_call (ok_law_draw T) (hr.mono (by decide)) (by rfl) T.g_law_draw T.F_law_draw.kp T.b_law_draw .nil pass0 (pa_cons (pv 0) (pa_cons pe_int pa_nil))) pa_nil))))) pa_nil)))
      (pss_one (ps_ret (pe_ix (ix_listK (K := K) rfl) (pe_ix (ix_listK (K := K) rfl) (pv 2) (pe_un un_neg pe_int) (fun _ _ => rfl)) pe_int (fun _ _ => rfl)))))
      pss_nil)
      (pss_cons (ps_set (i := 7) sc_law_hop.nd rfl (Or.inl rfl) (pe_call (ok_law_pick T) (hr.mono (by decide)) (by rfl) T.g_law_pick T.F_law_pick.kp T.b_law_pick .nil pass0 (pa_cons (pv 0) (pa_cons (pv 6) pa_nil))))
      (pss_cons (ps_if (pt_cmpR (op_notInK (K := K) rfl) (pv 3) (pe_ix (ix_listK (K := K) rfl) (pv 7) pe_int (fun _ _ => rfl)) (by with_unfolding_all rfl))
      (pss_one (ps_expr (pe_bm PySem.F.plainAttrs_list PySem.F.slot_list_append PySem.F.type_list_append mt_append (pe_ix (ix_listK (K := K) rfl) (pv 7) pe_int (fun _ _ => rfl)) (pa_cons (pv 3) pa_nil))))
      pss_nil)
      (pss_cons (ps_if (pt_cmpR (op_notInK (K := K) rfl) (pv 4) (pe_ix (ix_listK (K := K) rfl) (pv 7) pe_int (fun _ _ => rfl)) (by with_unfolding_all rfl))
      (pss_one (ps_expr (pe_bm PySem.F.plainAttrs_list PySem.F.slot_list_append PySem.F.type_list_append mt_append (pe_ix (ix_listK (K := K) rfl) (pv 7) pe_int (fun _ _ => rfl)) (pa_cons (pv 4) pa_nil))))
      pss_nil)
      (pss_one (ps_ret (pe_ix (ix_listK (K := K) rfl) (pv 7) pe_int (fun _ _ => rfl)))))))))), run_bodyM h hst fun pk pv O M U0 H0 X => ?_⟩
  unfold b_law_hop b_law_hop_2 b_law_hop_1
  exact (sim_seq (sim_set rfl (sim_fz (sim_lc (sim_itLW sim_varW) (sim_gN rfl) (sim_and (sim_test (SimE.w (sim_op op_notInS' sim_ln (SimE.w sim_var)))) (sim_or (sim_test (SimE.w (sim_op op_inS' (SimE.w sim_var) sim_ln))) (sim_test (SimE.w (sim_op (op_i0 (fun _ _ _ => rfl)) (SimE.w (sim_cb bu_len (sim_consW sim_ln sim_nilW))) (SimE.w sim_int)))))) sim_var rfl rfl)))
    (sim_seq (sim_set rfl (sim_fz (sim_lc (sim_itLW (SimE.w sim_var)) (sim_gN rfl) (sim_or (sim_test (SimE.w (sim_op op_inS' (SimE.w sim_var) sim_ln))) (sim_test (SimE.w (sim_op (op_i0 (fun _ _ _ => rfl)) (SimE.w (sim_cb bu_len (sim_consW sim_ln sim_nilW))) (SimE.w sim_int))))) sim_var rfl rfl)))
    (sim_seq (sim_if (sim_and (sim_test (SimE.w (sim_op (op_i0 (fun _ _ _ => rfl)) (SimE.w (sim_cb bu_len (sim_consW sim_varW sim_nilW))) (SimE.w sim_int)))) (sim_or (sim_test (SimE.w (sim_op op_eqS (SimE.w (sim_cb bu_len (sim_consW (SimE.w sim_var) sim_nilW))) (SimE.w sim_int)))) (sim_test (SimE.w (sim_op op_eqS (SimE.w (sim_fz (sim_call (sim_slot (sim_arg sim_int sim_args))))) (SimE.w sim_int))))))
    (sim_seq (simM_appN (simM_lstO (simM_consO (simM_up (simM_fz (simM_call (sim_slot (sim_slotO sim_args))))) (simM_consO (simM_O (sim_lst (sim_cons sim_var sim_nil))) (simM_consO (simM_O (sim_lst (sim_cons sim_var sim_nil))) (simM_consO (simM_up (simM_E (sim_fz (sim_call (sim_slot (sim_arg sim_int sim_args)))))) simM_nilO))))))
    (sim_ret (sim_onIx (sim_un (un_i fun _ _ => rfl) (SimE.w sim_int)))))
    sim_next)
    (sim_seq (sim_set rfl (sim_fz (sim_call (sim_slot (sim_arg sim_var sim_args)))))
    (sim_seq (sim_if (sim_test (SimE.w (sim_op op_notInS' (SimE.w sim_var) sim_ln)))
    (sim_appLn sim_var)
    sim_next)
    (sim_seq (sim_if (sim_test (SimE.w (sim_op op_notInS' (SimE.w sim_var) sim_ln)))
    (sim_appLn sim_var)
    sim_next)
    (sim_ret sim_lnE)))))))
def b_law_way (T : Tx K mg base) : AS := (aSeq (aSet 7 (aFz (aLc (aItL (aVar 3)) (gN 10) (aTest (aOp oNotIn (aVar 10) (aVar 6))) (aVar 10) [10])))
    (aSeq (aSetO 8 (aLst (aCons (aVar 4) aNil)))
    (aSeq (aFor (aRng1 (aCons (aCB oMin2 (aCons (aFz (aCall0 (A_law_draw T) (aSlot 0 (aArg (aC (.int 3)) aArgs)))) (aCons (aCB oLen (aCons (aVar 7) aNil)) aNil))) aNil)) (gN 9)
    (aSeq (aSet 10 (aFz (aCall0 (A_law_pick T) (aSlot 0 (aArg (aVar 7) aArgs)))))
    (aSeq (aSet 7 (aFz (aLc (aItL (aVar 7)) (gN 11) (aTest (aOp oNe (aVar 11) (aVar 10))) (aVar 11) [11])))
    (aSeq (mApp 8 (mFz (mCall0 (A_law_hop T) (aSlot 0 (aSlotO 1 (aSlotO 2 (aArg (aOp oIxL (aVarW 8) (aUn oNeg (aC (.int 1)))) (aArg (aVar 10) (aArg (aFz (aOpO oCat (aVar 6) (aVarW 8))) aArgs)))))))))
    (aApp 8 (aVar 10))))))
    (aSeq (mApp 8 (mFz (mCall0 (A_law_hop T) (aSlot 0 (aSlotO 1 (aSlotO 2 (aArg (aOp oIxL (aVarW 8) (aUn oNeg (aC (.int 1)))) (aArg (aVar 5) (aArg (aFz (aOpO oCat (aVar 6) (aVarW 8))) aArgs)))))))))
    (aSeq (aApp 8 (aVar 5))
    (aRet (aCB oTuple (aCons (aVarW 8) aNil))))))))
abbrev A_law_way (T : Tx K mg base) : AFM := bodyM [4, 1, 5, 0, 0, 0, 0] 5 (b_law_way T)
theorem A_law_way_of (T : Tx K mg base) (l1 : List D) (w2 : List V) (a2 : List AV) (d3 : D) (d4 : D) (d5 : D) (d6 : D) {q : AV → List AV → Prop} {x : Exn → List AV → Prop} (h : b_law_way T ⟨fun ρ => q (.fz .non) (mrg [.dr, .ol l1, .on w2 a2, .fz d3, .fz d4, .fz d5, .fz d6] (selM [true, true, true, false, false, false, false] ρ)), fun av ρ => q av (mrg [.dr, .ol l1, .on w2 a2, .fz d3, .fz d4, .fz d5, .fz d6] (selM [true, true, true, false, false, false, false] ρ)), fun _ => False, fun _ => False, fun e ρ => x e (mrg [.dr, .ol l1, .on w2 a2, .fz d3, .fz d4, .fz d5, .fz d6] (selM [true, true, true, false, false, false, false] ρ))⟩ [some (.dr), some (.ol l1), some (.on w2 a2), some (.fz d3), some (.fz d4), some (.fz d5), some (.fz d6), none, none, none, none, none]) : A_law_way T [.dr, .ol l1, .on w2 a2, .fz d3, .fz d4, .fz d5, .fz d6] q x := ⟨rfl, h⟩
theorem ok_law_way (T : Tx K mg base) : FnOk P w K mg base CX0 4 T.f_law_way T.fd_law_way ["_law_s", "_law_names", "_law_lines", "_law_gates", "_law_first", "_law_the_last", "_law_barred"] (spM K T.tb (A_law_way T)) := by
  refine T.F_law_way.ok sc_law_way (fun vs H Q E h => spM_len h) (fun cdv A outer s0 H vs Q E hr h => ?_)
  have hst : L2.start ["_law_s", "_law_names", "_law_lines", "_law_gates", "_law_first", "_law_the_last", "_law_barred", "_law_free", "_law_way_here", "_law_k", "_law_gate", "_law_other"] vs = vs.map some ++ List.replicate 5 none := by
    unfold L2.start
    rw [spM_len h]
    rfl
  refine ⟨_, (pss_cons (ps_setLc (i := 7) (own := [("_law_gate", 10)]) (by rfl) sc_law_way.nd rfl rfl (sw_true rfl rfl rfl (by decide +kernel)) (pi_listK (K := K) rfl (pv 3)) (blkOk_by (own := [("_law_gate", 10)]) (N := ["_law_s", "_law_names", "_law_lines", "_law_gates", "_law_first", "_law_the_last", "_law_barred", "_law_free", "_law_way_here", "_law_k", "_law_gate", "_law_other"]) (sc := defScope s_law_way) (by decide +kernel)) (fun _ _ _ _ _ => (pg_name (i := 10) sc_law_way.nd rfl (Or.inl rfl))) (fun _ _ _ _ _ => (pts_one (pt_cmpR (op_notInK (K := K) rfl) (pv 10) (pv 6) (by with_unfolding_all rfl)))) (fun _ _ _ _ _ => (pv 10)))
      (pss_cons (ps_set (i := 8) sc_law_way.nd rfl (Or.inl rfl) (pe_lst (pa_cons (pv 4) pa_nil)))
      (pss_cons (ps_for PassesOwn.never rfl (pi_range1 (by rfl) T.z_range (pa_cons (pe_callB (call_min2 (by rfl)) (by rfl) T.z_min bt_min (pa_cons (pe_call (ok_law_draw T) (hr.mono (by decide)) (by rfl) T.g_law_draw T.F_law_draw.kp T.b_law_draw .nil pass0 (pa_cons (pv 0) (pa_cons pe_int pa_nil))) (pa_cons (pe_callB (call_lenK (K := K) rfl) (by rfl) T.z_len bt_len (pa_cons (pv 7) pa_nil)) pa_nil))) pa_nil)) (pg_name (i := 9) sc_law_way.nd rfl (Or.inl rfl))
      (pss_cons (ps_set (i := 10) sc_law_way.nd rfl (Or.inr rfl) (pe_call (ok_law_pick T) (hr.mono (by decide)) (by rfl) T.g_law_pick T.F_law_pick.kp T.b_law_pick .nil pass0 (pa_cons (pv 0) (pa_cons (pv 7) pa_nil))))
      (pss_cons (ps_setLc (i := 7) (own := [("_law_other", 11)]) (by rfl) sc_law_way.nd rfl rfl (sw_true rfl rfl rfl (by decide +kernel)) (pi_listK (K := K) rfl (pv 7)) (blkOk_by (own := [("_law_other", 11)]) (N := ["_law_s", "_law_names", "_law_lines", "_law_gates", "_law_first", "_law_the_last", "_law_barred", "_law_free", "_law_way_here", "_law_k", "_law_gate", "_law_other"]) (sc := defScope s_law_way) (by decide +kernel)) (fun _ _ _ _ _ => (pg_name (i := 11) sc_law_way.nd rfl (Or.inl rfl))) (fun _ _ _ _ _ => (pts_one (pt_cmpR op_ne (pv 11) (pv 10) (nomark _)))) (fun _ _ _ _ _ => (pv 11)))
      (pss_cons (ps_expr (pe_bm PySem.F.plainAttrs_list PySem.F.slot_list_append PySem.F.type_list_append mt_append (pv 8) (pa_cons (pe_call (ok_law_hop T) (hr.mono (by decide)) (by rfl) T.g_law_hop T.F_law_hop.kp T.b_law_hop .nil pass0 (pa_cons (pv 0) (pa_cons (pv 1) (pa_cons (pv 2) (pa_cons (pe_ix (ix_listK (K := K) rfl) (pv 8) (pe_un un_neg pe_int) (fun _ _ => rfl)) (pa_cons (pv 10) (pa_cons (pe_op op_cat (pv 6) (pv 8)) pa_nil))))))) pa_nil)))
      (pss_one (ps_expr (pe_bm PySem.F.plainAttrs_list PySem.F.slot_list_append PySem.F.type_list_append mt_append (pv 8) (pa_cons (pv 10) pa_nil))))))))
      (pss_cons (ps_expr (pe_bm PySem.F.plainAttrs_list PySem.F.slot_list_append PySem.F.type_list_append mt_append (pv 8) (pa_cons (pe_call (ok_law_hop T) (hr.mono (by decide)) (by rfl) T.g_law_hop T.F_law_hop.kp T.b_law_hop .nil pass0 (pa_cons (pv 0) (pa_cons (pv 1) (pa_cons (pv 2) (pa_cons (pe_ix (ix_listK (K := K) rfl) (pv 8) (pe_un un_neg pe_int) (fun _ _ => rfl)) (pa_cons (pv 5) (pa_cons (pe_op op_cat (pv 6) (pv 8)) pa_nil))))))) pa_nil)))
      (pss_cons (ps_expr (pe_bm PySem.F.plainAttrs_list PySem.F.slot_list_append PySem.F.type_list_append mt_append (pv 8) (pa_cons (pv 5) pa_nil)))
      (pss_one (ps_ret (pe_callTy (call_tupleK (K := K) rfl) (by rfl) T.z_tuple bt_tuple (pa_cons (pv 8) pa_nil))))))))), run_bodyM h hst fun pk pv O M U0 H0 X => ?_⟩
  unfold b_law_way
  exact (sim_seq (sim_set rfl (sim_fz (sim_lc (sim_itLW (SimE.w sim_var)) (sim_gN rfl) (sim_test (SimE.w (sim_op op_notInS' (SimE.w sim_var) (SimE.w sim_var)))) sim_var rfl rfl)))
    (sim_seq (sim_setO rfl (sim_lst (sim_cons sim_var sim_nil)))
    (sim_seq (sim_for (sim_rng1 (sim_consW (SimE.w (sim_cb bu_min2 (sim_consW (SimE.w (sim_fz (sim_call (sim_slot (sim_arg sim_int sim_args))))) (sim_consW (SimE.w (sim_cb bu_len (sim_consW (SimE.w sim_var) sim_nilW))) sim_nilW)))) sim_nilW)) (sim_gN rfl)
    (sim_seq (sim_set rfl (sim_fz (sim_call (sim_slot (sim_arg sim_var sim_args)))))
    (sim_seq (sim_set rfl (sim_fz (sim_lc (sim_itLW (SimE.w sim_var)) (sim_gN rfl) (sim_test (SimE.w (sim_op op_neS (SimE.w sim_var) (SimE.w sim_var)))) sim_var rfl rfl)))
    (sim_seq (simM_app (simM_fz (simM_call (sim_slot (sim_slotO (sim_slotO (sim_arg (sim_op op_ixL sim_varW (SimE.w (sim_un (un_i fun _ _ => rfl) (SimE.w sim_int)))) (sim_arg sim_var (sim_arg (sim_fz (sim_opO op_catD (SimE.w sim_var) sim_varW)) sim_args)))))))))
    (sim_app sim_var)))))
    (sim_seq (simM_app (simM_fz (simM_call (sim_slot (sim_slotO (sim_slotO (sim_arg (sim_op op_ixL sim_varW (SimE.w (sim_un (un_i fun _ _ => rfl) (SimE.w sim_int)))) (sim_arg sim_var (sim_arg (sim_fz (sim_opO op_catD (SimE.w sim_var) sim_varW)) sim_args)))))))))
    (sim_seq (sim_app sim_var)
    (sim_ret (sim_cb bu_tuple (sim_consW sim_varW sim_nilW))))))))
def b_law_need (T : Tx K mg base) : AS := (aSeq (aSet 3 (aC (.int 0)))
    (aSeq (aFor (aItT (aOp oIxT (aVar 0) (aC (.int 1)))) (gN 4)
    (aSeq (aSet 5 (aC (.int 0)))
    (aSeq (aFor (aItL (aVar 1)) (gN 6)
    (aIf (aTest (aOp oIn (aOp oIxL (aVar 6) (aC (.int 0))) (aVar 4)))
    (aSet 5 (aOp oAdd (aOp oAdd (aOp oAdd (aVar 5) (aOp oIxT (aVar 0) (aC (.int 3)))) (aOp oIxL (aVar 6) (aC (.int 3)))) (aVar 2)))
    aNext))
    (aSet 3 (aCB oMax2 (aCons (aVar 3) (aCons (aVar 5) aNil)))))))
    (aRet (aVar 3))))
abbrev A_law_need (T : Tx K mg base) : AF := bodyA [false, false, false] 4 (b_law_need T)
theorem A_law_need_of (T : Tx K mg base) {d0 d1 d2 : D} {q : AV → Prop} {x : Exn → Prop} (h : b_law_need T ⟨fun _ => q (.fz .non), fun av _ => q av, fun _ => False, fun _ => False, fun e _ => x e⟩ [some (.fz d0), some (.fz d1), some (.fz d2), none, none, none, none]) : A_law_need T [.fz d0, .fz d1, .fz d2] q x := ⟨rfl, h⟩
theorem ok_law_need (T : Tx K mg base) : FnOk P w K mg base CX0 1 T.f_law_need T.fd_law_need ["_law_row_here", "_law_lines", "_law_the_slack"] (spD K T.tb (A_law_need T)) := by
  refine T.F_law_need.ok sc_law_need (fun vs H Q E h => spD_len h) (fun cdv A outer s0 H vs Q E hr h => ?_)
  have hst : L2.start ["_law_row_here", "_law_lines", "_law_the_slack", "_law_the_most", "_law_way_here", "_law_sums", "_law_line"] vs = vs.map some ++ List.replicate 4 none := by
    unfold L2.start
    rw [spD_len h]
    rfl
  refine ⟨_, (pss_cons (ps_set (i := 3) sc_law_need.nd rfl (Or.inl rfl) pe_int)
      (pss_cons (ps_for PassesOwn.never rfl (pi_tupK (K := K) rfl (pe_ix (ix_tupK (K := K) rfl) (pv 0) pe_int (fun _ _ => rfl))) (pg_name (i := 4) sc_law_need.nd rfl (Or.inl rfl))
      (pss_cons (ps_set (i := 5) sc_law_need.nd rfl (Or.inl rfl) pe_int)
      (pss_cons (ps_for PassesOwn.never rfl (pi_listK (K := K) rfl (pv 1)) (pg_name (i := 6) sc_law_need.nd rfl (Or.inl rfl))
      (pss_one (ps_if (pt_cmpR (op_inK (K := K) rfl) (pe_ix (ix_listK (K := K) rfl) (pv 6) pe_int (fun _ _ => rfl)) (pv 4) (by with_unfolding_all rfl))
      (pss_one (ps_set (i := 5) sc_law_need.nd rfl (Or.inl rfl) (pe_op op_add (pe_op op_add (pe_op op_add (pv 5) (pe_ix (ix_tupK (K := K) rfl) (pv 0) pe_int (fun _ _ => rfl))) (pe_ix (ix_listK (K := K) rfl) (pv 6) pe_int (fun _ _ => rfl))) (pv 2))))
      pss_nil)))
      (pss_one (ps_set (i := 3) sc_law_need.nd rfl (Or.inl rfl) (pe_callB (call_max2 (by rfl)) (by rfl) T.z_max bt_max (pa_cons (pv 3) (pa_cons (pv 5) pa_nil))))))))
      (pss_one (ps_ret (pv 3))))), run_body h hst fun pk pv O M U0 H0 X => ?_⟩
  unfold b_law_need
  exact (sim_seq (sim_set rfl sim_int)
    (sim_seq (sim_for (sim_itT (sim_op op_ixT (SimE.w sim_var) (SimE.w sim_int))) (sim_gN rfl)
    (sim_seq (sim_set rfl sim_int)
    (sim_seq (sim_for (sim_itL sim_var) (sim_gN rfl)
    (sim_if (sim_test (SimE.w (sim_op op_inS' (SimE.w (sim_op op_ixL (SimE.w sim_var) (SimE.w sim_int))) (SimE.w sim_var))))
    (sim_set rfl (sim_op (op_i0 (fun _ _ _ => rfl)) (SimE.w (sim_op (op_i0 (fun _ _ _ => rfl)) (SimE.w (sim_op (op_i0 (fun _ _ _ => rfl)) (SimE.w sim_var) (SimE.w (sim_op op_ixT (SimE.w sim_var) (SimE.w sim_int))))) (SimE.w (sim_op op_ixL (SimE.w sim_var) (SimE.w sim_int))))) (SimE.w sim_var)))
    sim_next))
    (sim_set rfl (sim_cb bu_max2 (sim_consW (SimE.w sim_var) (sim_consW (SimE.w sim_var) sim_nilW)))))))
    (sim_ret sim_var)))
def b_law_row_1 (T : Tx K mg base) : AS := (aSeq (aSet 10 (aOp oIxL (aFz (aLst (aCons (aC (.int 12)) (aCons (aC (.int 8)) (aCons (aC (.int 20)) (aCons (aC (.int 24)) (aCons (aC (.int 10)) (aCons (aC (.int 30)) (aCons (aC (.int 15)) (aCons (aC (.int 40)) (aCons (aC (.int 60)) (aCons (aC (.int 12)) (aCons (aC (.int 120)) aNil))))))))))))) (aFz (aCall0 (A_law_draw T) (aSlot 0 (aArg (aC (.int 11)) aArgs))))))
    (aSeq (aSet 11 (aOp oAdd (aC (.int 1)) (aFz (aCall0 (A_law_draw T) (aSlot 0 (aArg (aCB oMin2 (aCons (aC (.int 4)) (aCons (aOp oSub (aVar 10) (aVar 5)) aNil))) aArgs))))))
    (aSeq (mSet 12 (mTup (mCons (mFz (mCall0 (A_law_name T) (aSlot 0 (aSlotO 1 aArgs)))) (mCons (mE (aCB oTuple (aCons (aVarW 9) aNil))) (mCons (mE (aVar 10)) (mCons (mE (aVar 11)) (mCons (mE (aFz (aCall0 (A_law_draw T) (aSlot 0 (aArg (aVar 10) aArgs))))) (mCons (mE (aC (.int 0))) mNil))))))))
    (aSeq (aSet 13 (aOp oIxL (aFz (aLst (aCons (aC (.int 0)) (aCons (aC (.int 1)) (aCons (aC (.int 2)) (aCons (aOp oDiv (aVar 10) (aC (.int 2))) (aCons (aC (.int 3)) (aCons (aOp oSub (aVar 10) (aC (.int 1))) (aCons (aC (.int 6)) aNil))))))))) (aFz (aCall0 (A_law_draw T) (aSlot 0 (aArg (aC (.int 7)) aArgs))))))
    (aRet (aOp oCatT (aSl oSlT (aVar 12) aNoPart (aPart (aC (.int 5)))) (aTup (aCons (aOp oAdd (aCallF (A_law_need T) (aArg (aVar 12) (aSlotO 2 (aArg (aVar 5) aArgs)))) (aVar 13)) aNil))))))))
def b_law_row (T : Tx K mg base) : AS := (aSeq (aSet 6 (aFz (aCall0 (A_law_draw T) (aSlot 0 (aArg (aCB oLen (aCons (aVar 3) aNil)) aArgs)))))
    (aSeq (aSet 7 (aOp oIxL (aVar 3) (aVar 6)))
    (aSeq (aSet 8 (aOp oIxL (aVar 3) (aOp oMod (aOp oAdd (aOp oAdd (aVar 6) (aC (.int 1))) (aFz (aCall0 (A_law_draw T) (aSlot 0 (aArg (aOp oSub (aCB oLen (aCons (aVar 3) aNil)) (aC (.int 1))) aArgs))))) (aCB oLen (aCons (aVar 3) aNil)))))
    (aSeq (mSetO 9 (mLst (mCons (mFz (mCall0 (A_law_way T) (aSlot 0 (aSlotO 1 (aSlotO 2 (aArg (aVar 4) (aArg (aVar 7) (aArg (aVar 8) (aArg (aFz (aLst aNil)) aArgs))))))))) mNil)))
    (aSeq (aIf (aTest (aOp oEq (aFz (aCall0 (A_law_draw T) (aSlot 0 (aArg (aC (.int 4)) aArgs)))) (aC (.int 1))))
    (mApp 9 (mFz (mCall0 (A_law_way T) (aSlot 0 (aSlotO 1 (aSlotO 2 (aArg (aVar 4) (aArg (aVar 7) (aArg (aVar 8) (aArg (aFz (aCBO oList (aCons (aSl oSlT (aOp oIxL (aVarW 9) (aC (.int 0))) (aPart (aC (.int 1))) (aPart (aUn oNeg (aC (.int 1))))) aNil))) aArgs))))))))))
    aNext)
    (b_law_row_1 T))))))
abbrev A_law_row (T : Tx K mg base) : AFM := bodyM [4, 1, 5, 0, 0, 0] 8 (b_law_row T)
theorem A_law_row_of (T : Tx K mg base) (l1 : List D) (w2 : List V) (a2 : List AV) (d3 : D) (d4 : D) (d5 : D) {q : AV → List AV → Prop} {x : Exn → List AV → Prop} (h : b_law_row T ⟨fun ρ => q (.fz .non) (mrg [.dr, .ol l1, .on w2 a2, .fz d3, .fz d4, .fz d5] (selM [true, true, true, false, false, false] ρ)), fun av ρ => q av (mrg [.dr, .ol l1, .on w2 a2, .fz d3, .fz d4, .fz d5] (selM [true, true, true, false, false, false] ρ)), fun _ => False, fun _ => False, fun e ρ => x e (mrg [.dr, .ol l1, .on w2 a2, .fz d3, .fz d4, .fz d5] (selM [true, true, true, false, false, false] ρ))⟩ [some (.dr), some (.ol l1), some (.on w2 a2), some (.fz d3), some (.fz d4), some (.fz d5), none, none, none, none, none, none, none, none]) : A_law_row T [.dr, .ol l1, .on w2 a2, .fz d3, .fz d4, .fz d5] q x := ⟨rfl, h⟩
theorem ok_law_row (T : Tx K mg base) : FnOk P w K mg base CX0 5 T.f_law_row T.fd_law_row ["_law_s", "_law_names", "_law_lines", "_law_houses", "_law_gates", "_law_the_slack"] (spM K T.tb (A_law_row T)) := by
  refine T.F_law_row.ok sc_law_row (fun vs H Q E h => spM_len h) (fun cdv A outer s0 H vs Q E hr h => ?_)
  have hst : L2.start ["_law_s", "_law_names", "_law_lines", "_law_houses", "_law_gates", "_law_the_slack", "_law_at", "_law_first", "_law_the_last", "_law_ways", "_law_the_every", "_law_the_long", "_law_row_here", "_law_spare"] vs = vs.map some ++ List.replicate 8 none := by
    unfold L2.start
    rw [spM_len h]
    rfl
  refine ⟨_, (pss_cons (ps_set (i := 6) sc_law_row.nd rfl (Or.inl rfl) (pe_call (ok_law_draw T) (hr.mono (by decide)) (by rfl) T.g_law_draw T.F_law_draw.kp T.b_law_draw .nil pass0 (pa_cons (pv 0) (pa_cons (pe_callB (call_lenK (K := K) rfl) (by rfl) T.z_len bt_len (pa_cons (pv 3) pa_nil)) pa_nil))))
      (pss_cons (ps_set (i := 7) sc_law_row.nd rfl (Or.inl rfl) (pe_ix (ix_listK (K := K) rfl) (pv 3) (pv 6) (fun _ _ => rfl)))
      (pss_cons (ps_set (i := 8) sc_law_row.nd rfl (Or.inl rfl) (pe_ix (ix_listK (K := K) rfl) (pv 3) (pe_op op_mod (pe_op op_add (pe_op op_add (pv 6) pe_int) (pe_call (ok_law_draw T) (hr.mono (by decide)) (by rfl) T.g_law_draw T.F_law_draw.kp T.b_law_draw .nil pass0 (pa_cons (pv 0) (pa_cons (pe_op op_sub (pe_callB (call_lenK (K := K) rfl) (by rfl) T.z_len bt_len (pa_cons (pv 3) pa_nil)) pe_int) pa_nil)))) (pe_callB (call_lenK (K := K) rfl) (by rfl) T.z_len bt_len (pa_cons (pv 3) pa_nil))) (fun _ _ => rfl)))
      (pss_cons (ps_set (i := 9) sc_law_row.nd rfl (Or.inl rfl) (pe_lst (pa_cons (pe_call (ok_law_way T) (hr.mono (by decide)) (by rfl) T.g_law_way T.F_law_way.kp T.b_law_way .nil pass0 (pa_cons (pv 0) (pa_cons (pv 1) (pa_cons (pv 2) (pa_cons (pv 4) (pa_cons (pv 7) (pa_cons (pv 8) (pa_cons (pe_lst pa_nil) pa_nil)))))))) pa_nil)))
      (pss_cons (ps_if (pt_cmpR op_eq (pe_call (ok_law_draw T) (hr.mono (by decide)) (by rfl) T.g_law_draw T.F_law_draw.kp T.b_law_draw .nil pass0 (pa_cons (pv 0) (pa_cons pe_int pa_nil))) pe_int (nomark _))
      (pss_one (ps_expr (pe_bm PySem.F.plainAttrs_list PySem.F.slot_list_append PySem.F.type_list_append mt_append (pv 9) (pa_cons (pe_call (ok_law_way T) (hr.mono (by decide)) (by rfl) T.g_law_way T.F_law_way.kp T.b_law_way .nil pass0 (pa_cons (pv 0) (pa_cons (pv 1) (pa_cons (pv 2) (pa_cons (pv 4) (pa_cons (pv 7) (pa_cons (pv 8) (pa_cons (pe_callTy (call_listK (K := K) rfl) (by rfl) T.z_list bt_list (pa_cons (pe_slice (sl_tupAK (K := K) rfl) (pe_ix (ix_listK (K := K) rfl) (pv 9) pe_int (fun _ _ => rfl)) (po_some pe_int) (po_some (pe_un un_neg pe_int))) pa_nil)) pa_nil)))))))) pa_nil))))
      pss_nil)
      (pss_cons (ps_set (i := 10) sc_law_row.nd rfl (Or.inl rfl) (pe_ix (ix_listK (K := K) rfl) (pe_lst (pa_cons pe_int (pa_cons pe_int (pa_cons pe_int (pa_cons pe_int (pa_cons pe_int (pa_cons pe_int (pa_cons pe_int (pa_cons pe_int (pa_cons pe_int (pa_cons pe_int (pa_cons pe_int pa_nil)))))))))))) (pe_call (ok_law_draw T) (hr.mono (by decide)) (by rfl) T.g_law_draw T.F_law_draw.kp T.b_law_draw .nil pass0 (pa_cons (pv 0) (pa_cons pe_int pa_nil))) (fun _ _ => rfl)))
      (pss_cons (ps_set (i := 11) sc_law_row.nd rfl (Or.inl rfl) (pe_op op_add pe_int (pe_call (ok_law_draw T) (hr.mono (by decide)) (by rfl) T.g_law_draw T.F_law_draw.kp T.b_law_draw .nil pass0 (pa_cons (pv 0) (pa_cons (pe_callB (call_min2 (by rfl)) (by rfl) T.z_min bt_min (pa_cons pe_int (pa_cons (pe_op op_sub (pv 10) (pv 5)) pa_nil))) pa_nil)))))
      (pss_cons (ps_set (i := 12) sc_law_row.nd rfl (Or.inl rfl) (pe_tup (pa_cons (pe_call (ok_law_name T) (hr.mono (by decide)) (by rfl) T.g_law_name T.F_law_name.kp T.b_law_name .nil pass0 (pa_cons (pv 0) (pa_cons (pv 1) pa_nil))) (pa_cons (pe_callTy (call_tupleK (K := K) rfl) (by rfl) T.z_tuple bt_tuple (pa_cons (pv 9) pa_nil)) (pa_cons (pv 10) (pa_cons (pv 11) (pa_cons (pe_call (ok_law_draw T) (hr.mono (by decide)) (by rfl) T.g_law_draw T.F_law_draw.kp T.b_law_draw .nil pass0 (pa_cons (pv 0) (pa_cons (pv 10) pa_nil))) (pa_cons pe_int pa_nil))))))))
      (pss_cons (ps_set (i := 13) sc_law_row.nd rfl (Or.inl rfl) (pe_ix (ix_listK (K := K) rfl) (pe_lst (pa_cons pe_int (pa_cons pe_int (pa_cons pe_int (pa_cons (pe_op op_fdiv (pv 10) pe_int) (pa_cons pe_int (pa_cons (pe_op op_sub (pv 10) pe_int) (pa_cons pe_int pa_nil)))))))) (pe_call (ok_law_draw T) (hr.mono (by decide)) (by rfl) T.g_law_draw T.F_law_draw.kp T.b_law_draw .nil pass0 (pa_cons (pv 0) (pa_cons pe_int pa_nil))) (fun _ _ => rfl)))
      (pss_one (ps_ret (pe_op (op_catAK (K := K) rfl) (pe_slice (sl_tupAK (K := K) rfl) (pv 12) po_none (po_some pe_int)) (pe_tup (pa_cons (pe_op op_add (pe_call (ok_law_need T) (hr.mono (by decide)) (by rfl) T.g_law_need T.F_law_need.kp T.b_law_need .nil pass0 (pa_cons (pv 12) (pa_cons (pv 2) (pa_cons (pv 5) pa_nil)))) (pv 13)) pa_nil)))))))))))))), run_bodyM h hst fun pk pv O M U0 H0 X => ?_⟩
  unfold b_law_row b_law_row_1
  exact (sim_seq (sim_set rfl (sim_fz (sim_call (sim_slot (sim_arg (sim_cb bu_len (sim_consW (SimE.w sim_var) sim_nilW)) sim_args)))))
    (sim_seq (sim_set rfl (sim_op op_ixL (SimE.w sim_var) (SimE.w sim_var)))
    (sim_seq (sim_set rfl (sim_op op_ixL (SimE.w sim_var) (SimE.w (sim_op (op_ic (fun _ _ _ => rfl)) (SimE.w (sim_op (op_i0 (fun _ _ _ => rfl)) (SimE.w (sim_op (op_i0 (fun _ _ _ => rfl)) (SimE.w sim_var) (SimE.w sim_int))) (SimE.w (sim_fz (sim_call (sim_slot (sim_arg (sim_op (op_i0 (fun _ _ _ => rfl)) (SimE.w (sim_cb bu_len (sim_consW (SimE.w sim_var) sim_nilW))) (SimE.w sim_int)) sim_args))))))) (SimE.w (sim_cb bu_len (sim_consW (SimE.w sim_var) sim_nilW)))))))
    (sim_seq (simM_setO rfl (simM_lst (simM_cons (simM_fz (simM_call (sim_slot (sim_slotO (sim_slotO (sim_arg sim_var (sim_arg sim_var (sim_arg sim_var (sim_arg (sim_fz (sim_lst sim_nil)) sim_args))))))))) simM_nil)))
    (sim_seq (sim_if (sim_test (SimE.w (sim_op op_eqS (SimE.w (sim_fz (sim_call (sim_slot (sim_arg sim_int sim_args))))) (SimE.w sim_int))))
    (simM_app (simM_fz (simM_call (sim_slot (sim_slotO (sim_slotO (sim_arg sim_var (sim_arg sim_var (sim_arg sim_var (sim_arg (sim_fz (sim_cbO bu_list (sim_consW (SimE.w (sim_sl sl_tD (SimE.w (sim_op op_ixL sim_varW (SimE.w sim_int))) (sim_part (SimE.w sim_int)) (sim_part (SimE.w (sim_un (un_i fun _ _ => rfl) (SimE.w sim_int)))))) sim_nilW))) sim_args))))))))))
    sim_next)
    (sim_seq (sim_set rfl (sim_op op_ixL (SimE.w (sim_fz (sim_lst (sim_cons sim_int (sim_cons sim_int (sim_cons sim_int (sim_cons sim_int (sim_cons sim_int (sim_cons sim_int (sim_cons sim_int (sim_cons sim_int (sim_cons sim_int (sim_cons sim_int (sim_cons sim_int sim_nil)))))))))))))) (SimE.w (sim_fz (sim_call (sim_slot (sim_arg sim_int sim_args)))))))
    (sim_seq (sim_set rfl (sim_op (op_i0 (fun _ _ _ => rfl)) (SimE.w sim_int) (SimE.w (sim_fz (sim_call (sim_slot (sim_arg (sim_cb bu_min2 (sim_consW (SimE.w sim_int) (sim_consW (SimE.w (sim_op (op_i0 (fun _ _ _ => rfl)) (SimE.w sim_var) (SimE.w sim_var))) sim_nilW))) sim_args)))))))
    (sim_seq (simM_set rfl (simM_tup (simM_cons (simM_fz (simM_call (sim_slot (sim_slotO sim_args)))) (simM_cons (simM_E (sim_cb bu_tuple (sim_consW sim_varW sim_nilW))) (simM_cons (simM_E sim_var) (simM_cons (simM_E sim_var) (simM_cons (simM_E (sim_fz (sim_call (sim_slot (sim_arg sim_var sim_args))))) (simM_cons (simM_E sim_int) simM_nil))))))))
    (sim_seq (sim_set rfl (sim_op op_ixL (SimE.w (sim_fz (sim_lst (sim_cons sim_int (sim_cons sim_int (sim_cons sim_int (sim_cons (sim_op (op_ic (fun _ _ _ => rfl)) (SimE.w sim_var) (SimE.w sim_int)) (sim_cons sim_int (sim_cons (sim_op (op_i0 (fun _ _ _ => rfl)) (SimE.w sim_var) (SimE.w sim_int)) (sim_cons sim_int sim_nil)))))))))) (SimE.w (sim_fz (sim_call (sim_slot (sim_arg sim_int sim_args)))))))
    (sim_ret (sim_op op_catTD (SimE.w (sim_sl sl_tD (SimE.w sim_var) sim_noPart (sim_part (SimE.w sim_int)))) (SimE.w (sim_tup (sim_cons (sim_op (op_i0 (fun _ _ _ => rfl)) (SimE.w (sim_callF (sim_arg sim_var (sim_slotO (sim_arg sim_var sim_args))))) (SimE.w sim_var)) sim_nil))))))))))))))
def b_law_world (T : Tx K mg base) : AS := (aSeq (aSetO 2 (aLst aNil))
    (aSeq (mSet 3 (mFz (mLc (aRng1 (aCons (aOp oAdd (aC (.int 2)) (aFz (aCall0 (A_law_draw T) (aSlot 0 (aArg (aC (.int 3)) aArgs))))) aNil)) (gN 8) (mFz (mCall0 (A_law_name T) (aSlot 0 (aSlotO 2 aArgs)))) [8])))
    (aSeq (mSet 4 (mFz (mLc (aRng1 (aCons (aFz (aCall0 (A_law_draw T) (aSlot 0 (aArg (aC (.int 4)) aArgs)))) aNil)) (gN 8) (mFz (mCall0 (A_law_name T) (aSlot 0 (aSlotO 2 aArgs)))) [8])))
    (aSeq (aSet 5 (aOp oIxL (aFz (aLst (aCons (aC (.int 0)) (aCons (aC (.int 1)) (aCons (aC (.int 2)) (aCons (aC (.int 0)) (aCons (aC (.int 3)) (aCons (aC (.int 1)) (aCons (aC (.int 5)) (aCons (aC (.int 7)) aNil)))))))))) (aFz (aCall0 (A_law_draw T) (aSlot 0 (aArg (aC (.int 8)) aArgs))))))
    (aSeq (mSetO 6 (mLstO mNilO))
    (aSeq (mSet 7 (mFz (mLc (aRng1 (aCons (aOp oAdd (aC (.int 1)) (aFz (aCall0 (A_law_draw T) (aSlot 0 (aArg (aVar 1) aArgs))))) aNil)) (gN 8) (mFz (mCall0 (A_law_row T) (aSlot 0 (aSlotO 2 (aSlotO 6 (aArg (aVar 3) (aArg (aVar 4) (aArg (aVar 5) aArgs)))))))) [8])))
    (aSeal 6 (aSeal 2 (aRet (aTup (aCons (aVar 3) (aCons (aVar 4) (aCons (aVar 6) (aCons (aVar 7) (aCons (aVar 5) (aCons (aVar 2) aNil))))))))))))))))
abbrev A_law_world (T : Tx K mg base) : AF := bodyA [true, false] 7 (b_law_world T)
theorem A_law_world_of (T : Tx K mg base) {d1 : D} {q : AV → Prop} {x : Exn → Prop} (h : b_law_world T ⟨fun _ => q (.fz .non), fun av _ => q av, fun _ => False, fun _ => False, fun e _ => x e⟩ [some (.dr), some (.fz d1), none, none, none, none, none, none, none]) : A_law_world T [.dr, .fz d1] q x := ⟨rfl, h⟩
theorem ok_law_world (T : Tx K mg base) : FnOk P w K mg base CX0 6 T.f_law_world T.fd_law_world ["_law_s", "_law_the_most"] (spD K T.tb (A_law_world T)) := by
  refine T.F_law_world.ok sc_law_world (fun vs H Q E h => spD_len h) (fun cdv A outer s0 H vs Q E hr h => ?_)
  have hst : L2.start ["_law_s", "_law_the_most", "_law_names", "_law_houses", "_law_gates", "_law_the_slack", "_law_lines", "_law_rows", "_law_k"] vs = vs.map some ++ List.replicate 7 none := by
    unfold L2.start
    rw [spD_len h]
    rfl
  refine ⟨_, (pss_cons (ps_set (i := 2) sc_law_world.nd rfl (Or.inr rfl) (pe_lst pa_nil))
      (pss_cons (ps_set (i := 3) sc_law_world.nd rfl (Or.inr rfl) (pe_lc (own := [("_law_k", 8)]) (by rfl) sc_law_world.nd (pi_range1 (by rfl) T.z_range (pa_cons (pe_op op_add pe_int (pe_call (ok_law_draw T) (hr.mono (by decide)) (by rfl) T.g_law_draw T.F_law_draw.kp T.b_law_draw .nil pass0 (pa_cons (pv 0) (pa_cons pe_int pa_nil)))) pa_nil)) (blkOk_by (own := [("_law_k", 8)]) (N := ["_law_s", "_law_the_most", "_law_names", "_law_houses", "_law_gates", "_law_the_slack", "_law_lines", "_law_rows", "_law_k"]) (sc := defScope s_law_world) (by decide +kernel)) (fun _ _ _ _ _ => (pg_name (i := 8) sc_law_world.nd rfl (Or.inl rfl))) (fun _ _ _ _ _ => pts_nil) (fun _ _ _ _ _ => (pe_call (ok_law_name T) (hr.mono (by decide)) (by rfl) T.g_law_name T.F_law_name.kp T.b_law_name .nil pass0 (pa_cons (pv 0) (pa_cons (pv 2) pa_nil))))))
      (pss_cons (ps_set (i := 4) sc_law_world.nd rfl (Or.inr rfl) (pe_lc (own := [("_law_k", 8)]) (by rfl) sc_law_world.nd (pi_range1 (by rfl) T.z_range (pa_cons (pe_call (ok_law_draw T) (hr.mono (by decide)) (by rfl) T.g_law_draw T.F_law_draw.kp T.b_law_draw .nil pass0 (pa_cons (pv 0) (pa_cons pe_int pa_nil))) pa_nil)) (blkOk_by (own := [("_law_k", 8)]) (N := ["_law_s", "_law_the_most", "_law_names", "_law_houses", "_law_gates", "_law_the_slack", "_law_lines", "_law_rows", "_law_k"]) (sc := defScope s_law_world) (by decide +kernel)) (fun _ _ _ _ _ => (pg_name (i := 8) sc_law_world.nd rfl (Or.inl rfl))) (fun _ _ _ _ _ => pts_nil) (fun _ _ _ _ _ => (pe_call (ok_law_name T) (hr.mono (by decide)) (by rfl) T.g_law_name T.F_law_name.kp T.b_law_name .nil pass0 (pa_cons (pv 0) (pa_cons (pv 2) pa_nil))))))
      (pss_cons (ps_set (i := 5) sc_law_world.nd rfl (Or.inr rfl) (pe_ix (ix_listK (K := K) rfl) (pe_lst (pa_cons pe_int (pa_cons pe_int (pa_cons pe_int (pa_cons pe_int (pa_cons pe_int (pa_cons pe_int (pa_cons pe_int (pa_cons pe_int pa_nil))))))))) (pe_call (ok_law_draw T) (hr.mono (by decide)) (by rfl) T.g_law_draw T.F_law_draw.kp T.b_law_draw .nil pass0 (pa_cons (pv 0) (pa_cons pe_int pa_nil))) (fun _ _ => rfl)))
      (pss_cons (ps_set (i := 6) sc_law_world.nd rfl (Or.inr rfl) (pe_lst pa_nil))
      (pss_cons (ps_setLc (i := 7) (own := [("_law_k", 8)]) (by rfl) sc_law_world.nd rfl rfl (sw_true rfl rfl rfl (by decide +kernel)) (pi_range1 (by rfl) T.z_range (pa_cons (pe_op op_add pe_int (pe_call (ok_law_draw T) (hr.mono (by decide)) (by rfl) T.g_law_draw T.F_law_draw.kp T.b_law_draw .nil pass0 (pa_cons (pv 0) (pa_cons (pv 1) pa_nil)))) pa_nil)) (blkOk_by (own := [("_law_k", 8)]) (N := ["_law_s", "_law_the_most", "_law_names", "_law_houses", "_law_gates", "_law_the_slack", "_law_lines", "_law_rows", "_law_k"]) (sc := defScope s_law_world) (by decide +kernel)) (fun _ _ _ _ _ => (pg_name (i := 8) sc_law_world.nd rfl (Or.inl rfl))) (fun _ _ _ _ _ => pts_nil) (fun _ _ _ _ _ => (pe_call (ok_law_row T) (hr.mono (by decide)) (by rfl) T.g_law_row T.F_law_row.kp T.b_law_row .nil pass0 (pa_cons (pv 0) (pa_cons (pv 2) (pa_cons (pv 6) (pa_cons (pv 3) (pa_cons (pv 4) (pa_cons (pv 5) pa_nil)))))))))
      (pss_one (ps_ret (pe_tup (pa_cons (pv 3) (pa_cons (pv 4) (pa_cons (pv 6) (pa_cons (pv 7) (pa_cons (pv 5) (pa_cons (pv 2) pa_nil))))))))))))))), run_body h hst fun pk pv O M U0 H0 X => ?_⟩
  unfold b_law_world
  exact (sim_seq (sim_setO rfl (sim_lst sim_nil))
    (sim_seq (simM_set rfl (simM_fz (simM_lc (sim_rng1 (sim_consW (SimE.w (sim_op (op_i0 (fun _ _ _ => rfl)) (SimE.w sim_int) (SimE.w (sim_fz (sim_call (sim_slot (sim_arg sim_int sim_args))))))) sim_nilW)) (sim_gN rfl) (simM_fz (simM_call (sim_slot (sim_slotO sim_args)))) rfl rfl)))
    (sim_seq (simM_set rfl (simM_fz (simM_lc (sim_rng1 (sim_consW (SimE.w (sim_fz (sim_call (sim_slot (sim_arg sim_int sim_args))))) sim_nilW)) (sim_gN rfl) (simM_fz (simM_call (sim_slot (sim_slotO sim_args)))) rfl rfl)))
    (sim_seq (sim_set rfl (sim_op op_ixL (SimE.w (sim_fz (sim_lst (sim_cons sim_int (sim_cons sim_int (sim_cons sim_int (sim_cons sim_int (sim_cons sim_int (sim_cons sim_int (sim_cons sim_int (sim_cons sim_int sim_nil))))))))))) (SimE.w (sim_fz (sim_call (sim_slot (sim_arg sim_int sim_args)))))))
    (sim_seq (simM_setO rfl (simM_lstO simM_nilO))
    (sim_seq (simM_set rfl (simM_fz (simM_lc (sim_rng1 (sim_consW (SimE.w (sim_op (op_i0 (fun _ _ _ => rfl)) (SimE.w sim_int) (SimE.w (sim_fz (sim_call (sim_slot (sim_arg sim_var sim_args))))))) sim_nilW)) (sim_gN rfl) (simM_fz (simM_call (sim_slot (sim_slotO (sim_slotO (sim_arg sim_var (sim_arg sim_var (sim_arg sim_var sim_args)))))))) rfl rfl)))
    (sim_seal rfl (sim_seal rfl (sim_ret (sim_tup (sim_cons sim_var (sim_cons sim_var (sim_cons sim_var (sim_cons sim_var (sim_cons sim_var (sim_cons sim_var sim_nil))))))))))))))))
def b_law_frame (T : Tx K mg base) : AS := (aRet (aFz (aMkN0 T.c_Frame 2 4 (A_Frame_init T) [.kw 0, .kw 1, .kw 2, .kw 3] (aCons (aOp oIxT (aVar 0) (aC (.int 0))) (aCons (aOp oIxT (aVar 0) (aC (.int 1))) aNil)) (aCons (aOp oIxT (aVar 0) (aC (.int 2))) (aCons (aOp oIxT (aVar 0) (aC (.int 3))) (aCons (aOp oIxT (aVar 0) (aC (.int 4))) (aCons (aOp oIxT (aVar 0) (aC (.int 5))) aNil)))))))
abbrev A_law_frame (T : Tx K mg base) : AF := bodyA [false] 0 (b_law_frame T)
theorem A_law_frame_of (T : Tx K mg base) {d0 : D} {q : AV → Prop} {x : Exn → Prop} (h : b_law_frame T ⟨fun _ => q (.fz .non), fun av _ => q av, fun _ => False, fun _ => False, fun e _ => x e⟩ [some (.fz d0)]) : A_law_frame T [.fz d0] q x := ⟨rfl, h⟩
theorem ok_law_frame (T : Tx K mg base) : FnOk P w K mg base CX0 6 T.f_law_frame T.fd_law_frame ["_law_row_here"] (spD K T.tb (A_law_frame T)) := by
  refine T.F_law_frame.ok sc_law_frame (fun vs H Q E h => spD_len h) (fun cdv A outer s0 H vs Q E hr h => ?_)
  have hst : L2.start ["_law_row_here"] vs = vs.map some ++ List.replicate 0 none := by
    unfold L2.start
    rw [spD_len h]
    rfl
  obtain ⟨mv_kb_Frame_init_every_long_release_last, hkb_Frame_init_every_long_release_last⟩ := kb_Frame_init_every_long_release_last T
  refine ⟨_, (pss_one (ps_ret (pe_mkNS T.M_Frame (ok_Frame_init T) (hr.mono (by decide)) (by rfl) T.g_Frame hkb_Frame_init_every_long_release_last coldAt (pa_cons (pe_ix (ix_tupK (K := K) rfl) (pv 0) pe_int (fun _ _ => rfl)) (pa_cons (pe_ix (ix_tupK (K := K) rfl) (pv 0) pe_int (fun _ _ => rfl)) pa_nil)) (pk_cons (pe_ix (ix_tupK (K := K) rfl) (pv 0) pe_int (fun _ _ => rfl)) (pk_cons (pe_ix (ix_tupK (K := K) rfl) (pv 0) pe_int (fun _ _ => rfl)) (pk_cons (pe_ix (ix_tupK (K := K) rfl) (pv 0) pe_int (fun _ _ => rfl)) (pk_cons (pe_ix (ix_tupK (K := K) rfl) (pv 0) pe_int (fun _ _ => rfl)) pk_nil))))))), run_body h hst fun pk pv O M U0 H0 X => ?_⟩
  unfold b_law_frame
  exact (sim_ret (sim_fz (sim_mkN0 rfl (by walk_at "arr") (sim_cons (sim_op op_ixT (SimE.w sim_var) (SimE.w sim_int)) (sim_cons (sim_op op_ixT (SimE.w sim_var) (SimE.w sim_int)) sim_nil)) (sim_cons (sim_op op_ixT (SimE.w sim_var) (SimE.w sim_int)) (sim_cons (sim_op op_ixT (SimE.w sim_var) (SimE.w sim_int)) (sim_cons (sim_op op_ixT (SimE.w sim_var) (SimE.w sim_int)) (sim_cons (sim_op op_ixT (SimE.w sim_var) (SimE.w sim_int)) sim_nil)))))))
def b_law_text (T : Tx K mg base) : AS := (aSeq (aSet 1 (aBmS oJoin (aC (.str "/")) (aCons (aFz (aLc (aItT (aOp oIxT (aVar 0) (aC (.int 1)))) (gN 3) aYes (aBmS oJoin (aC (.str ".")) (aCons (aVar 3) aNil)) [3])) aNil)))
    (aSeq (aSet 2 (aOp oCatS (aOp oCatS (aOp oCatS (aOp oCatS (aOp oIxT (aVar 0) (aC (.int 0))) (aC (.str " every "))) (aCB oStr (aCons (aOp oIxT (aVar 0) (aC (.int 2))) aNil))) (aC (.str " long "))) (aCB oStr (aCons (aOp oIxT (aVar 0) (aC (.int 3))) aNil))))
    (aRet (aOp oCatS (aOp oCatS (aOp oCatS (aOp oCatS (aOp oCatS (aOp oCatS (aVar 2) (aC (.str " release "))) (aCB oStr (aCons (aOp oIxT (aVar 0) (aC (.int 4))) aNil))) (aC (.str " last "))) (aCB oStr (aCons (aOp oIxT (aVar 0) (aC (.int 5))) aNil))) (aC (.str " by "))) (aVar 1)))))
abbrev A_law_text (T : Tx K mg base) : AF := bodyA [false] 3 (b_law_text T)
theorem A_law_text_of (T : Tx K mg base) {d0 : D} {q : AV → Prop} {x : Exn → Prop} (h : b_law_text T ⟨fun _ => q (.fz .non), fun av _ => q av, fun _ => False, fun _ => False, fun e _ => x e⟩ [some (.fz d0), none, none, none]) : A_law_text T [.fz d0] q x := ⟨rfl, h⟩
theorem ok_law_text (T : Tx K mg base) : FnOk P w K mg base CX0 1 T.f_law_text T.fd_law_text ["_law_row_here"] (spD K T.tb (A_law_text T)) := by
  refine T.F_law_text.ok sc_law_text (fun vs H Q E h => spD_len h) (fun cdv A outer s0 H vs Q E hr h => ?_)
  have hst : L2.start ["_law_row_here", "_law_road", "_law_head", "_law_way_here"] vs = vs.map some ++ List.replicate 3 none := by
    unfold L2.start
    rw [spD_len h]
    rfl
  refine ⟨_, (pss_cons (ps_set (i := 1) sc_law_text.nd rfl (Or.inl rfl) (pe_bmK (K := K) rfl (pe_bm PySem.F.plainAttrs_str PySem.F.slot_str_join PySem.F.type_str_join (mt_joinK (K := K) rfl) pe_str (pa_cons (pe_lc (own := [("_law_way_here", 3)]) (by rfl) sc_law_text.nd (pi_tupK (K := K) rfl (pe_ix (ix_tupK (K := K) rfl) (pv 0) pe_int (fun _ _ => rfl))) (blkOk_by (own := [("_law_way_here", 3)]) (N := ["_law_row_here", "_law_road", "_law_head", "_law_way_here"]) (sc := defScope s_law_text) (by decide +kernel)) (fun _ _ _ _ _ => (pg_name (i := 3) sc_law_text.nd rfl (Or.inl rfl))) (fun _ _ _ _ _ => pts_nil) (fun _ _ _ _ _ => (pe_bmK (K := K) rfl (pe_bm PySem.F.plainAttrs_str PySem.F.slot_str_join PySem.F.type_str_join (mt_joinK (K := K) rfl) pe_str (pa_cons (pv 3) pa_nil))))) pa_nil))))
      (pss_cons (ps_set (i := 2) sc_law_text.nd rfl (Or.inl rfl) (pe_op op_catS (pe_op op_catS (pe_op op_catS (pe_op op_catS (pe_ix (ix_tupK (K := K) rfl) (pv 0) pe_int (fun _ _ => rfl)) pe_str) (pe_callTy call_str_int (by rfl) T.z_str bt_str (pa_cons (pe_ix (ix_tupK (K := K) rfl) (pv 0) pe_int (fun _ _ => rfl)) pa_nil))) pe_str) (pe_callTy call_str_int (by rfl) T.z_str bt_str (pa_cons (pe_ix (ix_tupK (K := K) rfl) (pv 0) pe_int (fun _ _ => rfl)) pa_nil))))
      (pss_one (ps_ret (pe_op op_catS (pe_op op_catS (pe_op op_catS (pe_op op_catS (pe_op op_catS (pe_op op_catS (pv 2) pe_str) (pe_callTy call_str_int (by rfl) T.z_str bt_str (pa_cons (pe_ix (ix_tupK (K := K) rfl) (pv 0) pe_int (fun _ _ => rfl)) pa_nil))) pe_str) (pe_callTy call_str_int (by rfl) T.z_str bt_str (pa_cons (pe_ix (ix_tupK (K := K) rfl) (pv 0) pe_int (fun _ _ => rfl)) pa_nil))) pe_str) (pv 1)))))), run_body h hst fun pk pv O M U0 H0 X => ?_⟩
  unfold b_law_text
  exact (sim_seq (sim_set rfl (sim_bmS mt_joinD (SimE.w sim_str) (sim_consW (SimE.w (sim_fz (sim_lc (SimI.w (sim_itT (sim_op op_ixT (SimE.w sim_var) (SimE.w sim_int)))) (sim_gN rfl) sim_yes (sim_bmS mt_joinD (SimE.w sim_str) (sim_consW (SimE.w sim_var) sim_nilW)) rfl rfl))) sim_nilW)))
    (sim_seq (sim_set rfl (sim_op op_catSD (SimE.w (sim_op op_catSD (SimE.w (sim_op op_catSD (SimE.w (sim_op op_catSD (SimE.w (sim_op op_ixT (SimE.w sim_var) (SimE.w sim_int))) (SimE.w sim_str))) (SimE.w (sim_cb bu_str (sim_consW (SimE.w (sim_op op_ixT (SimE.w sim_var) (SimE.w sim_int))) sim_nilW))))) (SimE.w sim_str))) (SimE.w (sim_cb bu_str (sim_consW (SimE.w (sim_op op_ixT (SimE.w sim_var) (SimE.w sim_int))) sim_nilW)))))
    (sim_ret (sim_op op_catSD (SimE.w (sim_op op_catSD (SimE.w (sim_op op_catSD (SimE.w (sim_op op_catSD (SimE.w (sim_op op_catSD (SimE.w (sim_op op_catSD (SimE.w sim_var) (SimE.w sim_str))) (SimE.w (sim_cb bu_str (sim_consW (SimE.w (sim_op op_ixT (SimE.w sim_var) (SimE.w sim_int))) sim_nilW))))) (SimE.w sim_str))) (SimE.w (sim_cb bu_str (sim_consW (SimE.w (sim_op op_ixT (SimE.w sim_var) (SimE.w sim_int))) sim_nilW))))) (SimE.w sim_str))) (SimE.w sim_var)))))
def b_law_whole (T : Tx K mg base) : AS := (aRet (aAndV (aCB oIsi (aCons (aVar 0) (aCons (aC (.ty "int")) aNil))) (aNotV (aCB oIsi (aCons (aVar 0) (aCons (aC (.ty "bool")) aNil))))))
abbrev A_law_whole (T : Tx K mg base) : AF := bodyA [false] 0 (b_law_whole T)
theorem A_law_whole_of (T : Tx K mg base) {d0 : D} {q : AV → Prop} {x : Exn → Prop} (h : b_law_whole T ⟨fun _ => q (.fz .non), fun av _ => q av, fun _ => False, fun _ => False, fun e _ => x e⟩ [some (.fz d0)]) : A_law_whole T [.fz d0] q x := ⟨rfl, h⟩
theorem ok_law_whole (T : Tx K mg base) : FnOk P w K mg base CX0 1 T.f_law_whole T.fd_law_whole ["_law_x"] (spD K T.tb (A_law_whole T)) := by
  refine T.F_law_whole.ok sc_law_whole (fun vs H Q E h => spD_len h) (fun cdv A outer s0 H vs Q E hr h => ?_)
  have hst : L2.start ["_law_x"] vs = vs.map some ++ List.replicate 0 none := by
    unfold L2.start
    rw [spD_len h]
    rfl
  refine ⟨_, (pss_one (ps_ret (pe_and (pe_callB (call_isiKK (K := K) rfl) (by rfl) T.z_isinstance bt_isinstance (pa_cons (pv 0) (pa_cons (pe_bltn (v := .ty "int") (by rfl) T.z_int bt_int rfl) pa_nil))) (pe_one (pe_not (pe_callB (call_isiKK (K := K) rfl) (by rfl) T.z_isinstance bt_isinstance (pa_cons (pv 0) (pa_cons (pe_bltn (v := .ty "bool") (by rfl) T.z_bool bt_bool rfl) pa_nil)))))))), run_body h hst fun pk pv O M U0 H0 X => ?_⟩
  unfold b_law_whole
  exact (sim_ret (sim_andV (SimE.w (sim_cb bu_isi (sim_consW (SimE.w sim_var) (sim_consW (SimE.w sim_ty) sim_nilW)))) (sim_notV (SimE.w (sim_cb bu_isi (sim_consW (SimE.w sim_var) (sim_consW (SimE.w sim_ty) sim_nilW)))))))
def b_law_fields (T : Tx K mg base) : AS := (aSeq (aSet 1 (aTup (aCons (aFld T.c_Frame "name" (aVar 0)) (aCons (aFld T.c_Frame "ways" (aVar 0)) aNil))))
    (aRet (aOp oCatT (aVar 1) (aTup (aCons (aFld T.c_Frame "every" (aVar 0)) (aCons (aFld T.c_Frame "long" (aVar 0)) (aCons (aFld T.c_Frame "release" (aVar 0)) (aCons (aFld T.c_Frame "last" (aVar 0)) aNil))))))))
abbrev A_law_fields (T : Tx K mg base) : AF := bodyA [false] 1 (b_law_fields T)
theorem A_law_fields_of (T : Tx K mg base) {d0 : D} {q : AV → Prop} {x : Exn → Prop} (h : b_law_fields T ⟨fun _ => q (.fz .non), fun av _ => q av, fun _ => False, fun _ => False, fun e _ => x e⟩ [some (.fz d0), none]) : A_law_fields T [.fz d0] q x := ⟨rfl, h⟩
theorem ok_law_fields (T : Tx K mg base) : FnOk P w K mg base CX0 1 T.f_law_fields T.fd_law_fields ["_law_frame_here"] (spD K T.tb (A_law_fields T)) := by
  refine T.F_law_fields.ok sc_law_fields (fun vs H Q E h => spD_len h) (fun cdv A outer s0 H vs Q E hr h => ?_)
  have hst : L2.start ["_law_frame_here", "_law_head"] vs = vs.map some ++ List.replicate 1 none := by
    unfold L2.start
    rw [spD_len h]
    rfl
  have cl_Frame := T.C_Frame
  have na_Frame_every := T.N_Frame_every
  have na_Frame_last := T.N_Frame_last
  have na_Frame_long := T.N_Frame_long
  have na_Frame_name := T.N_Frame_name
  have na_Frame_release := T.N_Frame_release
  have na_Frame_ways := T.N_Frame_ways
  refine ⟨_, (pss_cons (ps_set (i := 1) sc_law_fields.nd rfl (Or.inl rfl) (pe_tup (pa_cons (pe_fldK (K := K) rfl (pv 0) rfl) (pa_cons (pe_fldK (K := K) rfl (pv 0) rfl) pa_nil))))
      (pss_one (ps_ret (pe_op (op_catAK (K := K) rfl) (pv 1) (pe_tup (pa_cons (pe_fldK (K := K) rfl (pv 0) rfl) (pa_cons (pe_fldK (K := K) rfl (pv 0) rfl) (pa_cons (pe_fldK (K := K) rfl (pv 0) rfl) (pa_cons (pe_fldK (K := K) rfl (pv 0) rfl) pa_nil))))))))), run_body h hst fun pk pv O M U0 H0 X => ?_⟩
  unfold b_law_fields
  exact (sim_seq (sim_set rfl (sim_tup (sim_cons (sim_fld (by assumption) (by assumption) (SimE.w sim_var)) (sim_cons (sim_fld (by assumption) (by assumption) (SimE.w sim_var)) sim_nil))))
    (sim_ret (sim_op op_catTD (SimE.w sim_var) (SimE.w (sim_tup (sim_cons (sim_fld (by assumption) (by assumption) (SimE.w sim_var)) (sim_cons (sim_fld (by assumption) (by assumption) (SimE.w sim_var)) (sim_cons (sim_fld (by assumption) (by assumption) (SimE.w sim_var)) (sim_cons (sim_fld (by assumption) (by assumption) (SimE.w sim_var)) sim_nil)))))))))
def b_law_1 (T : Tx K mg base) : AS := (aSeq (aSet 5 (aFz (aCall0 (A_law_frame T) (aArg (aVar 3) aArgs))))
    (aSeq (aSet 6 (aStrO T.c_Frame (A_Frame_str T) (aVar 5)))
    (aSeq (aSet 7 (aFz (aCall0 (A_read_frame T) (aArg (aFz (aCall0 (A_law_text T) (aArg (aVar 3) aArgs))) aArgs))))
    (aSeq (aSet 8 (aFz (aCall0 (A_law_fields T) (aArg (aVar 7) aArgs))))
    (aSeq (aIf (aOr (aTest (aOp oNe (aVar 6) (aFz (aCall0 (A_law_text T) (aArg (aVar 3) aArgs))))) (aOr (aTest (aOp oNeD (aVar 8) (aVar 3))) (aNot (aTest (aCB oAll (aCons (aFz (aLc (aItT (aSl oSlT (aVar 8) (aPart (aC (.int 2))) aNoPart)) (gN 9) aYes (aFz (aCall0 (A_law_whole T) (aArg (aVar 9) aArgs))) [9])) aNil))))))
    (aRet (aC (.bl false)))
    aNext)
    (aSeq (aIf (aOr (aNot (aTest (aCB oIsi (aCons (aFld T.c_Frame "ways" (aVar 7)) (aCons (aC (.ty "tuple")) aNil))))) (aNot (aTest (aCB oAll (aCons (aFz (aLc (aItT (aFld T.c_Frame "ways" (aVar 7))) (gN 10) aYes (aCB oIsi (aCons (aVar 10) (aCons (aC (.ty "tuple")) aNil))) [10])) aNil)))))
    (aRet (aC (.bl false)))
    aNext)
    (aRet (aAndV (aOwnEq T.c_Frame (A_Frame_eq T) (aVar 7) (aVar 5)) (aAndV (aOwnEq T.c_Frame (A_Frame_eq T) (aVar 5) (aVar 7)) (aOp oEq (aStrO T.c_Frame (A_Frame_str T) (aVar 7)) (aVar 6)))))))))))
def b_law (T : Tx K mg base) : AS := (aSeq (aSet 2 (aFz (aCall0 (A_law_world T) (aSlot 1 (aArg (aC (.int 3)) aArgs)))))
    (aSeq (aSet 3 (aFz (aCall0 (A_law_pick T) (aSlot 1 (aArg (aOp oIxT (aVar 2) (aC (.int 3))) aArgs)))))
    (aSeq (aIf (aTest (aOp oEq (aFz (aCall0 (A_law_draw T) (aSlot 1 (aArg (aC (.int 3)) aArgs)))) (aC (.int 0))))
    (aSeq (aSet 4 (aTup (aCons (aOp oAdd (aC (.int 1)) (aOp oMul (aC (.int 29)) (aFz (aCall0 (A_law_draw T) (aSlot 1 (aArg (aC (.int 2)) aArgs)))))) (aCons (aOp oMul (aOp oSub (aOp oIxT (aVar 3) (aC (.int 2))) (aC (.int 1))) (aFz (aCall0 (A_law_draw T) (aSlot 1 (aArg (aC (.int 2)) aArgs))))) aNil))))
    (aSet 3 (aOp oCatT (aOp oCatT (aSl oSlT (aVar 3) aNoPart (aPart (aC (.int 3)))) (aVar 4)) (aTup (aCons (aOp oAdd (aC (.int 1)) (aOp oMul (aC (.int 479)) (aFz (aCall0 (A_law_draw T) (aSlot 1 (aArg (aC (.int 2)) aArgs)))))) aNil)))))
    aNext)
    (b_law_1 T))))
theorem nodup_sub_len {α : Type} [DecidableEq α] : ∀ {l m : List α}, l.Nodup → (∀ x ∈ l, x ∈ m) → l.length ≤ m.length
  | [], m, _, _ => Nat.zero_le _
  | x :: l, m, nd, h => by
    obtain ⟨h1, h2⟩ := List.nodup_cons.mp nd
    have hx := h x List.mem_cons_self
    have := nodup_sub_len (m := m.erase x) h2 fun y hy => (List.mem_erase_of_ne fun z => h1 (by rw [← z]; exact hy)).mpr (h y (List.mem_cons_of_mem _ hy))
    rw [List.length_erase_of_mem hx] at this
    have hp : 0 < m.length := List.length_pos_of_mem hx
    rw [List.length_cons]
    omega
def GoodN (w : Str) : Prop := 1 ≤ w.length ∧ w.length ≤ 8 ∧ ∀ c ∈ w.cps.toList, 97 ≤ c ∧ c ≤ 122
theorem joinL1 : ∀ cs : List Nat, TL.joinL [] (cs.map fun c => [c]) = cs
  | [] => rfl
  | [c] => rfl
  | c :: d :: r => by
    have ih := joinL1 (d :: r)
    show [c] ++ ([] ++ TL.joinL [] ((d :: r).map fun c => [c])) = _
    rw [ih]
    rfl
theorem join1 (cs : List Nat) : Txt.join (Str.ofString "") (cs.map fun c => (⟨#[c]⟩ : Str)) = ⟨cs.toArray⟩ := by
  have := SX.join_S [] (cs.map fun c => [c])
  rw [joinL1, List.map_map] at this
  exact this
theorem inF_str {w : Str} : ∀ {ns : List Str}, inF (.str w) (ns.map .str) = decide (w ∈ ns)
  | [] => by simp [inF]
  | n :: ns => by
    have ih := inF_str (w := w) (ns := ns)
    unfold inF at ih ⊢
    rw [List.map_cons, List.any_cons, ih]
    show ((n == w) || decide (w ∈ ns)) = _
    by_cases h : n = w
    · subst h
      simp
    · have h' : ¬ w = n := fun z => h z.symm
      simp [h, h']
theorem flats_str : ∀ (ns : List Str), (ns.map D.str).all flatD = true
  | [] => rfl
  | n :: ns => by
    rw [List.map_cons, List.all_cons, flats_str ns]
    rfl
theorem letters_at {r : Int} (h0 : 0 ≤ r) (h1 : r < 26) : atI (Str.ofString "abcdefghijklmnopqrstuvwxyz").cps.toList r = some (97 + r.toNat) := by
  have key : ∀ n : Fin 26, atI (Str.ofString "abcdefghijklmnopqrstuvwxyz").cps.toList ((n.val : Nat) : Int) = some (97 + n.val) := by decide +kernel
  obtain ⟨n, rfl⟩ := Int.eq_ofNat_of_zero_le h0
  have := key ⟨n, by omega⟩
  rw [Int.toNat_natCast]
  exact this
def wordK (k : Nat) : Str := Txt.mul ⟨#[97 + k % 26]⟩ (1 + ((k / 26 : Nat) : Int))
theorem wordK_nd : ((List.range 104).map wordK).Nodup := by decide +kernel
theorem wordK_good : ∀ k : Fin 104, (1 ≤ (wordK k.val).length ∧ (wordK k.val).length ≤ 8) ∧ (wordK k.val).cps.toList.all (fun c => decide (97 ≤ c) && decide (c ≤ 122)) = true := by decide +kernel
theorem wordK_ok {k : Nat} (h : k < 104) : GoodN (wordK k) := by
  obtain ⟨⟨h1, h2⟩, h3⟩ := wordK_good ⟨k, h⟩
  refine ⟨h1, h2, fun c hc => ?_⟩
  have := List.all_eq_true.mp h3 c hc
  rw [Bool.and_eq_true] at this
  exact ⟨of_decide_eq_true this.1, of_decide_eq_true this.2⟩
theorem pick_A (T : Tx K mg base) {ds : List D} {q : AV → Prop} {x : Exn → Prop} (h0 : 0 < ds.length) (h1 : ds.length ≤ 1000000) (h : ∀ d ∈ ds, q (.fz d)) : A_law_pick T [.dr, .fz (.lst ds)] q x := by
  refine A_law_pick_of T ?_
  unfold b_law_pick
  walk_at "aw"
  refine w_draw (by omega) (by omega) fun r r0 r1 => ?_
  walk_at "aw"
  obtain ⟨n, rfl⟩ := Int.eq_ofNat_of_zero_le r0
  have hn : n < ds.length := by omega
  refine w_ixL (atI_nat (List.getElem?_eq_getElem hn)) ?_
  exact h _ (List.getElem_mem hn)
theorem name_A (T : Tx K mg base) {ns : List Str} {q : AV → List AV → Prop} {x : Exn → List AV → Prop} (hl : ns.length < 104) (h : ∀ w, GoodN w → w ∉ ns → q (.fz (.str w)) [.dr, .ol ((ns ++ [w]).map .str)]) : A_law_name T [.dr, .ol (ns.map .str)] q x := by
  refine A_law_name_of T _ ?_
  have put : ∀ w : Str, ns.map D.str ++ [.str w] = (ns ++ [w]).map .str := fun w => by rw [List.map_append]; rfl
  have ll : (ns.map D.str).length < 1000000 := by rw [List.length_map]; omega
  unfold b_law_name
  walk_at "aw"
  refine ⟨⟨by omega, by omega⟩, ?_⟩
  refine loop_rng (fun i ρ => ∃ v3 v4 v5 v6 : Option AV, ρ = [some .dr, some (.ol (ns.map .str)), some (.fz (.str "abcdefghijklmnopqrstuvwxyz")), v3, v4, v5, v6]) ⟨none, none, none, none, rfl⟩ ?_ ?_
  · rintro i ρ K' hi ⟨v3, v4, v5, v6, rfl⟩ hK
    have tail : ∀ sz : Int, 1 ≤ sz → sz ≤ 8 → ∀ (v3 v5 v6 : Option AV) (N : AEnds), (∀ ρ, N.nx ρ = K' ρ) → (∀ av ρ, N.rt av ρ = q av (mrg [.dr, .ol (ns.map .str)] (selM [true, true] ρ))) → b_law_name_1 T N [some .dr, some (.ol (ns.map .str)), some (.fz (.str "abcdefghijklmnopqrstuvwxyz")), v3, some (.fz (.int sz)), v5, v6] := fun sz h1 h8 v3 v5 v6 N hn hr => by
      obtain ⟨nx, rt, bk, ct, ex⟩ := N
      obtain ⟨n, rfl⟩ := Int.eq_ofNat_of_zero_le (show 0 ≤ sz by omega)
      unfold b_law_name_1
      walk_at "aw"
      refine ⟨⟨by omega, by omega⟩, ?_⟩
      rw [Int.toNat_natCast]
      refine comp_rel (fun _ y => ∃ c : Nat, y = .str ⟨#[c]⟩ ∧ 97 ≤ c ∧ c ≤ 122) (by rw [rngD_len]; show 0 + _ ≤ _; omega) (fun d hd Q' k => ?_) fun ys hys => ?_
      · walk_at "aw"
        refine w_draw (by omega) (by omega) fun r r0 r1 => ?_
        walk_at "aw"
        refine w_ixS (by decide) (letters_at r0 r1) ?_
        exact k _ ⟨_, rfl, by omega, by omega⟩
      · obtain ⟨cs, rfl, lc, gc⟩ : ∃ cs : List Nat, ys = (cs.map fun c => (⟨#[c]⟩ : Str)).map .str ∧ cs.length = n ∧ ∀ c ∈ cs, 97 ≤ c ∧ c ≤ 122 := by
          have go : ∀ {xs : List D} {ys : List D}, Paired (fun _ y => ∃ c : Nat, y = .str ⟨#[c]⟩ ∧ 97 ≤ c ∧ c ≤ 122) xs ys → ∃ cs : List Nat, ys = (cs.map fun c => (⟨#[c]⟩ : Str)).map .str ∧ cs.length = xs.length ∧ ∀ c ∈ cs, 97 ≤ c ∧ c ≤ 122 := by
            intro xs ys hp
            induction hp with
            | nil => exact ⟨[], rfl, rfl, fun c hc => by cases hc⟩
            | cons h t ih =>
              obtain ⟨c, e, g⟩ := h
              obtain ⟨cs, e1, e2, e3⟩ := ih
              refine ⟨c :: cs, by rw [e, e1]; rfl, by rw [List.length_cons, List.length_cons, e2], fun d hd => ?_⟩
              rcases List.mem_cons.mp hd with rfl | hd
              · exact g
              · exact e3 d hd
          obtain ⟨cs, e1, e2, e3⟩ := go hys
          exact ⟨cs, e1, by rw [e2, rngD_len], e3⟩
        have sm : (((cs.map fun c => (⟨#[c]⟩ : Str)).map (·.length)).sum + (cs.map fun c => (⟨#[c]⟩ : Str)).length * (Str.ofString "").length) ≤ 1000000 := by
          have : ∀ l : List Nat, ((l.map fun c => (⟨#[c]⟩ : Str)).map (·.length)).sum = l.length := fun l => by
            induction l with
            | nil => rfl
            | cons c l ih =>
              rw [List.map_cons, List.map_cons, List.sum_cons, ih, List.length_cons]
              show 1 + l.length = _
              omega
          rw [this, List.length_map]
          have : (Str.ofString "").length = 0 := by decide
          rw [this]
          omega
        walk_at "aw"
        refine w_join sm ?_
        rw [join1]
        walk_at "aw"
        refine w_ninL rfl (flats_str ns) ?_
        rw [inF_str]
        walk_at "aw"
        refine cond_dec (fun hc => ?_) (fun hc => ?_)
        · walk_at "aw"
          rw [show nx _ = K' _ from hn _]
          exact hK _ ⟨_, _, _, _, rfl⟩
        · walk_at "aw"
          refine ⟨ll, ?_⟩
          walk_at "aw"
          rw [show rt _ _ = q _ _ from hr _ _, put]
          refine h _ ⟨?_, ?_, ?_⟩ hc
          · show 1 ≤ cs.toArray.size
            rw [List.size_toArray]
            omega
          · show cs.toArray.size ≤ 8
            rw [List.size_toArray]
            omega
          · show ∀ c ∈ cs.toArray.toList, _
            rw [List.toList_toArray]
            exact gc
    walk_at "aw"
    refine w_draw (by omega) (by omega) fun r r0 r1 => ?_
    walk_at "aw"
    refine cond_dec (fun hc => ?_) (fun hc => ?_)
    · walk_at "aw"
      refine w_draw (by omega) (by omega) fun r' r0' r1' => ?_
      walk_at "aw"
      exact tail _ (by omega) (by omega) _ _ _ _ (fun _ => rfl) (fun _ _ => rfl)
    · walk_at "aw"
      exact tail _ (by omega) (by omega) _ _ _ _ (fun _ => rfl) (fun _ _ => rfl)
  · rintro ρ ⟨v3, v4, v5, v6, rfl⟩
    walk_at "aw"
    refine ⟨⟨by omega, by omega⟩, ?_⟩
    refine loop_rng (fun i ρ => (∃ v3 v4 v5 v6 : Option AV, ρ = [some .dr, some (.ol (ns.map .str)), some (.fz (.str "abcdefghijklmnopqrstuvwxyz")), v3, v4, v5, v6]) ∧ ∀ j, j < i → wordK j ∈ ns) ⟨⟨_, _, _, _, rfl⟩, fun j hj => by omega⟩ ?_ ?_
    · rintro i ρ K' hi ⟨⟨v3, v4, v5, v6, rfl⟩, hj⟩ hK
      have hi' : i < 104 := hi
      have ei : (0 : Int) + (i : Nat) = (i : Nat) := by omega
      rw [ei]
      walk_at "aw"
      refine w_ixS (by decide) (letters_at (by omega) (by omega)) ?_
      walk_at "aw"
      have ew : Txt.mul (⟨#[97 + ((i : Int) % 26).toNat]⟩ : Str) (1 + (i : Int) / 26) = wordK i := by
        unfold wordK
        rw [show ((i : Int) % 26).toNat = i % 26 by omega, show (i : Int) / 26 = ((i / 26 : Nat) : Int) by omega]
      refine w_mulS ⟨by omega, by omega, ?_⟩ ?_
      · show 1 * _ ≤ _
        omega
      rw [ew]
      walk_at "aw"
      refine w_ninL rfl (flats_str ns) ?_
      rw [inF_str]
      walk_at "aw"
      refine cond_dec (fun hc => ?_) (fun hc => ?_)
      · walk_at "aw"
        refine hK _ ⟨⟨_, _, _, _, rfl⟩, fun j hj' => ?_⟩
        by_cases e : j = i
        · rw [e]
          exact hc
        · exact hj j (by omega)
      · walk_at "aw"
        refine ⟨ll, ?_⟩
        walk_at "aw"
        rw [put]
        exact h _ (wordK_ok hi') hc
    · rintro ρ ⟨_, hj⟩
      have := nodup_sub_len (m := ns) wordK_nd fun w hw => by
        obtain ⟨j, hj', rfl⟩ := List.mem_map.mp hw
        exact hj j (by have := List.mem_range.mp hj'; exact this)
      rw [List.length_map, List.length_range] at this
      omega
structure Ln where
  n : Str
  f : List Str
  t : List Str
  w : Int
abbrev LE := Addr × List V × Ln
def Ln.av (vs : List V) (l : Ln) : AV := .on vs [.fz (.str l.n), .ol (l.f.map .str), .ol (l.t.map .str), .fz (.int l.w)]
def lnsAV (es : List LE) : AV := .on (es.map fun e => .ref e.1) (es.map fun e => e.2.2.av e.2.1)
theorem lns_seens : ∀ (es : List LE), seens (es.map fun e => e.2.2.av e.2.1) (es.map fun e => V.ref e.1) = es.map fun e => .adr e.1
  | [] => rfl
  | e :: es => by
    show D.adr e.1 :: seens (es.map fun e => e.2.2.av e.2.1) (es.map fun e => V.ref e.1) = _
    rw [lns_seens es]
    rfl
theorem lnIx_of : ∀ {es : List LE} {m : Nat} {e : LE}, (es.map (·.1)).Nodup → es[m]? = some e → lnIx (es.map fun e => V.ref e.1) e.1 = some m
  | [], m, e, _, h => by simp at h
  | a :: es, 0, e, nd, h => by
    cases h
    show (if a.1 = a.1 then some 0 else _) = _
    rw [if_pos rfl]
  | a :: es, m + 1, e, nd, h => by
    have h' : es[m]? = some e := h
    obtain ⟨n1, n2⟩ := List.nodup_cons.mp (show (a.1 :: es.map (·.1)).Nodup from nd)
    have ne : a.1 ≠ e.1 := fun z => n1 (by rw [z]; exact List.mem_map.mpr ⟨e, List.mem_of_getElem? h', rfl⟩)
    show (if a.1 = e.1 then some 0 else (lnIx (es.map fun e => V.ref e.1) e.1).map (· + 1)) = _
    rw [if_neg ne, lnIx_of n2 h']
    rfl
section
variable {ρ : Env} {es : List LE} {m j ln : Nat} {e : LE} {Q : D → Prop} {X : Exn → Prop} {nx : Env → Prop} {rt : AV → Env → Prop} {bk ct : Env → Prop} {ex : Exn → Env → Prop}
theorem lns_at (he : es[m]? = some e) : (es.map fun e => e.2.2.av e.2.1)[m]? = some (e.2.2.av e.2.1) := by rw [List.getElem?_map, he]; rfl
theorem w_ln0 (nd : (es.map (·.1)).Nodup) (he : es[m]? = some e) (h1 : ρ[j]? = some (some (lnsAV es))) (h2 : ρ[ln]? = some (some (.fz (.adr e.1)))) (q : Q (.str e.2.2.n)) : aLn j ln 0 ρ Q X := w_lnQ h1 h2 (lnIx_of nd he) (lns_at he) q
theorem w_ln1 (nd : (es.map (·.1)).Nodup) (he : es[m]? = some e) (h1 : ρ[j]? = some (some (lnsAV es))) (h2 : ρ[ln]? = some (some (.fz (.adr e.1)))) (q : Q (.lst (e.2.2.f.map .str))) : aLn j ln 1 ρ Q X := w_lnQ h1 h2 (lnIx_of nd he) (lns_at he) q
theorem w_ln2 (nd : (es.map (·.1)).Nodup) (he : es[m]? = some e) (h1 : ρ[j]? = some (some (lnsAV es))) (h2 : ρ[ln]? = some (some (.fz (.adr e.1)))) (q : Q (.lst (e.2.2.t.map .str))) : aLn j ln 2 ρ Q X := w_lnQ h1 h2 (lnIx_of nd he) (lns_at he) q
theorem w_lnE0 (nd : (es.map (·.1)).Nodup) (he : es[m]? = some e) (h1 : ρ[j]? = some (some (lnsAV es))) (h2 : ρ[ln]? = some (some (.fz (.adr e.1)))) (q : Q (.str e.2.2.n)) : aLnE j ln 0 ρ Q X := w_lnQ h1 h2 (lnIx_of nd he) (lns_at he) q
theorem lns_set {m : Nat} {e : LE} {l : Ln} (he : es[m]? = some e) : lnsAV (es.set m (e.1, e.2.1, l)) = .on (es.map fun e => .ref e.1) ((es.map fun e => e.2.2.av e.2.1).set m (l.av e.2.1)) := by
  unfold lnsAV
  rw [List.map_set, List.map_set]
  congr 1
  apply List.ext_getElem?
  intro k
  rw [List.getElem?_set, List.getElem?_map]
  by_cases hk : m = k
  · subst hk
    rw [he, if_pos rfl, List.length_map, if_pos (List.getElem?_eq_some_iff.mp he).1]
    rfl
  · rw [if_neg hk]
theorem w_appLn1 {k : Nat} {y : Str} (nd : (es.map (·.1)).Nodup) (he : es[m]? = some e) (h1 : ρ[j]? = some (some (lnsAV es))) (h2 : ρ[ln]? = some (some (.fz (.adr e.1)))) (h3 : ρ[k]? = some (some (.fz (.str y)))) (hl : e.2.2.f.length < 1000000)
    (q : nx (ρ.set j (some (lnsAV (es.set m (e.1, e.2.1, { e.2.2 with f := e.2.2.f ++ [y] })))))) : aAppLn j ln 1 (aVar k) ⟨nx, rt, bk, ct, ex⟩ ρ := by
  refine w_lnQ h1 h2 (lnIx_of nd he) (lns_at he) ?_
  refine w_var (X := fun x => ex x ρ) h3 ⟨by rw [List.length_map]; exact hl, ?_⟩
  rw [lns_set he] at q
  have e' : e.2.2.f.map D.str ++ [.str y] = (e.2.2.f ++ [y]).map .str := by rw [List.map_append]; rfl
  rw [e']
  exact q
theorem w_appLn2 {k : Nat} {y : Str} (nd : (es.map (·.1)).Nodup) (he : es[m]? = some e) (h1 : ρ[j]? = some (some (lnsAV es))) (h2 : ρ[ln]? = some (some (.fz (.adr e.1)))) (h3 : ρ[k]? = some (some (.fz (.str y)))) (hl : e.2.2.t.length < 1000000)
    (q : nx (ρ.set j (some (lnsAV (es.set m (e.1, e.2.1, { e.2.2 with t := e.2.2.t ++ [y] })))))) : aAppLn j ln 2 (aVar k) ⟨nx, rt, bk, ct, ex⟩ ρ := by
  refine w_lnQ h1 h2 (lnIx_of nd he) (lns_at he) ?_
  refine w_var (X := fun x => ex x ρ) h3 ⟨by rw [List.length_map]; exact hl, ?_⟩
  rw [lns_set he] at q
  have e' : e.2.2.t.map D.str ++ [.str y] = (e.2.2.t ++ [y]).map .str := by rw [List.map_append]; rfl
  rw [e']
  exact q
end
/-- a comprehension with a test, over a row of things of one kind -/
theorem comp_filt {α : Type} {g : AG} {tt : AT} {te : AE} {ρ : Env} {X : Exn → Prop} {Q : List D → Prop} {fd : α → D} {xs : List α} {acc : List D} (p : α → Bool) (f : α → D) (hl : acc.length + xs.length ≤ 1000000)
    (h : ∀ (x : α), x ∈ xs → ∀ (Q : D → Prop) (A : Prop), (p x = true → Q (f x)) → (p x = false → A) → g (fd x) ρ (fun ρ2 => tt ρ2 (fun b => cond b (te ρ2 Q X) A) X)) (q : Q (acc ++ (xs.filter p).map f)) : aComp g tt te ρ X (xs.map fd) acc Q := by
  induction xs generalizing acc with
  | nil => rwa [List.filter_nil, List.map_nil, List.append_nil] at q
  | cons d ds ih =>
    rw [List.length_cons] at hl
    refine h d List.mem_cons_self _ _ (fun hp => ⟨by omega, ih (by rw [List.length_append]; show acc.length + 1 + _ ≤ _; omega) (fun e he => h e (List.mem_cons_of_mem _ he)) ?_⟩) (fun hp => ih (by omega) (fun e he => h e (List.mem_cons_of_mem _ he)) ?_)
    · rw [List.filter_cons_of_pos hp, List.map_cons] at q
      rwa [List.append_assoc]
    · rwa [List.filter_cons_of_neg (by rw [hp]; exact Bool.false_ne_true)] at q
structure LnOk (nodes : List Str) (l : Ln) : Prop where
  f0 : l.f ≠ []
  fn : l.f.Nodup
  fi : ∀ x ∈ l.f, x ∈ nodes
  f6 : l.f.length ≤ 6
  t0 : l.t ≠ []
  tn : l.t.Nodup
  ti : ∀ x ∈ l.t, x ∈ nodes
  t6 : l.t.length ≤ 6
  w0 : 0 ≤ l.w
  w4 : l.w < 4
def mu (e : LE) : Nat := max e.2.2.f.length e.2.2.t.length
structure Wld (nodes ns : List Str) (es : List LE) (h : Nat) (k : List Str) : Prop where
  nd : ns.Nodup
  good : ∀ w ∈ ns, GoodN w
  nn : ∀ x ∈ nodes, x ∈ ns
  ad : (es.map (·.1)).Nodup
  ln : (es.map (·.2.2.n)).Nodup
  li : ∀ e ∈ es, e.2.2.n ∈ ns ∧ e.2.2.n ∉ nodes
  le : es.length ≤ 14
  ok : ∀ e ∈ es, LnOk nodes e.2.2
  cn : (es.map mu).sum ≤ h
  ct : ns.length = nodes.length + es.length + k.length
  rs : ∀ y ∈ k, y ∈ ns ∧ y ∉ nodes
  rl : ∀ e ∈ es, e.2.2.n ∉ k
  rd : k.Nodup
structure LnExt (l l' : Ln) : Prop where
  n : l'.n = l.n
  w : l'.w = l.w
  f : ∀ x ∈ l.f, x ∈ l'.f
  t : ∀ x ∈ l.t, x ∈ l'.t
theorem LnExt.refl (l : Ln) : LnExt l l := ⟨rfl, rfl, fun _ h => h, fun _ h => h⟩
theorem LnExt.trans {a b c : Ln} (h : LnExt a b) (k : LnExt b c) : LnExt a c := ⟨k.n.trans h.n, k.w.trans h.w, fun x hx => k.f x (h.f x hx), fun x hx => k.t x (h.t x hx)⟩
def EsExt (es es' : List LE) : Prop := ∀ e ∈ es, ∃ e' ∈ es', LnExt e.2.2 e'.2.2
theorem EsExt.refl (es : List LE) : EsExt es es := fun e he => ⟨e, he, .refl _⟩
theorem EsExt.trans {a b c : List LE} (h : EsExt a b) (k : EsExt b c) : EsExt a c := fun e he => by
  obtain ⟨e1, h1, h2⟩ := h e he
  obtain ⟨e2, h3, h4⟩ := k e1 h1
  exact ⟨e2, h3, h2.trans h4⟩
theorem len_or {α : Type} {p q : α → Bool} : ∀ {xs : List α}, (∀ x ∈ xs, p x = true ∨ q x = true) → xs.length ≤ (xs.filter p).length + (xs.filter q).length
  | [], _ => Nat.zero_le _
  | x :: xs, h => by
    have ih := len_or (p := p) (q := q) (xs := xs) fun y hy => h y (List.mem_cons_of_mem _ hy)
    rw [List.length_cons, List.filter_cons, List.filter_cons]
    rcases h x List.mem_cons_self with e | e
    · rw [if_pos e, List.length_cons]
      split <;> (try rw [List.length_cons]) <;> omega
    · rw [if_pos e, List.length_cons]
      split <;> (try rw [List.length_cons]) <;> omega
theorem sum_six {μ : LE → Nat} : ∀ {es : List LE}, 6 * (es.filter fun e => decide (6 ≤ μ e)).length ≤ (es.map μ).sum
  | [] => Nat.le_refl _
  | e :: es => by
    have ih := sum_six (μ := μ) (es := es)
    rw [List.map_cons, List.sum_cons, List.filter_cons]
    by_cases h : 6 ≤ μ e
    · rw [if_pos (decide_eq_true h), List.length_cons]
      omega
    · rw [if_neg (by simpa using h)]
      omega
def fit1 (barred : List Str) (one : Str) (e : LE) : Bool := !decide (e.2.2.n ∈ barred) && (decide (one ∈ e.2.2.f) || decide (e.2.2.f.length < 6))
def fit2 (two : Str) (e : LE) : Bool := decide (two ∈ e.2.2.t) || decide (e.2.2.t.length < 6)
section
variable {nodes ns : List Str} {es : List LE} {h : Nat} {k : List Str}
theorem Wld.fit (W : Wld nodes ns es h k) {barred bl : List Str} {one two : Str} (hh : h < 48) (h5 : bl.length ≤ 5) (hb : ∀ e ∈ es, e.2.2.n ∈ barred → e.2.2.n ∈ bl) (h14 : ¬ es.length < 14) : (es.filter (fit1 barred one)).filter (fit2 two) ≠ [] := fun z => by
  have key : ∀ e ∈ es, (decide (e.2.2.n ∈ bl) = true) ∨ (decide (6 ≤ mu e) = true) := fun e he => by
    have nz : ¬ (fit1 barred one e = true ∧ fit2 two e = true) := fun ⟨a, b⟩ => by
      have : e ∈ (es.filter (fit1 barred one)).filter (fit2 two) := List.mem_filter.mpr ⟨List.mem_filter.mpr ⟨he, a⟩, b⟩
      rw [z] at this
      cases this
    by_cases hx : e.2.2.n ∈ barred
    · exact .inl (decide_eq_true (hb e he hx))
    · refine .inr (decide_eq_true ?_)
      unfold mu
      by_cases h1 : e.2.2.f.length < 6
      · by_cases h2 : e.2.2.t.length < 6
        · exact absurd ⟨by simp [fit1, hx, h1], by simp [fit2, h2]⟩ nz
        · omega
      · omega
  have c1 := len_or key
  have c2 := sum_six (μ := mu) (es := es)
  have c3 := W.cn
  have c4 : (es.filter fun e => decide (e.2.2.n ∈ bl)).length ≤ bl.length := by
    have nd : ((es.filter fun e => decide (e.2.2.n ∈ bl)).map (·.2.2.n)).Nodup := (List.Sublist.map _ List.filter_sublist).nodup W.ln
    have := nodup_sub_len (m := bl) nd fun x hx => by
      obtain ⟨e, he, rfl⟩ := List.mem_map.mp hx
      exact of_decide_eq_true (List.mem_filter.mp he).2
    rwa [List.length_map] at this
  omega
/-- a new line -/
theorem Wld.new (W : Wld nodes ns es h k) {p : Addr} {vs : List V} {nm one two : Str} {wi : Int} (hp : ∀ e ∈ es, e.1 ≠ p) (h14 : es.length < 14) (hg : GoodN nm) (hn : nm ∉ ns) (h1 : one ∈ nodes) (h2 : two ∈ nodes) (w0 : 0 ≤ wi) (w4 : wi < 4) :
    Wld nodes (ns ++ [nm]) (es ++ [(p, vs, ⟨nm, [one], [two], wi⟩)]) (h + 1) k := by
  refine ⟨?_, ?_, fun x hx => List.mem_append_left _ (W.nn x hx), ?_, ?_, ?_, ?_, ?_, ?_, ?_, fun y hy => ⟨List.mem_append_left _ (W.rs y hy).1, (W.rs y hy).2⟩, ?_, W.rd⟩
  · refine List.nodup_append.mpr ⟨W.nd, by simp, fun a ha b hb e => ?_⟩
    rw [List.mem_singleton.mp hb] at e
    exact hn (e ▸ ha)
  · intro w hw
    rcases List.mem_append.mp hw with hw | hw
    · exact W.good w hw
    · rw [List.mem_singleton.mp hw]; exact hg
  · rw [List.map_append]
    refine List.nodup_append.mpr ⟨W.ad, by simp, fun a ha b hb e => ?_⟩
    obtain ⟨x, hx, rfl⟩ := List.mem_map.mp ha
    rw [List.mem_singleton.mp hb] at e
    exact hp x hx e
  · rw [List.map_append]
    refine List.nodup_append.mpr ⟨W.ln, by simp, fun a ha b hb e => ?_⟩
    obtain ⟨x, hx, rfl⟩ := List.mem_map.mp ha
    have e2 : x.2.2.n = nm := e.trans (List.mem_singleton.mp hb)
    exact hn (e2 ▸ (W.li x hx).1)
  · intro e he
    rcases List.mem_append.mp he with he | he
    · exact ⟨List.mem_append_left _ (W.li e he).1, (W.li e he).2⟩
    · rw [List.mem_singleton.mp he]
      exact ⟨List.mem_append_right _ (List.mem_singleton.mpr rfl), fun z => hn (W.nn _ z)⟩
  · rw [List.length_append, List.length_singleton]
    omega
  · intro e he
    rcases List.mem_append.mp he with he | he
    · exact W.ok e he
    · rw [List.mem_singleton.mp he]
      exact ⟨by simp, by simp, fun x hx => by rw [List.mem_singleton.mp hx]; exact h1, by simp, by simp, by simp, fun x hx => by rw [List.mem_singleton.mp hx]; exact h2, by simp, w0, w4⟩
  · rw [List.map_append, List.sum_append]
    have := W.cn
    show (es.map mu).sum + (1 + 0) ≤ h + 1
    omega
  · have := W.ct
    rw [List.length_append, List.length_append, List.length_singleton, List.length_singleton]
    omega
  · intro e he
    rcases List.mem_append.mp he with he | he
    · exact W.rl e he
    · rw [List.mem_singleton.mp he]
      exact fun z => hn (W.rs _ z).1
theorem sum_set {μ : LE → Nat} : ∀ {es : List LE} {m : Nat} {e e' : LE}, es[m]? = some e → μ e' ≤ μ e + 1 → ((es.set m e').map μ).sum ≤ (es.map μ).sum + 1
  | [], m, e, e', h, _ => by simp at h
  | a :: es, 0, e, e', h, k => by
    cases h
    show μ e' + (es.map μ).sum ≤ μ a + (es.map μ).sum + 1
    omega
  | a :: es, m + 1, e, e', h, k => by
    have := sum_set (es := es) (m := m) h k
    show μ a + ((es.set m e').map μ).sum ≤ μ a + (es.map μ).sum + 1
    omega
theorem map_set_same {β : Type} {g : LE → β} {es : List LE} {m : Nat} {e e' : LE} (he : es[m]? = some e) (hg : g e' = g e) : (es.set m e').map g = es.map g := by
  rw [List.map_set]
  apply List.ext_getElem?
  intro j
  rw [List.getElem?_set, List.getElem?_map]
  by_cases hj : m = j
  · subst hj
    rw [he, if_pos rfl, List.length_map, if_pos (List.getElem?_eq_some_iff.mp he).1, hg]
    rfl
  · rw [if_neg hj]
theorem mem_set_or {es : List LE} {m : Nat} {e' x : LE} (h : x ∈ es.set m e') : x = e' ∨ x ∈ es := by
  obtain ⟨j, hj⟩ := List.mem_iff_getElem?.mp h
  rw [List.getElem?_set] at hj
  split at hj
  · split at hj
    · exact .inl (Option.some.inj hj).symm
    · cases hj
  · exact .inr (List.mem_of_getElem? hj)
/-- a line that has grown -/
theorem Wld.grown (W : Wld nodes ns es h k) {m : Nat} {e : LE} {l : Ln} (he : es[m]? = some e) (hn : l.n = e.2.2.n) (hl : LnOk nodes l) (hm : max l.f.length l.t.length ≤ mu e + 1) : Wld nodes ns (es.set m (e.1, e.2.1, l)) (h + 1) k := by
  have hme := List.mem_of_getElem? he
  refine ⟨W.nd, W.good, W.nn, ?_, ?_, ?_, by rw [List.length_set]; exact W.le, ?_, ?_, by rw [List.length_set]; exact W.ct, W.rs, ?_, W.rd⟩
  · rw [map_set_same (e' := (e.1, e.2.1, l)) he rfl]; exact W.ad
  · rw [map_set_same (e' := (e.1, e.2.1, l)) he hn]; exact W.ln
  · intro x hx
    rcases mem_set_or hx with rfl | hx
    · show l.n ∈ ns ∧ l.n ∉ nodes
      rw [hn]
      exact W.li e hme
    · exact W.li x hx
  · intro x hx
    rcases mem_set_or hx with rfl | hx
    · exact hl
    · exact W.ok x hx
  · have := sum_set (μ := mu) (e' := (e.1, e.2.1, l)) he hm
    have := W.cn
    omega
  · intro x hx
    rcases mem_set_or hx with rfl | hx
    · show l.n ∉ k
      rw [hn]
      exact W.rl e hme
    · exact W.rl x hx
theorem ext_set {m : Nat} {e : LE} {l : Ln} (he : es[m]? = some e) (hx : LnExt e.2.2 l) : EsExt es (es.set m (e.1, e.2.1, l)) := fun x hx' => by
  have hm := (List.getElem?_eq_some_iff.mp he).1
  obtain ⟨j, hj⟩ := List.mem_iff_getElem?.mp hx'
  by_cases e1 : m = j
  · subst e1
    rw [he] at hj
    cases hj
    exact ⟨_, List.mem_of_getElem? (show (es.set m _)[m]? = some (e.1, e.2.1, l) from List.getElem?_set_self hm), hx⟩
  · exact ⟨x, List.mem_of_getElem? (show (es.set m _)[j]? = some x by rw [List.getElem?_set_ne e1]; exact hj), .refl _⟩
theorem Wld.mono (W : Wld nodes ns es h k) {h' : Nat} (hh : h ≤ h') : Wld nodes ns es h' k := ⟨W.nd, W.good, W.nn, W.ad, W.ln, W.li, W.le, W.ok, Nat.le_trans W.cn hh, W.ct, W.rs, W.rl, W.rd⟩
end
theorem set_self {es : List LE} {m : Nat} {e : LE} (h : es[m]? = some e) : es.set m e = es := by
  apply List.ext_getElem?
  intro j
  rw [List.getElem?_set]
  by_cases hj : m = j
  · subst hj
    rw [if_pos rfl, if_pos (List.getElem?_eq_some_iff.mp h).1, h]
  · rw [if_neg hj]
/-- a name more: a frame's -/
theorem Wld.named {nodes ns : List Str} {es : List LE} {h : Nat} {k : List Str} (W : Wld nodes ns es h k) {nm : Str} (hg : GoodN nm) (hn : nm ∉ ns) : Wld nodes (ns ++ [nm]) es h (k ++ [nm]) := by
  refine ⟨?_, ?_, fun x hx => List.mem_append_left _ (W.nn x hx), W.ad, W.ln, fun e he => ⟨List.mem_append_left _ (W.li e he).1, (W.li e he).2⟩, W.le, W.ok, W.cn, ?_, ?_, ?_, ?_⟩
  · refine List.nodup_append.mpr ⟨W.nd, by simp, fun a ha b hb e => ?_⟩
    rw [List.mem_singleton.mp hb] at e
    exact hn (e ▸ ha)
  · intro w hw
    rcases List.mem_append.mp hw with hw | hw
    · exact W.good w hw
    · rw [List.mem_singleton.mp hw]; exact hg
  · have := W.ct
    rw [List.length_append, List.length_append, List.length_singleton]
    omega
  · intro y hy
    rcases List.mem_append.mp hy with hy | hy
    · exact ⟨List.mem_append_left _ (W.rs y hy).1, (W.rs y hy).2⟩
    · rw [List.mem_singleton.mp hy]
      exact ⟨List.mem_append_right _ (List.mem_singleton.mpr rfl), fun z => hn (W.nn _ z)⟩
  · intro e he z
    rcases List.mem_append.mp z with z | z
    · exact W.rl e he z
    · exact hn (List.mem_singleton.mp z ▸ (W.li e he).1)
  · refine List.nodup_append.mpr ⟨W.rd, by simp, fun a ha b hb e => ?_⟩
    rw [List.mem_singleton.mp hb] at e
    exact hn (e ▸ (W.rs a ha).1)
theorem hop_A (T : Tx K mg base) {nodes ns barred bl : List Str} {es : List LE} {h : Nat} {k : List Str} {one two : Str} {q : AV → List AV → Prop} {x : Exn → List AV → Prop} (W : Wld nodes ns es h k) (hk : nodes.length + k.length ≤ 80) (h1 : one ∈ nodes) (h2 : two ∈ nodes) (hh : h < 48) (h5 : bl.length ≤ 5) (hb : ∀ e ∈ es, e.2.2.n ∈ barred → e.2.2.n ∈ bl) (hbn : ∀ y ∈ barred, y ∈ ns)
    (hq : ∀ nm ns' es', Wld nodes ns' es' (h + 1) k → EsExt es es' → (∀ y ∈ ns, y ∈ ns') → nm ∉ barred → (∃ e ∈ es', e.2.2.n = nm ∧ one ∈ e.2.2.f ∧ two ∈ e.2.2.t) → q (.fz (.str nm)) [.dr, .ol (ns'.map .str), lnsAV es', .fz (.str one), .fz (.str two), .fz (.lst (barred.map .str))]) :
    A_law_hop T [.dr, .ol (ns.map .str), lnsAV es, .fz (.str one), .fz (.str two), .fz (.lst (barred.map .str))] q x := by
  refine A_law_hop_of T _ _ _ _ _ _ ?_
  have le := W.le
  unfold b_law_hop
  walk_at "aw"
  rw [lns_seens es]
  refine comp_filt (fit1 barred one) (fun e => .adr e.1) (by show 0 + _ ≤ _; omega) (fun e he Q A hT hF => ?_) ?_
  · obtain ⟨m, hm⟩ := List.mem_iff_getElem?.mp he
    walk_at "aw"
    refine w_ln0 W.ad hm rfl rfl ?_
    walk_at "aw"
    refine w_ninL rfl (flats_str _) ?_
    rw [inF_str]
    walk_at "aw"
    refine cond_dec (fun hc => ?_) (fun hc => ?_)
    · walk_at "aw"
      exact hF (by simp [fit1, hc])
    · walk_at "aw"
      refine w_ln1 W.ad hm rfl rfl ?_
      walk_at "aw"
      refine w_inL rfl (flats_str _) ?_
      rw [inF_str]
      walk_at "aw"
      refine cond_dec (fun hc2 => ?_) (fun hc2 => ?_)
      · walk_at "aw"
        exact hT (by simp [fit1, hc, hc2])
      · walk_at "aw"
        refine w_ln1 W.ad hm rfl rfl ?_
        walk_at "aw"
        rw [List.length_map]
        refine cond_dec (fun hc3 => ?_) (fun hc3 => ?_)
        · walk_at "aw"
          exact hT (by simp [fit1, hc, show e.2.2.f.length < 6 by omega])
        · walk_at "aw"
          exact hF (by simp [fit1, hc2, show ¬ e.2.2.f.length < 6 by omega])
  rw [List.nil_append]
  have lf1 : (es.filter (fit1 barred one)).length ≤ es.length := List.length_filter_le _ _
  walk_at "aw"
  refine comp_filt (fit2 two) (fun e => .adr e.1) (by show 0 + _ ≤ _; omega) (fun e he0 Q A hT hF => ?_) ?_
  · have he := (List.mem_filter.mp he0).1
    obtain ⟨m, hm⟩ := List.mem_iff_getElem?.mp he
    walk_at "aw"
    refine w_ln2 W.ad hm rfl rfl ?_
    walk_at "aw"
    refine w_inL rfl (flats_str _) ?_
    rw [inF_str]
    walk_at "aw"
    refine cond_dec (fun hc2 => ?_) (fun hc2 => ?_)
    · walk_at "aw"
      exact hT (by simp [fit2, hc2])
    · walk_at "aw"
      refine w_ln2 W.ad hm rfl rfl ?_
      walk_at "aw"
      rw [List.length_map]
      refine cond_dec (fun hc3 => ?_) (fun hc3 => ?_)
      · walk_at "aw"
        exact hT (by simp [fit2, show e.2.2.t.length < 6 by omega])
      · walk_at "aw"
        exact hF (by simp [fit2, hc2, show ¬ e.2.2.t.length < 6 by omega])
  rw [List.nil_append]
  have lf2 : ((es.filter (fit1 barred one)).filter (fit2 two)).length ≤ (es.filter (fit1 barred one)).length := List.length_filter_le _ _
  have fitE : ∀ e ∈ (es.filter (fit1 barred one)).filter (fit2 two), e ∈ es ∧ fit1 barred one e = true ∧ fit2 two e = true := fun e he => ⟨(List.mem_filter.mp (List.mem_filter.mp he).1).1, (List.mem_filter.mp (List.mem_filter.mp he).1).2, (List.mem_filter.mp he).2⟩
  have fitN : ¬ es.length < 14 → (es.filter (fit1 barred one)).filter (fit2 two) ≠ [] := W.fit hh h5 hb
  generalize (es.filter (fit1 barred one)).filter (fit2 two) = fs at fitE fitN lf2
  have ct := W.ct
  -- the second way: a line that fits is taken
  have take : fs ≠ [] → ∀ (v7 : Option AV) (N : AEnds), (∀ av ρ, N.rt av ρ = q av (mrg [.dr, .ol (ns.map .str), lnsAV es, .fz (.str one), .fz (.str two), .fz (.lst (barred.map .str))] (selM [true, true, true, false, false, false] ρ))) →
      aSeq (aSet 7 (aFz (aCall0 (A_law_pick T) (aSlot 0 (aArg (aVar 6) aArgs))))) (aSeq (aIf (aTest (aOp oNotIn (aVar 3) (aLn 2 7 1))) (aAppLn 2 7 1 (aVar 3)) aNext) (b_law_hop_2 T)) N [some .dr, some (.ol (ns.map .str)), some (lnsAV es), some (.fz (.str one)), some (.fz (.str two)), some (.fz (.lst (barred.map .str))), some (.fz (.lst (fs.map fun e => .adr e.1))), v7] := fun fne v7 N hr => by
    obtain ⟨nx, rt, bk, ct', ex⟩ := N
    walk_at "aw"
    refine pick_A T (by rw [List.length_map]; exact List.length_pos_iff.mpr fne) (by rw [List.length_map]; omega) fun d hd => ?_
    obtain ⟨e, he, rfl⟩ := List.mem_map.mp hd
    obtain ⟨hes, ff1, ff2⟩ := fitE e he
    obtain ⟨m, hm⟩ := List.mem_iff_getElem?.mp hes
    have ok := W.ok e hes
    have hml := (List.getElem?_eq_some_iff.mp hm).1
    have nb : e.2.2.n ∉ barred := by
      unfold fit1 at ff1
      rw [Bool.and_eq_true, Bool.not_eq_true', decide_eq_false_iff_not] at ff1
      exact ff1.1
    have hf6 : one ∉ e.2.2.f → e.2.2.f.length < 6 := fun hc => by
      unfold fit1 at ff1
      rw [Bool.and_eq_true, Bool.or_eq_true, decide_eq_true_iff, decide_eq_true_iff] at ff1
      exact ff1.2.resolve_left hc
    have ht6 : two ∉ e.2.2.t → e.2.2.t.length < 6 := fun hc => by
      unfold fit2 at ff2
      rw [Bool.or_eq_true, decide_eq_true_iff, decide_eq_true_iff] at ff2
      exact ff2.resolve_left hc
    walk_at "aw"
    -- behind the first: the line l
    have rest : ∀ (l : Ln), l.n = e.2.2.n → LnOk nodes l → LnExt e.2.2 l → one ∈ l.f → l.t = e.2.2.t → l.f.length ≤ e.2.2.f.length + 1 → b_law_hop_2 T ⟨nx, rt, bk, ct', ex⟩ [some .dr, some (.ol (ns.map .str)), some (lnsAV (es.set m (e.1, e.2.1, l))), some (.fz (.str one)), some (.fz (.str two)), some (.fz (.lst (barred.map .str))), some (.fz (.lst (fs.map fun e => .adr e.1))), some (.fz (.adr e.1))] := fun l ln lok lx l1 lt lm => by
      have hm2 : (es.set m (e.1, e.2.1, l))[m]? = some (e.1, e.2.1, l) := List.getElem?_set_self hml
      have nd2 : ((es.set m (e.1, e.2.1, l)).map (·.1)).Nodup := by rw [map_set_same (e' := (e.1, e.2.1, l)) hm rfl]; exact W.ad
      unfold b_law_hop_2
      walk_at "aw"
      refine w_ln2 nd2 hm2 rfl rfl ?_
      walk_at "aw"
      refine w_ninL rfl (flats_str _) ?_
      rw [inF_str]
      walk_at "aw"
      refine cond_dec (fun hc2 => ?_) (fun hc2 => ?_)
      · walk_at "aw"
        unfold b_law_hop_1
        walk_at "aw"
        refine w_lnE0 nd2 hm2 rfl rfl ?_
        rw [show rt _ _ = q _ _ from hr _ _]
        refine hq l.n ns _ (W.grown hm ln lok (by unfold mu; rw [lt]; omega)) (ext_set hm lx) (fun _ hy => hy) (by rw [ln]; exact nb) ⟨_, List.mem_of_getElem? hm2, rfl, l1, hc2⟩
      · walk_at "aw"
        have hc3 : two ∉ e.2.2.t := by rw [← lt]; exact hc2
        refine w_appLn2 nd2 hm2 rfl rfl rfl (by show l.t.length < _; rw [lt]; have := ht6 hc3; omega) ?_
        rw [List.set_set]
        have hm3 : (es.set m (e.1, e.2.1, { l with t := l.t ++ [two] }))[m]? = some (e.1, e.2.1, { l with t := l.t ++ [two] }) := List.getElem?_set_self hml
        have nd3 : ((es.set m (e.1, e.2.1, { l with t := l.t ++ [two] })).map (·.1)).Nodup := by rw [map_set_same (e' := (e.1, e.2.1, { l with t := l.t ++ [two] })) hm rfl]; exact W.ad
        unfold b_law_hop_1
        walk_at "aw"
        refine w_lnE0 nd3 hm3 rfl rfl ?_
        rw [show rt _ _ = q _ _ from hr _ _]
        have l6 := ht6 hc3
        refine hq l.n ns _ (W.grown hm ln ⟨lok.f0, lok.fn, lok.fi, lok.f6, by simp, ?_, ?_, ?_, lok.w0, lok.w4⟩ ?_) (ext_set hm ⟨lx.n, lx.w, lx.f, fun y hy => List.mem_append_left _ (lx.t y hy)⟩) (fun _ hy => hy) (by rw [ln]; exact nb) ⟨_, List.mem_of_getElem? hm3, rfl, l1, List.mem_append_right _ (List.mem_singleton.mpr rfl)⟩
        · refine List.nodup_append.mpr ⟨lok.tn, by simp, fun a ha b hb' z => ?_⟩
          rw [List.mem_singleton.mp hb'] at z
          exact hc2 (z ▸ ha)
        · intro y hy
          rcases List.mem_append.mp hy with hy | hy
          · exact lok.ti y hy
          · rw [List.mem_singleton.mp hy]; exact h2
        · show (l.t ++ [two]).length ≤ 6
          rw [List.length_append, List.length_singleton, lt]
          omega
        · show max l.f.length (l.t ++ [two]).length ≤ _
          rw [List.length_append, List.length_singleton, lt]
          unfold mu
          omega
    refine w_ln1 W.ad hm rfl rfl ?_
    walk_at "aw"
    refine w_ninL rfl (flats_str _) ?_
    rw [inF_str]
    walk_at "aw"
    refine cond_dec (fun hc => ?_) (fun hc => ?_)
    · walk_at "aw"
      have := rest e.2.2 rfl ok (.refl _) hc rfl (by omega)
      rw [show es.set m (e.1, e.2.1, e.2.2) = es from set_self hm] at this
      exact this
    · walk_at "aw"
      have l6 := hf6 hc
      refine w_appLn1 W.ad hm rfl rfl rfl (by omega) ?_
      refine rest { e.2.2 with f := e.2.2.f ++ [one] } rfl ⟨by simp, ?_, ?_, ?_, ok.t0, ok.tn, ok.ti, ok.t6, ok.w0, ok.w4⟩ ⟨rfl, rfl, fun y hy => List.mem_append_left _ hy, fun y hy => hy⟩ (List.mem_append_right _ (List.mem_singleton.mpr rfl)) rfl (by show (e.2.2.f ++ [one]).length ≤ _; rw [List.length_append, List.length_singleton]; omega)
      · refine List.nodup_append.mpr ⟨ok.fn, by simp, fun a ha b hb' z => ?_⟩
        rw [List.mem_singleton.mp hb'] at z
        exact hc (z ▸ ha)
      · intro y hy
        rcases List.mem_append.mp hy with hy | hy
        · exact ok.fi y hy
        · rw [List.mem_singleton.mp hy]; exact h1
      · show (e.2.2.f ++ [one]).length ≤ 6
        rw [List.length_append, List.length_singleton]
        omega
  -- a new line
  have make : es.length < 14 → ∀ (v7 : Option AV) (N : AEnds), (∀ av ρ, N.rt av ρ = q av (mrg [.dr, .ol (ns.map .str), lnsAV es, .fz (.str one), .fz (.str two), .fz (.lst (barred.map .str))] (selM [true, true, true, false, false, false] ρ))) →
      aSeq (mAppN 2 (mLstO (mConsO (mUp (mFz (mCall0 (A_law_name T) (aSlot 0 (aSlotO 1 aArgs))))) (mConsO (mO (aLst (aCons (aVar 3) aNil))) (mConsO (mO (aLst (aCons (aVar 4) aNil))) (mConsO (mUp (mE (aFz (aCall0 (A_law_draw T) (aSlot 0 (aArg (aC (.int 4)) aArgs)))))) mNilO)))))) (aRet (aOnIx 2 (aUn oNeg (aC (.int 1))) 0)) N [some .dr, some (.ol (ns.map .str)), some (.on (es.map fun e => .ref e.1) (es.map fun e => e.2.2.av e.2.1)), some (.fz (.str one)), some (.fz (.str two)), some (.fz (.lst (barred.map .str))), some (.fz (.lst (fs.map fun e => .adr e.1))), v7] := fun h14 v7 N hr => by
    obtain ⟨nx, rt, bk, ct', ex⟩ := N
    walk_at "aw"
    refine name_A T (by omega) fun nm hg hn => ?_
    dsimp only [putA, List.set_cons_zero, List.set_cons_succ]
    walk_at "aw"
    refine w_draw (by omega) (by omega) fun r r0 r1 => ?_
    walk_at "aw"
    intro vs hvs
    walk_at "aw"
    refine ⟨by rw [List.length_map]; omega, rfl, fun p hp => ?_⟩
    walk_at "aw"
    have hpe : ∀ e ∈ es, e.1 ≠ p := fun e he z => by
      obtain ⟨m, hm⟩ := List.mem_iff_getElem?.mp he
      refine hp m _ _ (lns_at hm) ?_
      rw [List.getElem?_map, hm, ← z]
      rfl
    refine w_onQ rfl ?_
    walk_at "aw"
    rw [L2.atI_last]
    show rt (.fz (.str nm)) _
    rw [show rt _ _ = q _ _ from hr _ _]
    have Wn := W.new (vs := vs) (wi := r) hpe h14 hg hn h1 h2 r0 r1
    have hfin := hq nm (ns ++ [nm]) (es ++ [(p, vs, ⟨nm, [one], [two], r⟩)]) Wn (fun e he => ⟨e, List.mem_append_left _ he, .refl _⟩) (fun y hy => List.mem_append_left _ hy) (fun z => hn (hbn _ z)) ⟨_, List.mem_append_right _ (List.mem_singleton.mpr rfl), rfl, List.mem_singleton.mpr rfl, List.mem_singleton.mpr rfl⟩
    unfold lnsAV at hfin
    rw [List.map_append (l₁ := es), List.map_append (l₁ := es)] at hfin
    exact hfin
  walk_at "aw"
  rw [lns_seens es, List.length_map]
  refine cond_dec (fun hc => ?_) (fun hc => ?_)
  · walk_at "aw"
    rw [List.length_map]
    refine cond_dec (fun hc2 => ?_) (fun hc2 => ?_)
    · refine make ?_ _ _ ?_
      · omega
      · exact fun _ _ => rfl
    · walk_at "aw"
      have fne : fs ≠ [] := fun z => hc2 (by rw [z]; rfl)
      refine w_draw (by omega) (by omega) fun r r0 r1 => ?_
      walk_at "aw"
      refine cond_dec (fun hc3 => ?_) (fun hc3 => ?_)
      · refine make ?_ _ _ ?_
        · omega
        · exact fun _ _ => rfl
      · refine take fne _ _ ?_
        exact fun _ _ => rfl
  · refine take (fitN (by omega)) _ _ ?_
    exact fun _ _ => rfl
def flat (a : Str) (hs : List (Str × Str)) : List Str := a :: hs.flatMap fun p => [p.1, p.2]
def lastN : Str → List (Str × Str) → Str
  | a, [] => a
  | _, p :: r => lastN p.2 r
def HopAt (es : List LE) (a l b : Str) : Prop := ∃ e ∈ es, e.2.2.n = l ∧ a ∈ e.2.2.f ∧ b ∈ e.2.2.t
def HopsOk (es : List LE) : Str → List (Str × Str) → Prop
  | _, [] => True
  | a, p :: r => HopAt es a p.1 p.2 ∧ HopsOk es p.2 r
theorem HopAt.ext {es es' : List LE} {a l b : Str} (h : HopAt es a l b) (x : EsExt es es') : HopAt es' a l b := by
  obtain ⟨e, he, h1, h2, h3⟩ := h
  obtain ⟨e', he', k⟩ := x e he
  exact ⟨e', he', k.n.trans h1, k.f _ h2, k.t _ h3⟩
theorem HopsOk.ext {es es' : List LE} (x : EsExt es es') : ∀ {hs : List (Str × Str)} {a : Str}, HopsOk es a hs → HopsOk es' a hs
  | [], _, _ => trivial
  | _ :: _, _, h => ⟨h.1.ext x, HopsOk.ext x h.2⟩
theorem HopsOk.snoc {es : List LE} {l b : Str} : ∀ {hs : List (Str × Str)} {a : Str}, HopsOk es a hs → HopAt es (lastN a hs) l b → HopsOk es a (hs ++ [(l, b)])
  | [], _, _, k => ⟨k, trivial⟩
  | _ :: _, _, h, k => ⟨h.1, HopsOk.snoc h.2 k⟩
theorem flat_snoc (a l b : Str) (hs : List (Str × Str)) : flat a (hs ++ [(l, b)]) = flat a hs ++ [l, b] := by
  unfold flat
  rw [List.flatMap_append]
  rfl
theorem flat_end : ∀ (a : Str) (hs : List (Str × Str)), ∃ r, flat a hs = r ++ [lastN a hs]
  | a, [] => ⟨[], rfl⟩
  | a, p :: hs => by
    obtain ⟨r, e⟩ := flat_end p.2 hs
    refine ⟨a :: p.1 :: r, ?_⟩
    show a :: p.1 :: (flat p.2 hs) = _
    rw [e]
    rfl
theorem flat_last (a : Str) (hs : List (Str × Str)) : atI ((flat a hs).map D.str) (-1) = some (.str (lastN a hs)) := by
  obtain ⟨r, e⟩ := flat_end a hs
  rw [e, List.map_append]
  exact L2.atI_last _ _
theorem flat_len (a : Str) (hs : List (Str × Str)) : (flat a hs).length = 1 + 2 * hs.length := by
  unfold flat
  induction hs with
  | nil => rfl
  | cons p hs ih =>
    rw [List.length_cons] at ih
    rw [List.flatMap_cons, List.length_cons, List.length_append, List.length_cons (a := p)]
    show 2 + _ + 1 = _
    omega
theorem flat_mem {a x : Str} {hs : List (Str × Str)} : x ∈ flat a hs ↔ x = a ∨ ∃ p ∈ hs, x = p.1 ∨ x = p.2 := by
  unfold flat
  rw [List.mem_cons, List.mem_flatMap]
  constructor
  · rintro (h | ⟨p, hp, h⟩)
    · exact .inl h
    · refine .inr ⟨p, hp, ?_⟩
      simpa using h
  · rintro (h | ⟨p, hp, h⟩)
    · exact .inl h
    · exact .inr ⟨p, hp, by simpa using h⟩
structure WayOk (gates nodes barred ns : List Str) (es : List LE) (a z : Str) (hs : List (Str × Str)) : Prop where
  len : 1 ≤ hs.length ∧ hs.length ≤ 3
  ho : HopsOk es a hs
  nd : (flat a hs).Nodup
  li : ∀ p ∈ hs, p.1 ∈ ns ∧ p.1 ∉ nodes ∧ p.1 ∉ barred
  la : ∃ hs0 l, hs = hs0 ++ [(l, z)] ∧ ∀ p ∈ hs0, p.2 ∈ gates ∧ p.2 ∉ barred
theorem WayOk.ext {gates nodes barred ns ns' : List Str} {es es' : List LE} {a z : Str} {hs : List (Str × Str)} (h : WayOk gates nodes barred ns es a z hs) (x : EsExt es es') (n : ∀ y ∈ ns, y ∈ ns') : WayOk gates nodes barred ns' es' a z hs :=
  ⟨h.len, h.ho.ext x, h.nd, fun p hp => ⟨n _ (h.li p hp).1, (h.li p hp).2⟩, h.la⟩
theorem len_drop : ∀ {l : List Str} {g : Str}, l.Nodup → g ∈ l → (l.filter fun o => !decide (o = g)).length + 1 = l.length
  | [], g, _, h => by cases h
  | y :: l, g, nd, h => by
    obtain ⟨n1, n2⟩ := List.nodup_cons.mp nd
    by_cases e : y = g
    · subst e
      rw [List.filter_cons_of_neg (by simp), List.length_cons]
      have : l.filter (fun o => !decide (o = y)) = l := List.filter_eq_self.mpr fun o ho => by
        have : o ≠ y := fun z => n1 (z ▸ ho)
        simp [this]
      rw [this]
    · rw [List.filter_cons_of_pos (by simp [e]), List.length_cons, List.length_cons, len_drop n2 ((List.mem_cons.mp h).resolve_left fun z => e z.symm)]
theorem lastN_mem {nodes gates : List Str} {a : Str} (ha : a ∈ nodes) (hg : ∀ g ∈ gates, g ∈ nodes) : ∀ {hs : List (Str × Str)}, (∀ p ∈ hs, p.2 ∈ gates) → lastN a hs ∈ nodes := fun {hs} h => by
  induction hs generalizing a with
  | nil => exact ha
  | cons p r ih => exact ih (hg _ (h p List.mem_cons_self)) fun y hy => h y (List.mem_cons_of_mem _ hy)
/-- the hop's own line is new on the way -/
theorem hop_new {nodes ns gates barred : List Str} {es : List LE} {h : Nat} {k : List Str} (W : Wld nodes ns es h k) {nm a b : Str} (hp : HopAt es a nm b) : nm ∈ ns ∧ nm ∉ nodes := by
  obtain ⟨e, he, rfl, _⟩ := hp
  exact W.li e he
theorem way_A (T : Tx K mg base) {nodes ns gates barred bl : List Str} {es : List LE} {h : Nat} {k : List Str} {a z : Str} {q : AV → List AV → Prop} {x : Exn → List AV → Prop} (W : Wld nodes ns es h k) (hk : nodes.length + k.length ≤ 80) (hg : ∀ g ∈ gates, g ∈ nodes) (hgn : gates.Nodup) (hgl : gates.length ≤ 100) (ha : a ∈ nodes) (hz : z ∈ nodes) (haz : a ≠ z) (hag : a ∉ gates) (hzg : z ∉ gates) (hh : h + 3 ≤ 48) (bl3 : bl.length ≤ 3) (hb0 : ∀ y ∈ barred, y ∈ ns ∧ (y ∈ bl ∨ y ∈ nodes)) (hbl : barred.length ≤ 100)
    (hq : ∀ hs ns' es', Wld nodes ns' es' (h + 3) k → EsExt es es' → (∀ y ∈ ns, y ∈ ns') → WayOk gates nodes barred ns' es' a z hs → q (.fz (.tup ((flat a hs).map .str))) [.dr, .ol (ns'.map .str), lnsAV es', .fz (.lst (gates.map .str)), .fz (.str a), .fz (.str z), .fz (.lst (barred.map .str))]) :
    A_law_way T [.dr, .ol (ns.map .str), lnsAV es, .fz (.lst (gates.map .str)), .fz (.str a), .fz (.str z), .fz (.lst (barred.map .str))] q x := by
  refine A_law_way_of T _ _ _ _ _ _ _ ?_
  unfold b_law_way
  walk_at "aw"
  refine comp_filt (fun g => !decide (g ∈ barred)) D.str (by show 0 + _ ≤ _; omega) (fun g hg' Q A hT hF => ?_) ?_
  · walk_at "aw"
    refine w_ninL rfl (flats_str _) ?_
    rw [inF_str]
    walk_at "aw"
    refine cond_dec (fun hc => ?_) (fun hc => ?_)
    · walk_at "aw"
      exact hF (by simp [hc])
    · walk_at "aw"
      exact hT (by simp [hc])
  rw [List.nil_append]
  have f0 : ∀ g ∈ gates.filter (fun g => !decide (g ∈ barred)), g ∈ gates ∧ g ∉ barred := fun g hg' => by
    obtain ⟨h1, h2⟩ := List.mem_filter.mp hg'
    exact ⟨h1, by simpa using h2⟩
  have fn0 : (gates.filter (fun g => !decide (g ∈ barred))).Nodup := List.filter_sublist.nodup hgn
  have fl0 : (gates.filter (fun g => !decide (g ∈ barred))).length ≤ gates.length := List.length_filter_le _ _
  generalize gates.filter (fun g => !decide (g ∈ barred)) = free0 at f0 fn0 fl0
  walk_at "aw"
  refine w_draw (by omega) (by omega) fun r r0 r1 => ?_
  walk_at "aw"
  rw [List.length_map]
  obtain ⟨n, en, n2, nf⟩ : ∃ n : Nat, (if ((free0.length : Nat) : Int) < r then ((free0.length : Nat) : Int) else r) = (n : Int) ∧ n ≤ 2 ∧ n ≤ free0.length := by
    split
    · exact ⟨free0.length, rfl, by omega, Nat.le_refl _⟩
    · exact ⟨r.toNat, by omega, by omega, by omega⟩
  rw [en]
  refine ⟨⟨by omega, by omega⟩, ?_⟩
  rw [Int.toNat_natCast]
  refine loop_rng (fun i ρ => ∃ (hs : List (Str × Str)) (ns' free : List Str) (es' : List LE) (v9 v10 v11 : Option AV), ρ = [some .dr, some (.ol (ns'.map .str)), some (lnsAV es'), some (.fz (.lst (gates.map .str))), some (.fz (.str a)), some (.fz (.str z)), some (.fz (.lst (barred.map .str))), some (.fz (.lst (free.map .str))), some (.ol ((flat a hs).map .str)), v9, v10, v11] ∧
    hs.length = i ∧ Wld nodes ns' es' (h + i) k ∧ EsExt es es' ∧ (∀ y ∈ ns, y ∈ ns') ∧ HopsOk es' a hs ∧ (flat a hs).Nodup ∧ (∀ p ∈ hs, (p.1 ∈ ns' ∧ p.1 ∉ nodes ∧ p.1 ∉ barred) ∧ (p.2 ∈ gates ∧ p.2 ∉ barred)) ∧ free.Nodup ∧ free.length + i = free0.length ∧ (∀ g ∈ free, g ∈ gates ∧ g ∉ barred ∧ g ∉ flat a hs)) ?_ ?_ ?_
  · refine ⟨[], ns, free0, es, none, none, none, rfl, rfl, W, .refl _, fun _ hy => hy, trivial, by simp [flat], fun p hp => (by cases hp), fn0, rfl, fun g hg' => ⟨(f0 g hg').1, (f0 g hg').2, fun zz => hag ?_⟩⟩
    rw [← List.mem_singleton.mp zz]
    exact (f0 g hg').1
  · rintro i ρ K' hi ⟨hs, ns', free, es', v9, v10, v11, rfl, hl, W', ext, nsub, ho, nd, hp, fnd, fl, fg⟩ hK
    walk_at "aw"
    refine pick_A T (by rw [List.length_map]; omega) (by rw [List.length_map]; omega) fun d hd => ?_
    obtain ⟨g, hgf, rfl⟩ := List.mem_map.mp hd
    obtain ⟨g1, g2, g3⟩ := fg g hgf
    walk_at "aw"
    refine comp_filt (fun o => !decide (o = g)) D.str (by show 0 + _ ≤ _; omega) (fun o ho' Q A hT hF => ?_) ?_
    · walk_at "aw"
      refine cond_dec (fun hc => ?_) (fun hc => ?_)
      · walk_at "aw"
        exact hF (by simp [hc])
      · walk_at "aw"
        exact hT (by simp [hc])
    rw [List.nil_append]
    have fr : ∀ o ∈ free.filter (fun o => !decide (o = g)), o ∈ free ∧ o ≠ g := fun o ho' => by
      obtain ⟨h1, h2⟩ := List.mem_filter.mp ho'
      exact ⟨h1, by simpa using h2⟩
    have frn : (free.filter (fun o => !decide (o = g))).Nodup := List.filter_sublist.nodup fnd
    have frl : (free.filter (fun o => !decide (o = g))).length + 1 = free.length := len_drop fnd hgf
    generalize free.filter (fun o => !decide (o = g)) = free2 at fr frn frl
    walk_at "aw"
    refine w_ixL (flat_last a hs) ?_
    walk_at "aw"
    have fll := flat_len a hs
    refine w_cat (by rw [List.length_map, List.length_map]; omega) ?_
    rw [← List.map_append]
    walk_at "aw"
    refine hop_A T (bl := bl ++ hs.map (·.1)) W' hk (lastN_mem ha hg fun p hp' => (hp p hp').2.1) (hg g g1) (by omega) (by rw [List.length_append, List.length_map]; omega) (fun e he hb => ?_) (fun y hy => ?_) ?_
    · have nn := (W'.li e he).2
      rcases List.mem_append.mp hb with hb | hb
      · rcases (hb0 _ hb).2 with hb | hb
        · exact List.mem_append_left _ hb
        · exact absurd hb nn
      · rcases flat_mem.mp hb with hb | ⟨p, hp', hb | hb⟩
        · exact absurd (hb ▸ ha) nn
        · exact List.mem_append_right _ (List.mem_map.mpr ⟨p, hp', hb.symm⟩)
        · exact absurd (hb ▸ hg _ (hp p hp').2.1) nn
    · rcases List.mem_append.mp hy with hy | hy
      · exact nsub _ (hb0 _ hy).1
      · rcases flat_mem.mp hy with rfl | ⟨p, hp', rfl | rfl⟩
        · exact W'.nn _ ha
        · exact (hp p hp').1.1
        · exact W'.nn _ (hg _ (hp p hp').2.1)
    · intro nm ns2 es2 W2 ext2 sub2 nb2 hop2
      dsimp only [putA, List.set_cons_zero, List.set_cons_succ]
      walk_at "aw"
      refine ⟨by rw [List.length_map]; omega, ?_⟩
      walk_at "aw"
      refine ⟨by rw [List.length_append, List.length_map, List.length_singleton]; omega, ?_⟩
      walk_at "aw"
      have e1 : ((flat a hs).map D.str ++ [.str nm]) ++ [.str g] = (flat a (hs ++ [(nm, g)])).map .str := by
        rw [flat_snoc, List.map_append, List.append_assoc]
        rfl
      rw [e1]
      obtain ⟨nmi, nmn⟩ := hop_new (gates := gates) (barred := barred) W2 hop2
      have nmf : nm ∉ flat a hs := fun zz => nb2 (List.mem_append_right _ zz)
      have nmb : nm ∉ barred := fun zz => nb2 (List.mem_append_left _ zz)
      have nmg : nm ≠ g := fun zz => nmn (zz ▸ hg g g1)
      refine hK _ ⟨hs ++ [(nm, g)], ns2, free2, es2, _, _, _, rfl, by rw [List.length_append, hl]; rfl, W2, ext.trans ext2, fun y hy => sub2 y (nsub y hy), (ho.ext ext2).snoc hop2, ?_, fun p hp' => ?_, frn, by omega, fun o ho' => ?_⟩
      · rw [flat_snoc]
        refine List.nodup_append.mpr ⟨nd, by simp [nmg], fun y hy w hw zz => ?_⟩
        subst zz
        rcases List.mem_cons.mp hw with rfl | hw
        · exact nmf hy
        · rw [List.mem_singleton.mp hw] at hy
          exact g3 hy
      · rcases List.mem_append.mp hp' with hp' | hp'
        · obtain ⟨⟨x1, x2⟩, x3⟩ := hp p hp'
          exact ⟨⟨sub2 _ x1, x2⟩, x3⟩
        · rw [List.mem_singleton.mp hp']
          exact ⟨⟨nmi, nmn, nmb⟩, g1, g2⟩
      · obtain ⟨o1, o2⟩ := fr o ho'
        obtain ⟨o3, o4, o5⟩ := fg o o1
        refine ⟨o3, o4, fun zz => ?_⟩
        rw [flat_snoc] at zz
        rcases List.mem_append.mp zz with zz | zz
        · exact o5 zz
        · rcases List.mem_cons.mp zz with zz | zz
          · exact nmn (zz ▸ hg o o3)
          · exact o2 (List.mem_singleton.mp zz)
  · rintro ρ ⟨hs, ns', free, es', v9, v10, v11, rfl, hl, W', ext, nsub, ho, nd, hp, fnd, fl, fg⟩
    walk_at "aw"
    refine w_ixL (flat_last a hs) ?_
    walk_at "aw"
    have fll := flat_len a hs
    refine w_cat (by rw [List.length_map, List.length_map]; omega) ?_
    rw [← List.map_append]
    walk_at "aw"
    refine hop_A T (bl := bl ++ hs.map (·.1)) W' hk (lastN_mem ha hg fun p hp' => (hp p hp').2.1) hz (by omega) (by rw [List.length_append, List.length_map]; omega) (fun e he hb => ?_) (fun y hy => ?_) ?_
    · have nn := (W'.li e he).2
      rcases List.mem_append.mp hb with hb | hb
      · rcases (hb0 _ hb).2 with hb | hb
        · exact List.mem_append_left _ hb
        · exact absurd hb nn
      · rcases flat_mem.mp hb with hb | ⟨p, hp', hb | hb⟩
        · exact absurd (hb ▸ ha) nn
        · exact List.mem_append_right _ (List.mem_map.mpr ⟨p, hp', hb.symm⟩)
        · exact absurd (hb ▸ hg _ (hp p hp').2.1) nn
    · rcases List.mem_append.mp hy with hy | hy
      · exact nsub _ (hb0 _ hy).1
      · rcases flat_mem.mp hy with rfl | ⟨p, hp', rfl | rfl⟩
        · exact W'.nn _ ha
        · exact (hp p hp').1.1
        · exact W'.nn _ (hg _ (hp p hp').2.1)
    · intro nm ns2 es2 W2 ext2 sub2 nb2 hop2
      dsimp only [putA, List.set_cons_zero, List.set_cons_succ]
      walk_at "aw"
      refine ⟨by rw [List.length_map]; omega, ?_⟩
      walk_at "aw"
      refine ⟨by rw [List.length_append, List.length_map, List.length_singleton]; omega, ?_⟩
      walk_at "aw"
      have e1 : ((flat a hs).map D.str ++ [.str nm]) ++ [.str z] = (flat a (hs ++ [(nm, z)])).map .str := by
        rw [flat_snoc, List.map_append, List.append_assoc]
        rfl
      rw [e1]
      obtain ⟨nmi, nmn⟩ := hop_new (gates := gates) (barred := barred) W2 hop2
      have nmf : nm ∉ flat a hs := fun zz => nb2 (List.mem_append_right _ zz)
      have nmb : nm ∉ barred := fun zz => nb2 (List.mem_append_left _ zz)
      have nmz : nm ≠ z := fun zz => nmn (zz ▸ hz)
      refine hq (hs ++ [(nm, z)]) ns2 es2 (W2.mono (by omega)) (ext.trans ext2) (fun y hy => sub2 y (nsub y hy)) ⟨by rw [List.length_append, List.length_singleton]; omega, (ho.ext ext2).snoc hop2, ?_, fun p hp' => ?_, hs, nm, rfl, fun p hp' => (hp p hp').2⟩
      · rw [flat_snoc]
        refine List.nodup_append.mpr ⟨nd, by simp [nmz], fun y hy w hw zz => ?_⟩
        subst zz
        rcases List.mem_cons.mp hw with rfl | hw
        · exact nmf hy
        · rw [List.mem_singleton.mp hw] at hy
          rcases flat_mem.mp hy with e | ⟨p, hp', e | e⟩
          · exact haz e.symm
          · exact (hp p hp').1.2.1 (e ▸ hz)
          · exact hzg (e ▸ (hp p hp').2.1)
      · rcases List.mem_append.mp hp' with hp' | hp'
        · obtain ⟨⟨x1, x2⟩, x3⟩ := hp p hp'
          exact ⟨sub2 _ x1, x2⟩
        · rw [List.mem_singleton.mp hp']
          exact ⟨nmi, nmn, nmb⟩
def Ln.d (l : Ln) : D := .lst [.str l.n, .lst (l.f.map .str), .lst (l.t.map .str), .int l.w]
theorem frzs_lns : ∀ (es : List LE), frzs (es.map fun e => e.2.2.av e.2.1) = some (es.map fun e => e.2.2.d)
  | [] => rfl
  | e :: es => by
    have ih := frzs_lns es
    show (match (e.2.2.av e.2.1).frz, frzs (es.map fun e => e.2.2.av e.2.1) with | some d, some ds => some (d :: ds) | _, _ => none) = _
    rw [ih]
    rfl
def mx2 (a b : Int) : Int := if b > a then b else a
def wayD (w : List Str) : D := .tup (w.map .str)
/-- what a way takes: each line that is on it -/
def wsum (ls : List Ln) (way : List Str) (long slack : Int) : Int := ls.foldl (fun s l => if l.n ∈ way then s + long + l.w + slack else s) 0
def needV (ls : List Ln) (ways : List (List Str)) (long slack : Int) : Int := ways.foldl (fun m w => mx2 m (wsum ls w long slack)) 0
theorem need_A (T : Tx K mg base) {ls : List Ln} {ways : List (List Str)} {n : Str} {every long rel last slack : Int} {q : AV → Prop} {x : Exn → Prop} (h : q (.fz (.int (needV ls ways long slack)))) :
    A_law_need T [.fz (.tup [.str n, .tup (ways.map wayD), .int every, .int long, .int rel, .int last]), .fz (.lst (ls.map Ln.d)), .fz (.int slack)] q x := by
  refine A_law_need_of T ?_
  unfold b_law_need
  walk_at "aw"
  refine w_ixT (d := .tup (ways.map wayD)) rfl ?_
  walk_at "aw"
  refine loop_map (fun i ρ => ∃ v4 v5 v6 : Option AV, ρ = [some (.fz (.tup [.str n, .tup (ways.map wayD), .int every, .int long, .int rel, .int last])), some (.fz (.lst (ls.map Ln.d))), some (.fz (.int slack)), some (.fz (.int (needV ls (ways.take i) long slack))), v4, v5, v6]) ⟨none, none, none, rfl⟩ ?_ ?_
  · rintro i w ρ K' ew ⟨v4, v5, v6, rfl⟩ hK
    unfold wayD
    walk_at "aw"
    refine loop_map (fun j ρ => ∃ v6 : Option AV, ρ = [some (.fz (.tup [.str n, .tup (ways.map wayD), .int every, .int long, .int rel, .int last])), some (.fz (.lst (ls.map Ln.d))), some (.fz (.int slack)), some (.fz (.int (needV ls (ways.take i) long slack))), some (.fz (.tup (w.map .str))), some (.fz (.int (wsum (ls.take j) w long slack))), v6]) ⟨_, rfl⟩ ?_ ?_
    · rintro j l ρ K2 el ⟨v6, rfl⟩ hK2
      have es : wsum (ls.take (j + 1)) w long slack = if l.n ∈ w then wsum (ls.take j) w long slack + long + l.w + slack else wsum (ls.take j) w long slack := by
        unfold wsum
        rw [List.take_add_one, el, Option.toList_some, List.foldl_append]
        rfl
      unfold Ln.d
      walk_at "aw"
      refine w_ixL (d := .str l.n) rfl ?_
      walk_at "aw"
      refine w_inT rfl (flats_str _) ?_
      rw [inF_str]
      walk_at "aw"
      refine cond_dec (fun hc => ?_) (fun hc => ?_)
      · walk_at "aw"
        refine w_ixT (d := .int long) rfl ?_
        walk_at "aw"
        refine w_ixL (d := .int l.w) rfl ?_
        walk_at "aw"
        rw [if_pos hc] at es
        exact hK2 _ ⟨_, by rw [es]; rfl⟩
      · walk_at "aw"
        rw [if_neg hc] at es
        exact hK2 _ ⟨_, by rw [es]; rfl⟩
    · rintro ρ ⟨v6, rfl⟩
      rw [List.take_length]
      walk_at "aw"
      have es : needV ls (ways.take (i + 1)) long slack = mx2 (needV ls (ways.take i) long slack) (wsum ls w long slack) := by
        unfold needV
        rw [List.take_add_one, ew, Option.toList_some, List.foldl_append]
        rfl
      exact hK _ ⟨_, _, _, by rw [es]; rfl⟩
  · rintro ρ ⟨v4, v5, v6, rfl⟩
    rw [List.take_length]
    walk_at "aw"
    exact h
theorem wsum_ge {way : List Str} {long slack : Int} (h0 : 0 ≤ long) (h1 : 0 ≤ slack) : ∀ {ls : List Ln}, (∀ l ∈ ls, 0 ≤ l.w) → ∀ s : Int, s ≤ ls.foldl (fun s l => if l.n ∈ way then s + long + l.w + slack else s) s
  | [], _, s => Int.le_refl _
  | l :: ls, h, s => by
    have hl := h l List.mem_cons_self
    have ih := wsum_ge (way := way) h0 h1 (ls := ls) (fun y hy => h y (List.mem_cons_of_mem _ hy)) (if l.n ∈ way then s + long + l.w + slack else s)
    rw [List.foldl_cons]
    split at ih
    · rw [if_pos (by assumption)]
      omega
    · rw [if_neg (by assumption)]
      omega
theorem wsum_le {way : List Str} {long slack c : Int} (hc : ∀ l : Ln, l.w < 4 → long + l.w + slack ≤ c) : ∀ {ls : List Ln}, (∀ l ∈ ls, l.w < 4) → ∀ s : Int, ls.foldl (fun s l => if l.n ∈ way then s + long + l.w + slack else s) s ≤ s + c * ((ls.filter fun l => decide (l.n ∈ way)).length : Nat)
  | [], _, s => by simp
  | l :: ls, h, s => by
    have hl := hc l (h l List.mem_cons_self)
    have ih := wsum_le (way := way) hc (ls := ls) (fun y hy => h y (List.mem_cons_of_mem _ hy)) (if l.n ∈ way then s + long + l.w + slack else s)
    rw [List.foldl_cons]
    by_cases hw : l.n ∈ way
    · rw [if_pos hw] at ih ⊢
      rw [List.filter_cons_of_pos (by simpa using hw), List.length_cons]
      refine Int.le_trans ih ?_
      rw [Int.natCast_add, Int.mul_add]
      omega
    · rw [if_neg hw] at ih ⊢
      rw [List.filter_cons_of_neg (by simpa using hw)]
      exact ih
theorem needV_bd {ls : List Ln} {long slack b : Int} (h0 : ∀ w : List Str, 0 ≤ wsum ls w long slack) : ∀ {ways : List (List Str)}, (∀ w ∈ ways, wsum ls w long slack ≤ b) → ∀ m : Int, m ≤ b → (m ≤ ways.foldl (fun m w => mx2 m (wsum ls w long slack)) m ∧ ways.foldl (fun m w => mx2 m (wsum ls w long slack)) m ≤ b) ∧ ∀ w ∈ ways, wsum ls w long slack ≤ ways.foldl (fun m w => mx2 m (wsum ls w long slack)) m
  | [], _, m, hm => ⟨⟨Int.le_refl _, hm⟩, fun w hw => by cases hw⟩
  | w :: ways, h, m, hm => by
    have e : m ≤ mx2 m (wsum ls w long slack) ∧ wsum ls w long slack ≤ mx2 m (wsum ls w long slack) ∧ mx2 m (wsum ls w long slack) ≤ b := by
      have := h w List.mem_cons_self
      unfold mx2
      split <;> omega
    obtain ⟨⟨i1, i2⟩, i3⟩ := needV_bd h0 (ways := ways) (fun y hy => h y (List.mem_cons_of_mem _ hy)) (mx2 m (wsum ls w long slack)) e.2.2
    rw [List.foldl_cons]
    refine ⟨⟨by omega, i2⟩, fun y hy => ?_⟩
    rcases List.mem_cons.mp hy with rfl | hy
    · omega
    · exact i3 y hy
structure Row where
  n : Str
  a : Str
  z : Str
  w1 : List (Str × Str)
  w2 : Option (List (Str × Str))
  every : Int
  long : Int
  rel : Int
  last : Int
def waysOf (a : Str) (w1 : List (Str × Str)) : Option (List (Str × Str)) → List (List Str)
  | some w => [flat a w1, flat a w]
  | none => [flat a w1]
def Row.ways (r : Row) : List (List Str) := waysOf r.a r.w1 r.w2
def Row.d (r : Row) : D := .tup [.str r.n, .tup (r.ways.map wayD), .int r.every, .int r.long, .int r.rel, .int r.last]
def inner (a : Str) (hs : List (Str × Str)) : List Str := ((flat a hs).drop 1).take ((flat a hs).length - 2)
theorem cut_inner {xs : List Str} (h : 2 ≤ xs.length) : cutD (xs.map D.str) (some 1) (some (-1)) = ((xs.drop 1).take (xs.length - 2)).map .str := by
  unfold cutD
  rw [List.length_map]
  have e1 : HT.sIx xs.length 0 (some 1) = 1 := by unfold HT.sIx; simp; omega
  have e2 : HT.sIx xs.length xs.length (some (-1)) = xs.length - 1 := by unfold HT.sIx; simp; omega
  rw [e1, e2, List.map_take, List.map_drop]
  rfl
theorem inner_mem {a x : Str} {hs : List (Str × Str)} (h : x ∈ inner a hs) : x ∈ flat a hs := List.mem_of_mem_drop (List.mem_of_mem_take h)
theorem every_at {r : Int} (h0 : 0 ≤ r) (h1 : r < 11) : ∃ e : Int, atI [D.int 12, .int 8, .int 20, .int 24, .int 10, .int 30, .int 15, .int 40, .int 60, .int 12, .int 120] r = some (.int e) ∧ e ∈ [(8 : Int), 10, 12, 15, 20, 24, 30, 40, 60, 120] := by
  obtain ⟨n, rfl⟩ := Int.eq_ofNat_of_zero_le h0
  have hn : n < 11 := by omega
  match n, hn with
  | 0, _ => exact ⟨12, rfl, by decide⟩
  | 1, _ => exact ⟨8, rfl, by decide⟩
  | 2, _ => exact ⟨20, rfl, by decide⟩
  | 3, _ => exact ⟨24, rfl, by decide⟩
  | 4, _ => exact ⟨10, rfl, by decide⟩
  | 5, _ => exact ⟨30, rfl, by decide⟩
  | 6, _ => exact ⟨15, rfl, by decide⟩
  | 7, _ => exact ⟨40, rfl, by decide⟩
  | 8, _ => exact ⟨60, rfl, by decide⟩
  | 9, _ => exact ⟨12, rfl, by decide⟩
  | 10, _ => exact ⟨120, rfl, by decide⟩
  | n + 11, h => omega
theorem every_bd {e : Int} (h : e ∈ [(8 : Int), 10, 12, 15, 20, 24, 30, 40, 60, 120]) : 8 ≤ e ∧ e ≤ 120 := by
  simp only [List.mem_cons, List.not_mem_nil, or_false] at h
  omega
theorem spare_at {e r : Int} (he : 8 ≤ e ∧ e ≤ 120) (h0 : 0 ≤ r) (h1 : r < 7) : ∃ s : Int, atI [D.int 0, .int 1, .int 2, .int (e / 2), .int 3, .int (e - 1), .int 6] r = some (.int s) ∧ 0 ≤ s ∧ s ≤ 119 := by
  obtain ⟨n, rfl⟩ := Int.eq_ofNat_of_zero_le h0
  have hn : n < 7 := by omega
  match n, hn with
  | 0, _ => exact ⟨0, rfl, by omega, by omega⟩
  | 1, _ => exact ⟨1, rfl, by omega, by omega⟩
  | 2, _ => exact ⟨2, rfl, by omega, by omega⟩
  | 3, _ => exact ⟨e / 2, rfl, by omega, by omega⟩
  | 4, _ => exact ⟨3, rfl, by omega, by omega⟩
  | 5, _ => exact ⟨e - 1, rfl, by omega, by omega⟩
  | 6, _ => exact ⟨6, rfl, by omega, by omega⟩
  | n + 7, h => omega
theorem slack_at {r : Int} (h0 : 0 ≤ r) (h1 : r < 8) : ∃ s : Int, atI [D.int 0, .int 1, .int 2, .int 0, .int 3, .int 1, .int 5, .int 7] r = some (.int s) ∧ 0 ≤ s ∧ s ≤ 7 := by
  obtain ⟨n, rfl⟩ := Int.eq_ofNat_of_zero_le h0
  have hn : n < 8 := by omega
  match n, hn with
  | 0, _ => exact ⟨0, rfl, by omega, by omega⟩
  | 1, _ => exact ⟨1, rfl, by omega, by omega⟩
  | 2, _ => exact ⟨2, rfl, by omega, by omega⟩
  | 3, _ => exact ⟨0, rfl, by omega, by omega⟩
  | 4, _ => exact ⟨3, rfl, by omega, by omega⟩
  | 5, _ => exact ⟨1, rfl, by omega, by omega⟩
  | 6, _ => exact ⟨5, rfl, by omega, by omega⟩
  | 7, _ => exact ⟨7, rfl, by omega, by omega⟩
  | n + 8, h => omega
structure RowOk (houses gates nodes ns : List Str) (es : List LE) (slack : Int) (r : Row) : Prop where
  a : r.a ∈ houses
  z : r.z ∈ houses
  az : r.a ≠ r.z
  w1 : WayOk gates nodes [] ns es r.a r.z r.w1
  w2 : ∀ w, r.w2 = some w → WayOk gates nodes (inner r.a r.w1) ns es r.a r.z w
  ev : r.every ∈ [(8 : Int), 10, 12, 15, 20, 24, 30, 40, 60, 120]
  lo : 1 ≤ r.long ∧ r.long ≤ 4 ∧ r.long ≤ r.every - slack
  re : 0 ≤ r.rel ∧ r.rel < r.every
  la : 1 ≤ r.last ∧ r.last ≤ 400
  /-- the last time when it was drawn: what the ways took then, and something to spare -/
  nl : ∃ (ns0 : List Str) (es0 : List LE) (h0 : Nat) (k0 : List Str) (spare : Int), Wld nodes ns0 es0 h0 k0 ∧ EsExt es0 es ∧ WayOk gates nodes [] ns0 es0 r.a r.z r.w1 ∧ (∀ w, r.w2 = some w → WayOk gates nodes (inner r.a r.w1) ns0 es0 r.a r.z w) ∧ 0 ≤ spare ∧ spare ≤ 119 ∧ r.last = needV (es0.map (·.2.2)) r.ways r.long slack + spare
theorem RowOk.ext {houses gates nodes ns ns' : List Str} {es es' : List LE} {slack : Int} {r : Row} (h : RowOk houses gates nodes ns es slack r) (x : EsExt es es') (n : ∀ y ∈ ns, y ∈ ns') : RowOk houses gates nodes ns' es' slack r := by
  obtain ⟨ns0, es0, h0, k0, sp, e1, e2, e3, e4, e5, e6, e7⟩ := h.nl
  exact ⟨h.a, h.z, h.az, h.w1.ext x n, fun w hw => (h.w2 w hw).ext x n, h.ev, h.lo, h.re, h.la, ns0, es0, h0, k0, sp, e1, e2.trans x, e3, e4, e5, e6, e7⟩
theorem argsF3 {ρ : Env} {d1 d2 d : D} {i : Nat} {av : AV} (h : ρ[i]? = some (some av)) (f : av.frz = some d) : argsF ρ [.val d1, .slot i, .val d2] = some [.fz d1, .fz d, .fz d2] := by
  have e : argF ρ (.slot i) = some (.fz d) := by
    unfold argF
    dsimp only
    rw [h]
    dsimp only
    rw [f]
    rfl
  show (match argF ρ (.val d1), argsF ρ [.slot i, .val d2] with | some x, some xs => some (x :: xs) | _, _ => none) = _
  have e2 : argsF ρ [.slot i, .val d2] = some [.fz d, .fz d2] := by
    show (match argF ρ (.slot i), argsF ρ [.val d2] with | some x, some xs => some (x :: xs) | _, _ => none) = _
    rw [e]
    rfl
  rw [e2]
  rfl
theorem frz_lns (es : List LE) : (lnsAV es).frz = some (.lst (es.map fun e => e.2.2.d)) := by
  show (frzs (es.map fun e => e.2.2.av e.2.1)).map D.lst = _
  rw [frzs_lns]
  rfl
theorem wsum_in {way : List Str} {long slack : Int} (h0 : 0 ≤ long) (h1 : 0 ≤ slack) : ∀ {ls : List Ln} {l : Ln}, (∀ l ∈ ls, 0 ≤ l.w) → l ∈ ls → l.n ∈ way → ∀ s : Int, s + long + l.w + slack ≤ ls.foldl (fun s l => if l.n ∈ way then s + long + l.w + slack else s) s
  | [], l, _, hl, _, s => by cases hl
  | y :: ls, l, h, hl, hw, s => by
    have hy := h y List.mem_cons_self
    have ht : ∀ l ∈ ls, 0 ≤ l.w := fun u hu => h u (List.mem_cons_of_mem _ hu)
    rw [List.foldl_cons]
    rcases List.mem_cons.mp hl with rfl | hl
    · rw [if_pos hw]
      exact wsum_ge h0 h1 ht _
    · have ih := wsum_in h0 h1 ht hl hw (if y.n ∈ way then s + long + y.w + slack else s)
      refine Int.le_trans ?_ ih
      split <;> omega
theorem row_A (T : Tx K mg base) {houses gates ns : List Str} {es : List LE} {h : Nat} {k : List Str} {slack : Int} {q : AV → List AV → Prop} {x : Exn → List AV → Prop} (W : Wld (houses ++ gates) ns es h k) (nd : (houses ++ gates).Nodup) (hh2 : 2 ≤ houses.length) (hh4 : houses.length ≤ 4) (hg3 : gates.length ≤ 3) (hk : k.length ≤ 40) (h48 : h + 6 ≤ 48) (s0 : 0 ≤ slack) (s7 : slack ≤ 7)
    (hq : ∀ r ns' es', Wld (houses ++ gates) ns' es' (h + 6) (k ++ [r.n]) → EsExt es es' → (∀ y ∈ ns, y ∈ ns') → RowOk houses gates (houses ++ gates) ns' es' slack r → q (.fz r.d) [.dr, .ol (ns'.map .str), lnsAV es', .fz (.lst (houses.map .str)), .fz (.lst (gates.map .str)), .fz (.int slack)]) :
    A_law_row T [.dr, .ol (ns.map .str), lnsAV es, .fz (.lst (houses.map .str)), .fz (.lst (gates.map .str)), .fz (.int slack)] q x := by
  refine A_law_row_of T _ _ _ _ _ _ ?_
  obtain ⟨ndh, ndg, ndx⟩ := List.nodup_append.mp nd
  have hkn : (houses ++ gates).length + k.length ≤ 80 := by rw [List.length_append]; omega
  unfold b_law_row
  walk_at "aw"
  rw [List.length_map]
  refine w_draw (by omega) (by omega) fun r1 r10 r11 => ?_
  obtain ⟨n1, rfl⟩ := Int.eq_ofNat_of_zero_le r10
  have hn1 : n1 < houses.length := by omega
  walk_at "aw"
  refine w_ixL (atI_map (List.getElem?_eq_getElem hn1)) ?_
  walk_at "aw"
  rw [List.length_map]
  refine w_draw (by omega) (by omega) fun r2 r20 r21 => ?_
  obtain ⟨n2, rfl⟩ := Int.eq_ofNat_of_zero_le r20
  walk_at "aw"
  try rw [List.length_map]
  refine w_oIC (by show (0 : Int) < _; omega) ?_
  have em : ((n1 : Int) + 1 + (n2 : Int)) % (houses.length : Int) = (((n1 + 1 + n2) % houses.length : Nat) : Int) := by
    rw [Int.natCast_emod]
    congr 1
  rw [em]
  have hm : (n1 + 1 + n2) % houses.length < houses.length := Nat.mod_lt _ (by omega)
  have hne : (n1 + 1 + n2) % houses.length ≠ n1 := fun e => by
    by_cases hlt : n1 + 1 + n2 < houses.length
    · rw [Nat.mod_eq_of_lt hlt] at e
      omega
    · have : (n1 + 1 + n2) % houses.length = n1 + 1 + n2 - houses.length := by
        rw [Nat.mod_eq_sub_mod (by omega), Nat.mod_eq_of_lt (by omega)]
      omega
  refine w_ixL (atI_map (List.getElem?_eq_getElem hm)) ?_
  have haz : houses[n1] ≠ houses[(n1 + 1 + n2) % houses.length] := fun e => hne ((List.getElem_inj ndh).mp e.symm)
  have haH : houses[n1] ∈ houses := List.getElem_mem _
  have hzH : houses[(n1 + 1 + n2) % houses.length] ∈ houses := List.getElem_mem _
  generalize houses[n1] = a at haz haH
  generalize houses[(n1 + 1 + n2) % houses.length] = z at haz hzH
  have hag : a ∉ gates := fun zz => ndx a haH a zz rfl
  have hzg : z ∉ gates := fun zz => ndx z hzH z zz rfl
  have haN : a ∈ houses ++ gates := List.mem_append_left _ haH
  have hzN : z ∈ houses ++ gates := List.mem_append_left _ hzH
  -- behind the ways
  have tail : ∀ (w1 : List (Str × Str)) (w2 : Option (List (Str × Str))) (ns1 : List Str) (es1 : List LE) (v6 : Option AV) (N : AEnds), Wld (houses ++ gates) ns1 es1 (h + 6) k → EsExt es es1 → (∀ y ∈ ns, y ∈ ns1) → WayOk gates (houses ++ gates) [] ns1 es1 a z w1 → (∀ w, w2 = some w → WayOk gates (houses ++ gates) (inner a w1) ns1 es1 a z w) →
      (∀ av ρ, N.rt av ρ = q av (mrg [.dr, .ol (ns.map .str), lnsAV es, .fz (.lst (houses.map .str)), .fz (.lst (gates.map .str)), .fz (.int slack)] (selM [true, true, true, false, false, false] ρ))) →
      b_law_row_1 T N [some .dr, some (.ol (ns1.map .str)), some (lnsAV es1), some (.fz (.lst (houses.map .str))), some (.fz (.lst (gates.map .str))), some (.fz (.int slack)), v6, some (.fz (.str a)), some (.fz (.str z)), some (.ol ((waysOf a w1 w2).map wayD)), none, none, none, none] := fun w1 w2 ns1 es1 v6 N W1 x1 sub1 k1 k2 hr => by
    obtain ⟨nx, rt, bk, ct', ex⟩ := N
    have ct1 := W1.ct
    have le1 := W1.le
    rw [List.length_append] at ct1
    unfold b_law_row_1
    walk_at "aw"
    refine w_draw (by omega) (by omega) fun r3 r30 r31 => ?_
    obtain ⟨ev, e1, e2⟩ := every_at r30 r31
    obtain ⟨ev8, ev120⟩ := every_bd e2
    refine w_ixL e1 ?_
    walk_at "aw"
    obtain ⟨mm, emm, m1, m4, mle⟩ : ∃ mm : Int, (if ev - slack < 4 then ev - slack else 4) = mm ∧ 1 ≤ mm ∧ mm ≤ 4 ∧ mm ≤ ev - slack := ⟨_, rfl, by split <;> omega, by split <;> omega, by split <;> omega⟩
    rw [emm]
    refine w_draw (by omega) (by omega) fun r4 r40 r41 => ?_
    walk_at "aw"
    refine name_A T (by omega) fun nm hg hn => ?_
    dsimp only [putA, List.set_cons_zero, List.set_cons_succ]
    walk_at "aw"
    refine w_draw (by omega) (by omega) fun r5 r50 r51 => ?_
    walk_at "aw"
    refine w_draw (by omega) (by omega) fun r6 r60 r61 => ?_
    obtain ⟨sp, e3, sp0, sp1⟩ := spare_at ⟨ev8, ev120⟩ r60 r61
    refine w_ixL e3 ?_
    walk_at "aw"
    refine w_callFQ (argsF3 rfl (frz_lns es1)) ?_
    rw [show (es1.map fun e => e.2.2.d) = (es1.map (·.2.2)).map Ln.d by rw [List.map_map]; rfl]
    refine need_A T ?_
    walk_at "aw"
    refine w_catT (Nat.le_of_ble_eq_true rfl) ?_
    rw [show rt _ _ = q _ _ from hr _ _]
    have W2 := W1.named hg hn
    have hw0 : ∀ l ∈ es1.map (·.2.2), 0 ≤ l.w := fun l hl => by
      obtain ⟨e, he, rfl⟩ := List.mem_map.mp hl
      exact (W1.ok e he).w0
    have hw4 : ∀ l ∈ es1.map (·.2.2), l.w < 4 := fun l hl => by
      obtain ⟨e, he, rfl⟩ := List.mem_map.mp hl
      exact (W1.ok e he).w4
    have ub : ∀ w : List Str, wsum (es1.map (·.2.2)) w (1 + r4) slack ≤ 14 * 14 := fun w => by
      have := wsum_le (way := w) (long := 1 + r4) (slack := slack) (c := 14) (fun l hl => by omega) hw4 0
      have l2 : ((es1.map (·.2.2)).filter fun l => decide (l.n ∈ w)).length ≤ 14 := Nat.le_trans (List.length_filter_le _ _) (by rw [List.length_map]; exact le1)
      unfold wsum
      omega
    have lb : ∀ w : List Str, 0 ≤ wsum (es1.map (·.2.2)) w (1 + r4) slack := fun w => wsum_ge (by omega) s0 hw0 0
    obtain ⟨⟨b1, b2⟩, b3⟩ := needV_bd (ls := es1.map (·.2.2)) (b := 14 * 14) lb (ways := waysOf a w1 w2) (fun w _ => ub w) 0 (by omega)
    have b4 : 1 ≤ needV (es1.map (·.2.2)) (waysOf a w1 w2) (1 + r4) slack := by
      have hin : flat a w1 ∈ waysOf a w1 w2 := by cases w2 <;> exact List.mem_cons_self
      refine Int.le_trans ?_ (b3 _ hin)
      obtain ⟨l1, l2⟩ := k1.len
      have ho := k1.ho
      cases w1 with
      | nil => simp at l1
      | cons p w1 =>
        obtain ⟨⟨e, he, en, _⟩, _⟩ := ho
        have := wsum_in (way := flat a (p :: w1)) (long := 1 + r4) (slack := slack) (by omega) s0 hw0 (List.mem_map.mpr ⟨e, he, rfl⟩) (by rw [en]; exact flat_mem.mpr (.inr ⟨p, List.mem_cons_self, .inl rfl⟩)) 0
        have w0 := (W1.ok e he).w0
        unfold wsum
        omega
    exact hq ⟨nm, a, z, w1, w2, ev, 1 + r4, r5, needV (es1.map (·.2.2)) (waysOf a w1 w2) (1 + r4) slack + sp⟩ (ns1 ++ [nm]) es1 W2 x1 (fun y hy => List.mem_append_left _ (sub1 y hy))
      ⟨haH, hzH, haz, k1.ext (.refl _) (fun y hy => List.mem_append_left _ hy), fun w hw => (k2 w hw).ext (.refl _) (fun y hy => List.mem_append_left _ hy), e2, ⟨by show 1 ≤ 1 + r4; omega, by show 1 + r4 ≤ 4; omega, by show 1 + r4 ≤ ev - slack; omega⟩, ⟨r50, r51⟩, ⟨by show 1 ≤ _ + sp; omega, by show needV (es1.map (·.2.2)) (waysOf a w1 w2) (1 + r4) slack + sp ≤ 400; have : needV (es1.map (·.2.2)) (waysOf a w1 w2) (1 + r4) slack ≤ 14 * 14 := b2; omega⟩,
        ns1, es1, h + 6, k, sp, W1, .refl _, k1, k2, sp0, sp1, rfl⟩
  walk_at "aw"
  refine way_A T (bl := []) (barred := []) W hkn (fun g hg => List.mem_append_right _ hg) ndg (by omega) haN hzN haz hag hzg (by omega) (by simp) (fun y hy => (by cases hy)) (by simp) fun w1 ns1 es1 W1 x1 sub1 k1 => ?_
  dsimp only [putA, List.set_cons_zero, List.set_cons_succ]
  walk_at "aw"
  refine w_draw (by omega) (by omega) fun r3 r30 r31 => ?_
  walk_at "aw"
  refine cond_dec (fun hc => ?_) (fun hc => ?_)
  · walk_at "aw"
    refine w_ixL (d := .tup ((flat a w1).map .str)) rfl ?_
    walk_at "aw"
    have fl := flat_len a w1
    have fl1 := k1.len.1
    rw [cut_inner (by omega)]
    refine way_A T (bl := w1.map (·.1)) (barred := inner a w1) W1 hkn (fun g hg => List.mem_append_right _ hg) ndg (by omega) haN hzN haz hag hzg (by omega) (by rw [List.length_map]; exact k1.len.2) (fun y hy => ?_) ?_ fun w2 ns2 es2 W2 x2 sub2 k2 => ?_
    · rcases flat_mem.mp (inner_mem hy) with rfl | ⟨p, hp, e | e⟩
      · exact ⟨W1.nn _ haN, .inr haN⟩
      · subst e
        exact ⟨(k1.li p hp).1, .inl (List.mem_map.mpr ⟨p, hp, rfl⟩)⟩
      · subst e
        have hpn : p.2 ∈ houses ++ gates := by
          obtain ⟨hs0, l, e0, hg0⟩ := k1.la
          rw [e0] at hp
          rcases List.mem_append.mp hp with hp | hp
          · exact List.mem_append_right _ (hg0 p hp).1
          · rw [List.mem_singleton.mp hp]
            exact hzN
        exact ⟨W1.nn _ hpn, .inr hpn⟩
    · have : (inner a w1).length ≤ (flat a w1).length := by
        unfold inner
        rw [List.length_take, List.length_drop]
        omega
      have := k1.len.2
      omega
    · dsimp only [putA, List.set_cons_zero, List.set_cons_succ]
      walk_at "aw"
      refine tail w1 (some w2) ns2 es2 _ _ (W2.mono (by omega)) (x1.trans x2) (fun y hy => sub2 y (sub1 y hy)) (k1.ext x2 sub2) (fun w hw => by cases hw; exact k2) ?_
      exact fun _ _ => rfl
  · walk_at "aw"
    refine tail w1 none ns1 es1 _ _ (W1.mono (by omega)) x1 sub1 k1 (fun w hw => by cases hw) ?_
    exact fun _ _ => rfl
structure Wrd where
  houses : List Str
  gates : List Str
  ls : List Ln
  rows : List Row
  slack : Int
  ns : List Str
def Wrd.d (w : Wrd) : D := .tup [.lst (w.houses.map .str), .lst (w.gates.map .str), .lst (w.ls.map Ln.d), .lst (w.rows.map Row.d), .int w.slack, .lst (w.ns.map .str)]
structure WorldOk (most : Nat) (w : Wrd) : Prop where
  nd : (w.houses ++ w.gates).Nodup
  h2 : 2 ≤ w.houses.length
  h4 : w.houses.length ≤ 4
  g3 : w.gates.length ≤ 3
  s0 : 0 ≤ w.slack
  s7 : w.slack ≤ 7
  r1 : 1 ≤ w.rows.length
  rm : w.rows.length ≤ most
  ex : ∃ es : List LE, w.ls = es.map (·.2.2) ∧ Wld (w.houses ++ w.gates) w.ns es 48 (w.rows.map (·.n)) ∧ ∀ r ∈ w.rows, RowOk w.houses w.gates (w.houses ++ w.gates) w.ns es w.slack r
theorem world_A (T : Tx K mg base) {most : Nat} {q : AV → Prop} {x : Exn → Prop} (h1 : 1 ≤ most) (h8 : most ≤ 8) (hq : ∀ w, WorldOk most w → q (.fz w.d)) : A_law_world T [.dr, .fz (.int most)] q x := by
  refine A_law_world_of T ?_
  unfold b_law_world
  walk_at "aw"
  refine w_draw (by omega) (by omega) fun r1 r10 r11 => ?_
  obtain ⟨n1, rfl⟩ := Int.eq_ofNat_of_zero_le r10
  walk_at "aw"
  refine ⟨⟨by omega, by omega⟩, ?_⟩
  rw [show ((2 : Int) + (n1 : Nat)).toNat = 2 + n1 by omega]
  refine compM_inv (fun i acc ρ => ∃ hs : List Str, acc = hs.map .str ∧ ρ = [some .dr, some (.fz (.int most)), some (.ol (hs.map .str)), none, none, none, none, none, none] ∧ hs.Nodup ∧ ∀ y ∈ hs, GoodN y) ⟨[], rfl, rfl, List.nodup_nil, fun y hy => (by cases hy)⟩ (by rw [rngD_len]; omega) ?_ ?_
  · rintro i d acc ρ K' ed la ⟨hs, rfl, rfl, nd, gd⟩ hK
    obtain ⟨hi, rfl⟩ := rngD_at ed
    rw [List.length_map] at la
    walk_at "aw"
    refine name_A T (by omega) fun nm hg hn => ?_
    dsimp only [putA, List.set_cons_zero, List.set_cons_succ]
    walk_at "aw"
    refine hK _ _ ⟨hs ++ [nm], by rw [List.map_append]; rfl, rfl, ?_, fun y hy => ?_⟩
    · refine List.nodup_append.mpr ⟨nd, by simp, fun a ha b hb e => ?_⟩
      rw [List.mem_singleton.mp hb] at e
      exact hn (e ▸ ha)
    · rcases List.mem_append.mp hy with hy | hy
      · exact gd y hy
      · rw [List.mem_singleton.mp hy]; exact hg
  rintro acc ρ lacc ⟨hs, rfl, rfl, ndh, gdh⟩
  rw [List.length_map, rngD_len] at lacc
  walk_at "aw"
  refine w_draw (by omega) (by omega) fun r2 r20 r21 => ?_
  obtain ⟨n2, rfl⟩ := Int.eq_ofNat_of_zero_le r20
  walk_at "aw"
  refine ⟨⟨by omega, by omega⟩, ?_⟩
  rw [Int.toNat_natCast]
  refine compM_inv (fun i acc ρ => ∃ gs : List Str, acc = gs.map .str ∧ ρ = [some .dr, some (.fz (.int most)), some (.ol ((hs ++ gs).map .str)), some (.fz (.lst (hs.map .str))), none, none, none, none, none] ∧ (hs ++ gs).Nodup ∧ ∀ y ∈ hs ++ gs, GoodN y) ⟨[], rfl, by rw [List.append_nil]; rfl, by rw [List.append_nil]; exact ndh, by rw [List.append_nil]; exact gdh⟩ (by rw [rngD_len]; omega) ?_ ?_
  · rintro i d acc ρ K' ed la ⟨gs, rfl, rfl, nd, gd⟩ hK
    obtain ⟨hi, rfl⟩ := rngD_at ed
    rw [List.length_map] at la
    walk_at "aw"
    refine name_A T (by rw [List.length_append]; omega) fun nm hg hn => ?_
    dsimp only [putA, List.set_cons_zero, List.set_cons_succ]
    walk_at "aw"
    refine hK _ _ ⟨gs ++ [nm], by rw [List.map_append]; rfl, by rw [← List.append_assoc]; rfl, ?_, fun y hy => ?_⟩
    · rw [← List.append_assoc]
      refine List.nodup_append.mpr ⟨nd, by simp, fun a ha b hb e => ?_⟩
      rw [List.mem_singleton.mp hb] at e
      exact hn (e ▸ ha)
    · rw [← List.append_assoc] at hy
      rcases List.mem_append.mp hy with hy | hy
      · exact gd y hy
      · rw [List.mem_singleton.mp hy]; exact hg
  rintro acc ρ lacc2 ⟨gs, rfl, rfl, nd, gd⟩
  rw [List.length_map, rngD_len] at lacc2
  walk_at "aw"
  refine w_draw (by omega) (by omega) fun r3 r30 r31 => ?_
  obtain ⟨slack, e1, s0, s7⟩ := slack_at r30 r31
  refine w_ixL e1 ?_
  walk_at "aw"
  intro ws hws
  obtain rfl : ws = [] := List.eq_nil_of_length_eq_zero hws
  walk_at "aw"
  refine w_draw (by omega) (by omega) fun r4 r40 r41 => ?_
  obtain ⟨n4, rfl⟩ := Int.eq_ofNat_of_zero_le r40
  walk_at "aw"
  refine ⟨⟨by omega, by omega⟩, ?_⟩
  rw [show ((1 : Int) + (n4 : Nat)).toNat = 1 + n4 by omega]
  refine compM_inv (fun i acc ρ => ∃ (rows : List Row) (ns : List Str) (es : List LE), acc = rows.map Row.d ∧ ρ = [some .dr, some (.fz (.int most)), some (.ol (ns.map .str)), some (.fz (.lst (hs.map .str))), some (.fz (.lst (gs.map .str))), some (.fz (.int slack)), some (lnsAV es), none, none] ∧ Wld (hs ++ gs) ns es (6 * i) (rows.map (·.n)) ∧ ∀ r ∈ rows, RowOk hs gs (hs ++ gs) ns es slack r) ?_ (by rw [rngD_len]; omega) ?_ ?_
  · refine ⟨[], hs ++ gs, [], rfl, rfl, ⟨nd, gd, fun y hy => hy, List.nodup_nil, List.nodup_nil, fun e he => (by cases he), Nat.zero_le _, fun e he => (by cases he), Nat.zero_le _, rfl, fun y hy => (by cases hy), fun e he => (by cases he), List.nodup_nil⟩, fun r hr => (by cases hr)⟩
  · rintro i d acc ρ K' ed la ⟨rows, ns, es, rfl, rfl, W, rok⟩ hK
    obtain ⟨hi, rfl⟩ := rngD_at ed
    rw [List.length_map] at la
    walk_at "aw"
    refine row_A T W nd (by omega) (by omega) (by omega) (by rw [List.length_map]; omega) (by omega) s0 s7 fun r ns' es' W' x' sub' ro => ?_
    dsimp only [putA, List.set_cons_zero, List.set_cons_succ]
    walk_at "aw"
    refine hK _ _ ⟨rows ++ [r], ns', es', by rw [List.map_append]; rfl, rfl, by rw [List.map_append]; exact W', fun y hy => ?_⟩
    rcases List.mem_append.mp hy with hy | hy
    · exact (rok y hy).ext x' sub'
    · rw [List.mem_singleton.mp hy]; exact ro
  rintro acc ρ lacc3 ⟨rows, ns, es, rfl, rfl, W, rok⟩
  rw [List.length_map, rngD_len] at lacc3
  rw [rngD_len] at W
  walk_at "aw"
  refine w_sealN rfl (frzs_lns es) ?_
  walk_at "aw"
  have hf := hq ⟨hs, gs, es.map (·.2.2), rows, slack, ns⟩ ⟨nd, by show 2 ≤ hs.length; omega, by show hs.length ≤ 4; omega, by show gs.length ≤ 3; omega, s0, s7, by show 1 ≤ rows.length; omega, by show rows.length ≤ most; omega, es, rfl, W.mono (by omega), rok⟩
  unfold Wrd.d at hf
  rw [show ((es.map (·.2.2)).map Ln.d) = es.map fun e => e.2.2.d by rw [List.map_map]; rfl] at hf
  exact hf
section
variable {ρ : Env} {nx : Env → Prop} {rt : AV → Env → Prop} {bk ct : Env → Prop} {ex : Exn → Env → Prop} {i k : Nat} {e : AE} {Q : D → Prop} {L : List D → Prop} {X : Exn → Prop}
theorem w_itS (q : e ρ (strQ fun x => L (chD x)) X) : aItS e ρ L X := q
theorem w_inS {n : Nat} {y : Str} (q : Q (.bl (decide (n ∈ y.cps.toList)))) : oInS (.str ⟨#[n]⟩) (.str y) Q := ⟨n, rfl, q⟩
theorem w_fldSet {C dx : Addr} {f : Str} {ns : List Str} {ws : List V} {as : List AV} {d : D} (h1 : ρ[k]? = some (some (.fz d))) (h2 : ρ[i]? = some (some (.ob C dx ns ws as))) (h3 : ns.contains f = false ∧ ns.length < 1000) (q : ∀ v : V, nx (ρ.set i (some (.ob C dx (ns ++ [f]) (ws ++ [v]) (as ++ [.fz d]))))) : aFldSet i C f (aVar k) ⟨nx, rt, bk, ct, ex⟩ ρ := by
  refine w_var h1 ?_
  unfold obQ
  rw [h2]
  exact ⟨rfl, h3.1, h3.2, q⟩
theorem w_mk0 {C : Addr} {n m : Nat} {A : AFM} {arr : List KA} {r rk : AL} {O : AV → Prop} (q : r ρ (fun ds => rk ρ (fun es => ds.length = n ∧ es.length = m ∧ arr.all (kaOk m) = true ∧ mkQ C A O (fun _ => False) (ds.map .fz ++ arr.map fun a => .fz (kaD es a))) X) X) : aMkN0 C n m A arr r rk ρ O X := q
theorem w_me0 {C : Addr} {m : Str} {A : AF} {r : AA} {O : AV → Prop} (q : e ρ (objQ C m fun d => r ρ (fun as => callQ A ρ O (fun _ => False) (.val d :: as)) X) X) : aMe0 C m A e r ρ O X := q
theorem w_objQ {C : Addr} {m : Str} {ns : List Str} {ds : List D} (h : ns.contains m = false) (q : Q (.obj C ns ds)) : objQ C m Q (.obj C ns ds) := ⟨rfl, h, q⟩
theorem w_isCo {C : Addr} {ns : List Str} {ds : List D} (q : Q (.bl true)) : oIsC C [.obj C ns ds, .adr C] Q := ⟨rfl, rfl, q⟩
theorem w_ownEq {C : Addr} {A : AF} {a b : AE} (q : a ρ (fun d => b ρ (fun e => eqOk C d e ∧ A [.fz d, .fz e] (blAV Q) fun _ => False) X) X) : aOwnEq C A a b ρ Q X := q
end
theorem mem_letters {n : Nat} (h : 97 ≤ n ∧ n ≤ 122) : n ∈ (Str.ofString "abcdefghijklmnopqrstuvwxyz").cps.toList := by
  have key : ∀ k : Fin 26, 97 + k.val ∈ (Str.ofString "abcdefghijklmnopqrstuvwxyz").cps.toList := by decide +kernel
  have := key ⟨n - 97, by omega⟩
  rwa [show 97 + (⟨n - 97, by omega⟩ : Fin 26).val = n by show 97 + (n - 97) = n; omega] at this
theorem blsOf_true : ∀ (ds : List D), blsOf (ds.map fun _ => D.bl true) = some (ds.map fun _ => true)
  | [] => rfl
  | d :: ds => by
    show (blsOf (ds.map fun _ => D.bl true)).map (true :: ·) = _
    rw [blsOf_true ds]
    rfl
theorem blsOf_false : ∀ (ds : List D), blsOf (ds.map fun _ => D.bl false) = some (ds.map fun _ => false)
  | [] => rfl
  | d :: ds => by
    show (blsOf (ds.map fun _ => D.bl false)).map (false :: ·) = _
    rw [blsOf_false ds]
    rfl
theorem w_allT {ds : List D} {Q : D → Prop} (q : Q (.bl true)) : oAll [.lst (ds.map fun _ => D.bl true)] Q := w_bls (blsOf_true ds) (by
  have : (ds.map fun _ => true).all id = true := by simp
  first | exact q | (rw [this]; exact q) | (simp; exact q))
theorem w_anyF {ds : List D} {Q : D → Prop} (q : Q (.bl false)) : oAny [.lst (ds.map fun _ => D.bl false)] Q := w_bls (blsOf_false ds) (by
  have : (ds.map fun _ => false).any id = false := by simp
  first | exact q | (rw [this]; exact q) | (simp; exact q))
theorem within_A (T : Tx K mg base) {v lo hi : Int} {q : AV → Prop} {x : Exn → Prop} (h1 : lo ≤ v) (h2 : v ≤ hi) (h : q (.fz (.bl true))) : A_within T [.fz (.int v), .fz (.int lo), .fz (.int hi)] q x := by
  refine A_within_of T ?_
  unfold b_within
  walk_at "aw"
  rw [decide_eq_true h1]
  walk_at "aw"
  rw [decide_eq_true h2]
  exact h
theorem check_A (T : Tx K mg base) {v lo hi : Int} {q : AV → Prop} {x : Exn → Prop} (h1 : lo ≤ v) (h2 : v ≤ hi) (h : q (.fz .non)) : A_check T [.fz (.int v), .fz (.int lo), .fz (.int hi)] q x := by
  refine A_check_of T ?_
  unfold b_check
  walk_at "aw"
  refine within_A T h1 h2 ?_
  walk_at "aw"
  exact h
theorem good_name_A (T : Tx K mg base) {n : Str} {q : AV → Prop} {x : Exn → Prop} (g : GoodN n) (h : q (.fz (.bl true))) : A_good_name T [.fz (.str n)] q x := by
  refine A_good_name_of T ?_
  obtain ⟨g1, g2, g3⟩ := g
  unfold b_good_name
  walk_at "aw"
  refine ⟨by omega, ?_⟩
  walk_at "aw"
  rw [decide_eq_false (show ¬ ((n.length : Nat) : Int) < 1 by omega)]
  walk_at "aw"
  refine ⟨by omega, ?_⟩
  walk_at "aw"
  rw [decide_eq_false (show ¬ ((n.length : Nat) : Int) > 8 by omega)]
  walk_at "aw"
  refine w_itS ?_
  walk_at "aw"
  refine comp_map (fun _ => .bl true) (by
    show 0 + (chD n).length ≤ 1000000
    unfold chD
    rw [List.length_map, Array.length_toList]
    have : n.cps.size ≤ 8 := g2
    omega) (fun d hd Q hQ => ?_) ?_
  · obtain ⟨c, hc, rfl⟩ := List.mem_map.mp hd
    walk_at "aw"
    refine w_inS ?_
    rw [decide_eq_true (mem_letters (g3 c hc))]
    exact hQ
  · rw [List.nil_append]
    walk_at "aw"
    exact w_allT h
theorem w_setLen {xs : List Str} {P : Nat → Prop} (h : xs.length ≤ 1000) (q : ∀ c : Nat, c ≤ xs.length → (c = xs.length ↔ xs.Nodup) → P c) : seqQ (fun ds => someQ (fun xs => xs.length ≤ 1000 ∧ ∀ c : Nat, c ≤ xs.length → (c = xs.length ↔ xs.Nodup) → P c) (strsOf ds)) (.tup (xs.map .str)) := by
  show someQ _ (strsOf (xs.map D.str))
  rw [strsOf_map]
  exact ⟨h, q⟩
theorem GoodN.sok {n : Str} (g : GoodN n) : PyData.strOk n = true := by
  unfold PyData.strOk
  rw [← Array.all_toList, List.all_eq_true]
  intro c hc
  have := (g.2.2 c hc).2
  exact decide_eq_true (by omega)
theorem okD_str {k : Nat} {n : Str} (g : GoodN n) : okD k (.str n) = true := by
  cases k <;> exact g.sok
mutual
theorem deq_refl : ∀ (n : Nat) (d : D), okD n d = true → deq d d = true
  | _, .int i, _ => beq_self_eq_true i
  | _, .bl i, _ => beq_self_eq_true i
  | _, .non, _ => rfl
  | _, .str x, _ => beq_self_eq_true x
  | n + 1, .tup ds, h => deqs_refl n ds h
  | n + 1, .lst ds, h => deqs_refl n ds h
  | 0, .tup ds, h => by cases h
  | 0, .lst ds, h => by cases h
  | n, .ty _, h => by cases n <;> cases h
  | n, .dK _ _, h => by cases n <;> cases h
  | n, .dT _ _, h => by cases n <;> cases h
  | n, .obj _ _ _, h => by cases n <;> cases h
  | n, .exn _ _ _ _ _, h => by cases n <;> cases h
  | n, .adr _, h => by cases n <;> cases h
theorem deqs_refl : ∀ (n : Nat) (ds : List D), okDs n ds = true → deqs ds ds = true
  | n, [], _ => rfl
  | n, d :: ds, h => by
    have h' : (okD n d && okDs n ds) = true := h
    rw [Bool.and_eq_true] at h'
    show (deq d d && deqs ds ds) = true
    rw [deq_refl n d h'.1, deqs_refl n ds h'.2]
    rfl
end
theorem comp_mapA {α : Type} {g : AG} {te : AE} {ρ : Env} {X : Exn → Prop} {Q : List D → Prop} {fd : α → D} {xs : List α} {acc : List D} (f : α → D) (hl : acc.length + xs.length ≤ 1000000)
    (h : ∀ (x : α), x ∈ xs → ∀ (Q : D → Prop), Q (f x) → g (fd x) ρ (fun ρ2 => te ρ2 Q X)) (q : Q (acc ++ xs.map f)) : aComp g aYes te ρ X (xs.map fd) acc Q := by
  induction xs generalizing acc with
  | nil => rwa [List.map_nil, List.append_nil] at q
  | cons d ds ih =>
    rw [List.length_cons] at hl
    refine h d List.mem_cons_self _ ⟨by omega, ih (by rw [List.length_append]; show acc.length + 1 + _ ≤ _; omega) (fun e he => h e (List.mem_cons_of_mem _ he)) ?_⟩
    rwa [List.append_assoc]
structure GoodWay (w : List Str) : Prop where
  len : w.length = 3 ∨ w.length = 5 ∨ w.length = 7
  nd : w.Nodup
  good : ∀ y ∈ w, GoodN y
theorem good_way_A (T : Tx K mg base) {w : List Str} {q : AV → Prop} {x : Exn → Prop} (g : GoodWay w) (h : q (.fz (.bl true))) : A_good_way T [.fz (wayD w)] q x := by
  refine A_good_way_of T ?_
  have hl : w.length ≤ 7 := by rcases g.len with e | e | e <;> omega
  unfold b_good_way wayD
  walk_at "aw"
  refine w_ninT rfl rfl ?_
  rw [List.length_map, show inF (.int (w.length : Nat)) [.int 3, .int 5, .int 7] = true by rcases g.len with e | e | e <;> rw [e] <;> rfl]
  walk_at "aw"
  refine comp_map (fun _ => .bl true) (by show 0 + _ ≤ _; rw [List.length_map]; omega) (fun d hd Q hQ => ?_) ?_
  · obtain ⟨y, hy, rfl⟩ := List.mem_map.mp hd
    walk_at "aw"
    refine good_name_A T (g.good y hy) ?_
    walk_at "aw"
    exact hQ
  · rw [List.nil_append]
    walk_at "aw"
    refine w_allT ?_
    walk_at "aw"
    refine w_setLen (xs := w) (by omega) fun c c1 c2 => ?_
    walk_at "aw"
    rw [List.length_map, c2.mpr g.nd]
    rw [show decide (((w.length : Nat) : Int) = ((w.length : Nat) : Int)) = true from decide_eq_true rfl]
    exact h
structure GoodWays (ws : List (List Str)) : Prop where
  len : ws.length = 1 ∨ ws.length = 2
  all : ∀ w ∈ ws, GoodWay w
  two : ∀ a b, ws = [a, b] → ∃ (y z : Str) (ra rb : List Str), a = y :: ra ∧ b = y :: rb ∧ (∃ r, a = r ++ [z]) ∧ (∃ r, b = r ++ [z]) ∧ ∀ u ∈ (a.drop 1).take (a.length - 2), u ∉ b
theorem good_ways_A (T : Tx K mg base) {ws : List (List Str)} {q : AV → Prop} {x : Exn → Prop} (g : GoodWays ws) (h : q (.fz (.bl true))) : A_good_ways T [.fz (.tup (ws.map wayD))] q x := by
  refine A_good_ways_of T ?_
  have hl : ws.length ≤ 2 := by rcases g.len with e | e <;> omega
  have hl1 : 1 ≤ ws.length := by rcases g.len with e | e <;> omega
  unfold b_good_ways
  walk_at "aw"
  rw [List.length_map, decide_eq_false (show ¬ ((ws.length : Nat) : Int) < 1 by omega)]
  walk_at "aw"
  rw [List.length_map, decide_eq_false (show ¬ ((ws.length : Nat) : Int) > 2 by omega)]
  walk_at "aw"
  refine comp_map (fun _ => .bl true) (by show 0 + _ ≤ _; rw [List.length_map]; omega) (fun d hd Q hQ => ?_) ?_
  · obtain ⟨y, hy, rfl⟩ := List.mem_map.mp hd
    walk_at "aw"
    refine good_way_A T (g.all y hy) ?_
    walk_at "aw"
    exact hQ
  rw [List.nil_append]
  walk_at "aw"
  refine w_allT ?_
  walk_at "aw"
  rw [List.length_map]
  rcases g.len with e | e
  · rw [show decide (((ws.length : Nat) : Int) = 1) = true from decide_eq_true (by omega)]
    walk_at "aw"
    exact h
  · rw [show decide (((ws.length : Nat) : Int) = 1) = false from decide_eq_false (by omega)]
    obtain ⟨a, b, rfl⟩ : ∃ a b, ws = [a, b] := by
      match ws, e with
      | [a, b], _ => exact ⟨a, b, rfl⟩
    obtain ⟨y, z, ra, rb, e1, e2, ⟨r1, e3⟩, ⟨r2, e4⟩, di⟩ := g.two a b rfl
    have ga := g.all a List.mem_cons_self
    have i1 : atI (a.map D.str) 0 = some (.str y) := by rw [e1]; exact atI_map (xs := y :: ra) (i := 0) rfl
    have i2 : atI (b.map D.str) 0 = some (.str y) := by rw [e2]; exact atI_map (xs := y :: rb) (i := 0) rfl
    have i3 : atI (a.map D.str) (-1) = some (.str z) := by rw [e3, List.map_append]; exact L2.atI_last _ _
    have i4 : atI (b.map D.str) (-1) = some (.str z) := by rw [e4, List.map_append]; exact L2.atI_last _ _
    have la : a.length ≤ 7 ∧ 2 ≤ a.length := by rcases ga.len with e | e | e <;> omega
    show cond false _ _
    unfold wayD
    walk_at "aw"
    refine w_ixT i1 ?_
    walk_at "aw"
    refine w_ixT i2 ?_
    walk_at "aw"
    rw [show decide (y = y) = true from decide_eq_true rfl]
    walk_at "aw"
    refine w_ixT i3 ?_
    walk_at "aw"
    refine w_ixT i4 ?_
    walk_at "aw"
    rw [show decide (z = z) = true from decide_eq_true rfl]
    walk_at "aw"
    rw [cut_inner la.2]
    refine comp_map (fun _ => .bl false) (by show 0 + _ ≤ _; rw [List.length_map, List.length_take, List.length_drop]; omega) (fun d hd Q hQ => ?_) ?_
    · obtain ⟨u, hu, rfl⟩ := List.mem_map.mp hd
      walk_at "aw"
      refine w_inT rfl (flats_str _) ?_
      rw [inF_str, decide_eq_false (di u hu)]
      exact hQ
    · rw [List.nil_append]
      walk_at "aw"
      refine w_anyF ?_
      walk_at "aw"
      exact h
structure GoodFrame (n : Str) (ws : List (List Str)) (e l r la : Int) : Prop where
  gn : GoodN n
  gw : GoodWays ws
  ge : e ∈ [(4 : Int), 5, 6, 8, 10, 12, 15, 20, 24, 30, 40, 60, 120]
  gl : 1 ≤ l ∧ l ≤ 30
  gr : 0 ≤ r ∧ r < e
  ga : 1 ≤ la ∧ la ≤ 480
def frN : List Str := ["name", "ways", "every", "long", "release", "last"]
def frD (C : Addr) (n : Str) (ws : List (List Str)) (e l r la : Int) : D := .obj C frN [.str n, .tup (ws.map wayD), .int e, .int l, .int r, .int la]
theorem inF_int {v : Int} : ∀ {ns : List Int}, inF (.int v) (ns.map .int) = decide (v ∈ ns)
  | [] => by simp [inF]
  | n :: ns => by
    have ih := inF_int (v := v) (ns := ns)
    unfold inF at ih ⊢
    rw [List.map_cons, List.any_cons, ih]
    show ((n == v) || decide (v ∈ ns)) = _
    by_cases h : n = v
    · subst h
      simp
    · have h' : ¬ v = n := fun z => h z.symm
      simp [h, h']
theorem frame_init_A (T : Tx K mg base) {n : Str} {ws : List (List Str)} {e l r la : Int} {Q : D → Prop} {X : Exn → Prop} (g : GoodFrame n ws e l r la) (h : Q (frD T.c_Frame n ws e l r la)) : mkQ T.c_Frame (A_Frame_init T) (frzQ Q) X [.fz (.str n), .fz (.tup (ws.map wayD)), .fz (.int e), .fz (.int l), .fz (.int r), .fz (.int la)] := fun dx => by
  refine A_Frame_init_of T _ _ _ _ _ _ _ _ _ _ _ ?_
  obtain ⟨l1, l2⟩ := g.gl
  obtain ⟨r1, r2⟩ := g.gr
  obtain ⟨la1, la2⟩ := g.ga
  have he := g.ge
  have eb : 1 ≤ e ∧ e ≤ 120 := by
    simp only [List.mem_cons, List.not_mem_nil, or_false] at he
    omega
  unfold b_Frame_init
  walk_at "aw"
  refine good_name_A T g.gn ?_
  walk_at "aw"
  refine good_ways_A T g.gw ?_
  walk_at "aw"
  refine within_A T eb.1 eb.2 ?_
  walk_at "aw"
  refine w_ninT rfl (by decide) ?_
  rw [inF_int, decide_eq_true he]
  walk_at "aw"
  refine check_A T l1 l2 ?_
  walk_at "aw"
  refine check_A T r1 (by omega) ?_
  walk_at "aw"
  refine check_A T la1 la2 ?_
  walk_at "aw"
  refine w_fldSet rfl rfl ⟨rfl, Nat.le_of_ble_eq_true rfl⟩ fun v1 => ?_
  walk_at "aw"
  refine w_fldSet rfl rfl ⟨rfl, Nat.le_of_ble_eq_true rfl⟩ fun v2 => ?_
  walk_at "aw"
  refine w_fldSet rfl rfl ⟨rfl, Nat.le_of_ble_eq_true rfl⟩ fun v3 => ?_
  walk_at "aw"
  refine w_fldSet rfl rfl ⟨rfl, Nat.le_of_ble_eq_true rfl⟩ fun v4 => ?_
  walk_at "aw"
  refine w_fldSet rfl rfl ⟨rfl, Nat.le_of_ble_eq_true rfl⟩ fun v5 => ?_
  walk_at "aw"
  refine w_fldSet rfl rfl ⟨rfl, Nat.le_of_ble_eq_true rfl⟩ fun v6 => ?_
  exact ⟨rfl, _, rfl, h⟩
/-- a row as it is held -/
def rowD (n : Str) (ws : List (List Str)) (e l r la : Int) : D := .tup [.str n, .tup (ws.map wayD), .int e, .int l, .int r, .int la]
theorem okD_way {k : Nat} {w : List Str} (g : ∀ y ∈ w, GoodN y) : okD (k + 2) (wayD w) = true := by
  unfold wayD
  show okDs (k + 1) (w.map .str) = true
  induction w with
  | nil => rfl
  | cons y w ih =>
    show (okD (k + 1) (.str y) && okDs (k + 1) (w.map .str)) = true
    rw [ih fun u hu => g u (List.mem_cons_of_mem _ hu), okD_str (g y List.mem_cons_self)]
    rfl
theorem okD_ways {k : Nat} {ws : List (List Str)} (g : GoodWays ws) : okD (k + 3) (.tup (ws.map wayD)) = true := by
  show okDs (k + 2) (ws.map wayD) = true
  have g' : ∀ w ∈ ws, ∀ y ∈ w, GoodN y := fun w hw => (g.all w hw).good
  clear g
  induction ws with
  | nil => rfl
  | cons y w ih =>
    show (okD (k + 2) (wayD y) && okDs (k + 2) (w.map wayD)) = true
    rw [ih fun u hu => g' u (List.mem_cons_of_mem _ hu), okD_way (g' y List.mem_cons_self)]
    rfl
theorem okD_row {n : Str} {ws : List (List Str)} {e l r la : Int} (g : GoodFrame n ws e l r la) : okD 8 (rowD n ws e l r la) = true := by
  show (okD 7 (.str n) && (okD 7 (.tup (ws.map wayD)) && (okD 7 (.int e) && (okD 7 (.int l) && (okD 7 (.int r) && (okD 7 (.int la) && true)))))) = true
  rw [okD_ways (k := 4) g.gw, okD_str g.gn]
  rfl
theorem deq_row (n n' : Str) (ws ws' : List (List Str)) (e e' l l' r r' la la' : Int) : deq (rowD n ws e l r la) (rowD n' ws' e' l' r' la') = ((n == n') && (deq (.tup (ws.map wayD)) (.tup (ws'.map wayD)) && deq (.tup [.int e, .int l, .int r, .int la]) (.tup [.int e', .int l', .int r', .int la']))) := rfl
theorem law_frame_A (T : Tx K mg base) {n : Str} {ws : List (List Str)} {e l r la : Int} {q : AV → Prop} {x : Exn → Prop} (g : GoodFrame n ws e l r la) (h : q (.fz (frD T.c_Frame n ws e l r la))) : A_law_frame T [.fz (rowD n ws e l r la)] q x := by
  refine A_law_frame_of T ?_
  unfold b_law_frame rowD
  walk_at "aw"
  refine w_mk0 ?_
  walk_at "aw"
  refine w_ixT rfl ?_
  walk_at "aw"
  refine w_ixT rfl ?_
  walk_at "aw"
  refine w_ixT rfl ?_
  walk_at "aw"
  refine w_ixT rfl ?_
  walk_at "aw"
  refine w_ixT rfl ?_
  walk_at "aw"
  refine w_ixT rfl ?_
  walk_at "aw"
  exact ⟨rfl, rfl, rfl, frame_init_A T g h⟩
theorem law_whole_A (T : Tx K mg base) {i : Int} {q : AV → Prop} {x : Exn → Prop} (h : q (.fz (.bl true))) : A_law_whole T [.fz (.int i)] q x := by
  refine A_law_whole_of T ?_
  unfold b_law_whole
  walk_at "aw"
  exact h
theorem numbers_A (T : Tx K mg base) {n : Str} {ws : List (List Str)} {e l r la : Int} {q : AV → Prop} {x : Exn → Prop} (h : q (.fz (.tup [.int e, .int l, .int r, .int la]))) : A_Frame_numbers T [.fz (frD T.c_Frame n ws e l r la)] q x := by
  refine A_Frame_numbers_of T ?_
  unfold b_Frame_numbers frD
  walk_at "aw"
  exact h
theorem frame_eq_A (T : Tx K mg base) {n n' : Str} {ws ws' : List (List Str)} {e e' l l' r r' la la' : Int} {q : AV → Prop} {x : Exn → Prop} (g : GoodFrame n ws e l r la) (g' : GoodFrame n' ws' e' l' r' la') (h : q (.fz (.bl (deq (rowD n ws e l r la) (rowD n' ws' e' l' r' la'))))) : A_Frame_eq T [.fz (frD T.c_Frame n ws e l r la), .fz (frD T.c_Frame n' ws' e' l' r' la')] q x := by
  refine A_Frame_eq_of T ?_
  rw [deq_row] at h
  unfold b_Frame_eq frD
  walk_at "aw"
  refine w_isCo ?_
  walk_at "aw"
  refine cond_dec (fun h1 => ?_) (fun h1 => ?_)
  · subst h1
    rw [beq_self_eq_true, Bool.true_and] at h
    walk_at "aw"
    refine w_neD (okD_ways (k := 5) g.gw) (okD_ways (k := 5) g'.gw) ?_
    walk_at "aw"
    cases hd : deq (.tup (ws.map wayD)) (.tup (ws'.map wayD)) with
    | true =>
      rw [hd, Bool.true_and] at h
      walk_at "aw"
      refine w_me0 ?_
      walk_at "aw"
      refine w_objQ rfl ?_
      walk_at "aw"
      refine numbers_A T ?_
      walk_at "aw"
      refine w_me0 ?_
      walk_at "aw"
      refine w_objQ rfl ?_
      walk_at "aw"
      refine numbers_A T ?_
      walk_at "aw"
      refine w_eqD rfl rfl ?_
      exact h
    | false =>
      rw [hd] at h
      walk_at "aw"
      exact h
  · walk_at "aw"
    rw [show (n == n') = false from beq_eq_false_iff_ne.mpr h1] at h
    exact h
theorem law_fields_A (T : Tx K mg base) {n : Str} {ws : List (List Str)} {e l r la : Int} {q : AV → Prop} {x : Exn → Prop} (h : q (.fz (rowD n ws e l r la))) : A_law_fields T [.fz (frD T.c_Frame n ws e l r la)] q x := by
  refine A_law_fields_of T ?_
  unfold b_law_fields frD
  walk_at "aw"
  refine w_catT (Nat.le_of_ble_eq_true rfl) ?_
  exact h
theorem two_inner {a z : Str} {m : List Str} : (((a :: (m ++ [z])).drop 1).take ((a :: (m ++ [z])).length - 2)) = m := by
  show (m ++ [z]).take ((m ++ [z]).length + 1 - 2) = m
  rw [List.length_append, List.length_singleton, show m.length + 1 + 1 - 2 = m.length by omega, List.take_left]
theorem way_split {gates nodes barred ns : List Str} {es : List LE} {a z : Str} {hs : List (Str × Str)} (k : WayOk gates nodes barred ns es a z hs) : ∃ m, flat a hs = a :: (m ++ [z]) := by
  obtain ⟨hs0, l, e, _⟩ := k.la
  rw [e, flat_snoc]
  exact ⟨(hs0.flatMap fun p => [p.1, p.2]) ++ [l], by unfold flat; simp⟩
theorem way_good {gates nodes barred ns : List Str} {es : List LE} {a z : Str} {hs : List (Str × Str)} (k : WayOk gates nodes barred ns es a z hs) (ga : GoodN a) (gz : GoodN z) (gg : ∀ y ∈ gates, GoodN y) (gn : ∀ y ∈ ns, GoodN y) : GoodWay (flat a hs) := by
  refine ⟨?_, k.nd, fun y hy => ?_⟩
  · have := flat_len a hs
    obtain ⟨l1, l2⟩ := k.len
    omega
  · rcases flat_mem.mp hy with rfl | ⟨p, hp, rfl | rfl⟩
    · exact ga
    · exact gn _ (k.li p hp).1
    · obtain ⟨hs0, l, e, hg⟩ := k.la
      rw [e] at hp
      rcases List.mem_append.mp hp with hp | hp
      · exact gg _ (hg p hp).1
      · rw [List.mem_singleton.mp hp]
        exact gz
theorem row_good {most : Nat} {w : Wrd} (ok : WorldOk most w) {r : Row} (hr : r ∈ w.rows) : GoodFrame r.n r.ways r.every r.long r.rel r.last := by
  obtain ⟨es, _, W, hro⟩ := ok.ex
  have R := hro r hr
  have gN : ∀ y ∈ w.houses ++ w.gates, GoodN y := fun y hy => W.good y (W.nn y hy)
  have ga := gN _ (List.mem_append_left _ R.a)
  have gz := gN _ (List.mem_append_left _ R.z)
  have gg : ∀ y ∈ w.gates, GoodN y := fun y hy => gN y (List.mem_append_right _ hy)
  have g1 := way_good R.w1 ga gz gg W.good
  obtain ⟨e8, e120⟩ := every_bd R.ev
  refine ⟨W.good _ (W.rs _ (List.mem_map.mpr ⟨r, hr, rfl⟩)).1, ?_, ?_, ⟨R.lo.1, by have := R.lo.2.1; omega⟩, R.re, ⟨R.la.1, by have := R.la.2; omega⟩⟩
  · unfold Row.ways
    cases e2 : r.w2 with
    | none =>
      refine ⟨.inl rfl, fun v hv => ?_, fun a b h => ?_⟩
      · rw [List.mem_singleton.mp hv]
        exact g1
      · cases h
    | some w2 =>
      have k2 := R.w2 w2 e2
      have g2 := way_good k2 ga gz gg W.good
      refine ⟨.inr rfl, fun v hv => ?_, fun a b h => ?_⟩
      · rcases List.mem_cons.mp hv with rfl | hv
        · exact g1
        · rw [List.mem_singleton.mp hv]
          exact g2
      · obtain ⟨m1, e1⟩ := way_split R.w1
        obtain ⟨m2, e3⟩ := way_split k2
        have ha : flat r.a r.w1 = a := (List.cons.inj h).1
        have hb : flat r.a w2 = b := (List.cons.inj (List.cons.inj h).2).1
        subst ha hb
        refine ⟨r.a, r.z, _, _, e1, e3, ⟨r.a :: m1, e1⟩, ⟨r.a :: m2, e3⟩, fun u hu zz => ?_⟩
        have hu' : u ∈ inner r.a r.w1 := hu
        rw [e1, two_inner] at hu
        have nd := g1.nd
        rw [e1] at nd
        obtain ⟨n1, n2⟩ := List.nodup_cons.mp nd
        obtain ⟨n3, n4, n5⟩ := List.nodup_append.mp n2
        rcases flat_mem.mp zz with e | ⟨p, hp, e | e⟩
        · exact n1 (e ▸ List.mem_append_left _ hu)
        · exact (k2.li p hp).2.2 (e ▸ hu')
        · obtain ⟨hs0, l, e0, hg⟩ := k2.la
          rw [e0] at hp
          rcases List.mem_append.mp hp with hp | hp
          · exact (hg p hp).2 (e ▸ hu')
          · rw [List.mem_singleton.mp hp] at e
            exact n5 u hu r.z (List.mem_singleton.mpr rfl) e
  · have h := R.ev
    simp only [List.mem_cons, List.not_mem_nil, or_false] at h ⊢
    omega
open TL in
theorem num_texts {n : Int} (h0 : 0 ≤ n) (h1 : n < 1000) : ∃ ds : List Nat, (Str.ofString (toString n)).cps.toList = ds ∧ 1 ≤ ds.length ∧ ds.length ≤ 3 ∧ (∀ c ∈ ds, 48 ≤ c ∧ c ≤ 57) ∧ (1 < ds.length → ds.head? ≠ some 48) := by
  obtain ⟨k, rfl⟩ := Int.eq_ofNat_of_zero_le h0
  refine ⟨numL k, tl_num k, ?_⟩
  by_cases c1 : k < 10
  · rw [numL_lt c1]
    refine ⟨Nat.le_refl _, by show 1 ≤ 3; decide, fun c hc => ?_, fun z => absurd z (by show ¬ 1 < 1; decide)⟩
    rw [List.mem_singleton.mp hc]
    omega
  · have e1 := numL_step (n := k) (by omega)
    by_cases c2 : k < 100
    · rw [numL_lt (n := k / 10) (by omega)] at e1
      rw [e1]
      refine ⟨by show 1 ≤ 2; decide, by show 2 ≤ 3; decide, fun c hc => ?_, fun _ z => ?_⟩
      · have hc : c ∈ [48 + k / 10, 48 + k % 10] := hc
        simp only [List.mem_cons, List.not_mem_nil, or_false] at hc
        omega
      · have : 48 + k / 10 = 48 := Option.some.inj z
        omega
    · have e2 := numL_step (n := k / 10) (by omega)
      rw [numL_lt (n := k / 10 / 10) (by omega)] at e2
      rw [e1, e2]
      refine ⟨by show 1 ≤ 3; decide, by show 3 ≤ 3; decide, fun c hc => ?_, fun _ z => ?_⟩
      · have hc : c ∈ [48 + k / 10 / 10, 48 + k / 10 % 10, 48 + k % 10] := hc
        simp only [List.mem_cons, List.not_mem_nil, or_false] at hc
        omega
      · have : 48 + k / 10 / 10 = 48 := Option.some.inj z
        omega
abbrev nt (i : Int) : Str := Str.ofString (toString i)
def roadT (ways : List (List Str)) : Str := Txt.join "/" (ways.map fun w => Txt.join "." w)
def wordsT (n : Str) (ways : List (List Str)) (e l r la : Int) : List Str := [n, "every", nt e, "long", nt l, "release", nt r, "last", nt la, "by", roadT ways]
def textT (n : Str) (ways : List (List Str)) (e l r la : Int) : Str := Txt.join " " (wordsT n ways e l r la)
theorem text_cat (n : Str) (ways : List (List Str)) (e l r la : Int) : textT n ways e l r la = n ++ " every " ++ nt e ++ " long " ++ nt l ++ " release " ++ nt r ++ " last " ++ nt la ++ " by " ++ roadT ways := by
  have s1 : (" every " : Str) = " " ++ ("every" ++ " ") := by decide +kernel
  have s2 : (" long " : Str) = " " ++ ("long" ++ " ") := by decide +kernel
  have s3 : (" release " : Str) = " " ++ ("release" ++ " ") := by decide +kernel
  have s4 : (" last " : Str) = " " ++ ("last" ++ " ") := by decide +kernel
  have s5 : (" by " : Str) = " " ++ ("by" ++ " ") := by decide +kernel
  unfold textT wordsT
  rw [TL.join_eq, s1, s2, s3, s4, s5]
  simp only [Str.join, Str.append_assoc]
theorem glen {ys : List Str} {sep : Str} {b : Nat} (h : ∀ y ∈ ys, y.length ≤ b) : (Txt.join sep ys).length ≤ ys.length * (b + sep.length) := by
  rw [TL.join_eq]
  refine Nat.le_trans (StrLaws.join_length_le sep ys) ?_
  have key : ∀ zs : List Str, (∀ y ∈ zs, y.length ≤ b) → (zs.map (·.length)).sum ≤ zs.length * b := fun zs => by
    induction zs with
    | nil => exact fun _ => Nat.zero_le _
    | cons y zs ih =>
      intro h
      rw [List.map_cons, List.sum_cons, List.length_cons, Nat.add_mul, Nat.one_mul]
      have := h y List.mem_cons_self
      have := ih fun z hz => h z (List.mem_cons_of_mem _ hz)
      omega
  have := key ys h
  rw [Nat.mul_add]
  omega
theorem mem_join {c : Nat} {sep : Str} : ∀ {ys : List Str}, c ∈ (Txt.join sep ys).cps.toList → c ∈ sep.cps.toList ∨ ∃ y ∈ ys, c ∈ y.cps.toList := fun {ys} h => by
  rw [TL.join_eq] at h
  have e := TL.tl_join sep ys
  unfold TL.tl at e
  rw [e] at h
  clear e
  induction ys with
  | nil => cases h
  | cons y r ih =>
    cases r with
    | nil => exact .inr ⟨y, List.mem_cons_self, h⟩
    | cons z r =>
      have h : c ∈ y.cps.toList ++ (sep.cps.toList ++ TL.joinL sep.cps.toList ((z :: r).map TL.tl)) := h
      rcases List.mem_append.mp h with h | h
      · exact .inr ⟨y, List.mem_cons_self, h⟩
      · rcases List.mem_append.mp h with h | h
        · exact .inl h
        · rcases ih h with h | ⟨u, hu, h⟩
          · exact .inl h
          · exact .inr ⟨u, List.mem_cons_of_mem _ hu, h⟩
theorem dot_l : ("." : Str).cps.toList = [46] := by decide +kernel
theorem sl_l : ("/" : Str).cps.toList = [47] := by decide +kernel
theorem sp_l : (" " : Str).cps.toList = [32] := by decide +kernel
theorem way_in {w : List Str} (g : GoodWay w) : ∀ c ∈ (Txt.join "." w).cps.toList, c = 46 ∨ 97 ≤ c ∧ c ≤ 122 := fun c hc => by
  rcases mem_join hc with h | ⟨y, hy, h⟩
  · rw [dot_l] at h
    exact .inl (List.mem_singleton.mp h)
  · exact .inr ((g.good y hy).2.2 c h)
theorem road_in {ws : List (List Str)} (g : GoodWays ws) : ∀ c ∈ (roadT ws).cps.toList, c = 46 ∨ c = 47 ∨ 97 ≤ c ∧ c ≤ 122 := fun c hc => by
  rcases mem_join hc with h | ⟨y, hy, h⟩
  · rw [sl_l] at h
    exact .inr (.inl (List.mem_singleton.mp h))
  · obtain ⟨w, hw, rfl⟩ := List.mem_map.mp hy
    rcases way_in (g.all w hw) c h with h | h
    · exact .inl h
    · exact .inr (.inr h)
theorem way_len {w : List Str} (g : GoodWay w) : (Txt.join "." w).length ≤ 63 := by
  have := glen (sep := ".") (b := 8) fun y hy => (g.good y hy).2.1
  rw [show ("." : Str).length = 1 from by decide +kernel] at this
  have hl : w.length ≤ 7 := by rcases g.len with e | e | e <;> omega
  omega
theorem road_len {ws : List (List Str)} (g : GoodWays ws) : (roadT ws).length ≤ 128 := by
  have := glen (sep := "/") (ys := ws.map fun w => Txt.join "." w) (b := 63) fun y hy => by
    obtain ⟨w, hw, rfl⟩ := List.mem_map.mp hy
    exact way_len (g.all w hw)
  rw [show ("/" : Str).length = 1 from by decide +kernel, List.length_map] at this
  have hl : ws.length ≤ 2 := by rcases g.len with e | e <;> omega
  unfold roadT
  omega
theorem way_split_T {w : List Str} (g : GoodWay w) : Txt.split (Txt.join "." w) "." = w :=
  TL.split_join (s := 46) (S := []) dot_l (by decide +kernel) (fun z => by have := g.len; rw [z] at this; simp at this) fun y hy hc => by
    have := (g.good y hy).2.2 46 hc
    omega
theorem road_split {ws : List (List Str)} (g : GoodWays ws) : Txt.split (roadT ws) "/" = ws.map fun w => Txt.join "." w :=
  TL.split_join (s := 47) (S := []) sl_l (by decide +kernel) (fun z => by have := g.len; rw [List.map_eq_nil_iff.mp z] at this; simp at this) fun y hy hc => by
    obtain ⟨w, hw, rfl⟩ := List.mem_map.mp hy
    rcases way_in (g.all w hw) 47 hc with h | h <;> omega
theorem nt_in {i : Int} (h0 : 0 ≤ i) (h1 : i < 1000) : (nt i).length ≤ 3 ∧ ∀ c ∈ (nt i).cps.toList, 48 ≤ c ∧ c ≤ 57 := by
  obtain ⟨ds, e, l1, l3, h, _⟩ := num_texts h0 h1
  exact ⟨by rw [show (nt i).length = (nt i).cps.toList.length from Array.length_toList.symm, e]; exact l3, by rw [e]; exact h⟩
theorem text_split {n : Str} {ws : List (List Str)} {e l r la : Int} (g : GoodFrame n ws e l r la) (e1 : e ≤ 120) : Txt.split (textT n ws e l r la) " " = wordsT n ws e l r la ∧ (textT n ws e l r la).length ≤ 2000 := by
  obtain ⟨r0, r1⟩ := g.gr
  obtain ⟨l0, l1⟩ := g.gl
  obtain ⟨a0, a1⟩ := g.ga
  have lit : ∀ x ∈ (["every", "long", "release", "last", "by"] : List Str), x.length ≤ 128 ∧ 32 ∉ x.cps.toList := by decide +kernel
  have nn : ∀ i : Int, 0 ≤ i → i < 1000 → (nt i).length ≤ 128 ∧ 32 ∉ (nt i).cps.toList := fun i h0 h1 => by
    obtain ⟨k1, k2⟩ := nt_in h0 h1
    exact ⟨by omega, fun hc => by have := k2 32 hc; omega⟩
  have all : ∀ y ∈ wordsT n ws e l r la, y.length ≤ 128 ∧ 32 ∉ y.cps.toList := fun y hy => by
    unfold wordsT at hy
    simp only [List.mem_cons, List.not_mem_nil, or_false] at hy
    rcases hy with h | h | h | h | h | h | h | h | h | h | h <;> subst h
    · exact ⟨by have := g.gn.2.1; omega, fun hc => by have := g.gn.2.2 32 hc; omega⟩
    · exact lit _ (by decide +kernel)
    · exact nn _ (by omega) (by omega)
    · exact lit _ (by decide +kernel)
    · exact nn _ (by omega) (by omega)
    · exact lit _ (by decide +kernel)
    · exact nn _ (by omega) (by omega)
    · exact lit _ (by decide +kernel)
    · exact nn _ (by omega) (by omega)
    · exact lit _ (by decide +kernel)
    · exact ⟨road_len g.gw, fun hc => by rcases road_in g.gw 32 hc with h | h | h <;> omega⟩
  refine ⟨TL.split_join (s := 32) (S := []) sp_l (by decide +kernel) (fun z => nomatch z) fun y hy => (all y hy).2, ?_⟩
  have := glen (sep := " ") (b := 128) fun y hy => (all y hy).1
  rw [show (" " : Str).length = 1 from by decide +kernel, show (wordsT n ws e l r la).length = 11 from rfl] at this
  unfold textT
  omega
theorem w_fmtS {Q : D → Prop} {y : Str} (h : y.length ≤ 1000000) (q : Q (.str y)) : fmtQ Q (.str y) := ⟨h, q⟩
theorem w_fmtI {Q : D → Prop} {i : Int} (h : i.natAbs.log2 < 1920) (q : Q (.str (toString i))) : fmtQ Q (.int i) := ⟨h, q⟩
theorem small_log {i : Int} (h0 : 0 ≤ i) (h1 : i < 1000) : i.natAbs.log2 < 1920 := by
  have : i.natAbs.log2 ≤ i.natAbs := Nat.log2_le_self _
  omega
theorem js_cons {a : AE} {as : List AE} {acc : Str} {ρ : Env} {Q : Str → Prop} {X : Exn → Prop} (q : a ρ (strQ fun y => (acc ++ y).length ≤ 1000000 ∧ aJs as (acc ++ y) ρ Q X) X) : aJs (a :: as) acc ρ Q X := q
theorem js_nil {acc : Str} {ρ : Env} {Q : Str → Prop} {X : Exn → Prop} (q : Q acc) : aJs [] acc ρ Q X := q
theorem strs_map (xs : List Str) : strsOf (xs.map D.str) = some xs := by
  induction xs with
  | nil => rfl
  | cons x xs ih => simp [strsOf, ih]
theorem w_catS {x y : Str} {Q : D → Prop} (h : x.length + y.length ≤ 1000000) (q : Q (.str (x ++ y))) : oCatS (.str x) (.str y) Q := ⟨h, q⟩
theorem js_fst {as : List AE} {ρ : Env} {Q : D → Prop} {X : Exn → Prop} (q : aJs as Str.empty ρ (fun y => Q (.str y)) X) : aFst as ρ Q X := q
theorem js_put {Q : Str → Prop} {y : Str} (q : Q y) : strQ Q (.str y) := q
theorem mem_digits {n : Nat} (h : 48 ≤ n ∧ n ≤ 57) : n ∈ (Str.ofString "0123456789").cps.toList := by
  have key : ∀ k : Fin 10, 48 + k.val ∈ (Str.ofString "0123456789").cps.toList := by decide +kernel
  have := key ⟨n - 48, by omega⟩
  rwa [show 48 + (⟨n - 48, by omega⟩ : Fin 10).val = n by show 48 + (n - 48) = n; omega] at this
theorem w_joinT {Q : D → Prop} {x : Str} {ys : List Str} (h : (ys.map (·.length)).sum + ys.length * x.length ≤ 1000000) (q : Q (.str (Txt.join x ys))) : oJoin (.str x) [.tup (ys.map .str)] Q := by
  show someQ _ (strsOf (ys.map D.str))
  rw [strs_map]
  exact ⟨h, q⟩
theorem w_joinL {Q : D → Prop} {x : Str} {ys : List Str} (h : (ys.map (·.length)).sum + ys.length * x.length ≤ 1000000) (q : Q (.str (Txt.join x ys))) : oJoin (.str x) [.lst (ys.map .str)] Q := by
  show someQ _ (strsOf (ys.map D.str))
  rw [strs_map]
  exact ⟨h, q⟩
theorem sum_le {ys : List Str} {b : Nat} (h : ∀ y ∈ ys, y.length ≤ b) : (ys.map (·.length)).sum ≤ ys.length * b := by
  induction ys with
  | nil => exact Nat.zero_le _
  | cons y ys ih =>
    rw [List.map_cons, List.sum_cons, List.length_cons, Nat.add_mul, Nat.one_mul]
    have := h y List.mem_cons_self
    have := ih fun z hz => h z (List.mem_cons_of_mem _ hz)
    omega
theorem way_fits {w : List Str} (g : GoodWay w) : (w.map (·.length)).sum + w.length * (Str.length ".") ≤ 1000000 := by
  have := sum_le (b := 8) fun y hy => (g.good y hy).2.1
  have hl : w.length ≤ 7 := by rcases g.len with e | e | e <;> omega
  rw [show Str.length "." = 1 from by decide +kernel]
  omega
theorem road_fits {ws : List (List Str)} (g : GoodWays ws) : ((ws.map fun w => Txt.join "." w).map (·.length)).sum + (ws.map fun w => Txt.join "." w).length * (Str.length "/") ≤ 1000000 := by
  have := sum_le (ys := ws.map fun w => Txt.join "." w) (b := 63) fun y hy => by
    obtain ⟨w, hw, rfl⟩ := List.mem_map.mp hy
    exact way_len (g.all w hw)
  rw [List.length_map] at this ⊢
  have hl : ws.length ≤ 2 := by rcases g.len with e | e <;> omega
  rw [show Str.length "/" = 1 from by decide +kernel]
  omega
theorem text_A (T : Tx K mg base) {n : Str} {ws : List (List Str)} {e l r la : Int} {q : AV → Prop} {x : Exn → Prop} (g : GoodFrame n ws e l r la) (e1 : e ≤ 120) (h : q (.fz (.str (textT n ws e l r la)))) : A_law_text T [.fz (rowD n ws e l r la)] q x := by
  obtain ⟨r0, r1⟩ := g.gr
  obtain ⟨l0, l1⟩ := g.gl
  obtain ⟨a0, a1⟩ := g.ga
  have nl := g.gn.2.1
  have rl := road_len g.gw
  have L1 : Str.length (Str.ofString " every ") = 7 := by decide +kernel
  have L2 : Str.length (Str.ofString " long ") = 6 := by decide +kernel
  have L3 : Str.length (Str.ofString " release ") = 9 := by decide +kernel
  have L4 : Str.length (Str.ofString " last ") = 6 := by decide +kernel
  have L5 : Str.length (Str.ofString " by ") = 4 := by decide +kernel
  have N1 : (Str.ofString (toString e)).length ≤ 3 := (nt_in (i := e) (by omega) (by omega)).1
  have N2 : (Str.ofString (toString l)).length ≤ 3 := (nt_in (i := l) (by omega) (by omega)).1
  have N3 : (Str.ofString (toString r)).length ≤ 3 := (nt_in (i := r) (by omega) (by omega)).1
  have N4 : (Str.ofString (toString la)).length ≤ 3 := (nt_in (i := la) (by omega) (by omega)).1
  rw [text_cat] at h
  refine A_law_text_of T ?_
  unfold b_law_text rowD
  walk_at "awt"
  refine comp_mapA (fd := wayD) (fun w => .str (Txt.join "." w)) (by show 0 + _ ≤ _; rcases g.gw.len with e | e <;> omega) (fun w hw Q hQ => ?_) ?_
  · unfold wayD
    walk_at "awt"
    refine w_joinT (way_fits (g.gw.all w hw)) ?_
    exact hQ
  rw [List.nil_append, show (ws.map fun w => D.str (Txt.join "." w)) = (ws.map fun w => Txt.join "." w).map D.str by rw [List.map_map]; rfl]
  walk_at "awt"
  refine w_joinL (road_fits g.gw) ?_
  rw [show Txt.join "/" (ws.map fun w => Txt.join "." w) = roadT ws from rfl]
  walk_at "awt"
  refine w_catS (by first | omega | (simp only [Str.length_append]; omega)) ?_
  walk_at "awt"
  refine w_str (small_log (by omega) (by omega)) ?_
  walk_at "awt"
  refine w_catS (by first | omega | (simp only [Str.length_append]; omega)) ?_
  walk_at "awt"
  refine w_catS (by first | omega | (simp only [Str.length_append]; omega)) ?_
  walk_at "awt"
  refine w_str (small_log (by omega) (by omega)) ?_
  walk_at "awt"
  refine w_catS (by first | omega | (simp only [Str.length_append]; omega)) ?_
  walk_at "awt"
  refine w_catS (by first | omega | (simp only [Str.length_append]; omega)) ?_
  walk_at "awt"
  refine w_str (small_log (by omega) (by omega)) ?_
  walk_at "awt"
  refine w_catS (by first | omega | (simp only [Str.length_append]; omega)) ?_
  walk_at "awt"
  refine w_catS (by first | omega | (simp only [Str.length_append]; omega)) ?_
  walk_at "awt"
  refine w_str (small_log (by omega) (by omega)) ?_
  walk_at "awt"
  refine w_catS (by first | omega | (simp only [Str.length_append]; omega)) ?_
  walk_at "awt"
  refine w_catS (by first | omega | (simp only [Str.length_append]; omega)) ?_
  walk_at "awt"
  refine w_catS (by first | omega | (simp only [Str.length_append]; omega)) ?_
  exact h
theorem str_A (T : Tx K mg base) {n : Str} {ws : List (List Str)} {e l r la : Int} {q : AV → Prop} {x : Exn → Prop} (g : GoodFrame n ws e l r la) (e1 : e ≤ 120) (h : q (.fz (.str (textT n ws e l r la)))) : A_Frame_str T [.fz (frD T.c_Frame n ws e l r la)] q x := by
  obtain ⟨r0, r1⟩ := g.gr
  obtain ⟨l0, l1⟩ := g.gl
  obtain ⟨a0, a1⟩ := g.ga
  have nl := g.gn.2.1
  have rl := road_len g.gw
  have L1 : Str.length (Str.ofString " every ") = 7 := by decide +kernel
  have L2 : Str.length (Str.ofString " long ") = 6 := by decide +kernel
  have L3 : Str.length (Str.ofString " release ") = 9 := by decide +kernel
  have L4 : Str.length (Str.ofString " last ") = 6 := by decide +kernel
  have L5 : Str.length (Str.ofString " by ") = 4 := by decide +kernel
  have N1 : (Str.ofString (toString e)).length ≤ 3 := (nt_in (i := e) (by omega) (by omega)).1
  have N2 : (Str.ofString (toString l)).length ≤ 3 := (nt_in (i := l) (by omega) (by omega)).1
  have N3 : (Str.ofString (toString r)).length ≤ 3 := (nt_in (i := r) (by omega) (by omega)).1
  have N4 : (Str.ofString (toString la)).length ≤ 3 := (nt_in (i := la) (by omega) (by omega)).1
  rw [text_cat] at h
  refine A_Frame_str_of T ?_
  unfold b_Frame_str frD
  walk_at "awt"
  refine comp_mapA (fd := wayD) (fun w => .str (Txt.join "." w)) (by show 0 + _ ≤ _; rcases g.gw.len with e | e <;> omega) (fun w hw Q hQ => ?_) ?_
  · unfold wayD
    walk_at "awt"
    refine w_joinT (way_fits (g.gw.all w hw)) ?_
    exact hQ
  rw [List.nil_append, show (ws.map fun w => D.str (Txt.join "." w)) = (ws.map fun w => Txt.join "." w).map D.str by rw [List.map_map]; rfl]
  walk_at "awt"
  refine w_joinL (road_fits g.gw) ?_
  rw [show Txt.join "/" (ws.map fun w => Txt.join "." w) = roadT ws from rfl]
  walk_at "awt"
  refine js_fst ?_
  refine js_cons ?_
  walk_at "awt"
  refine w_fmtS (by first | omega | (simp only [Str.length_append, Str.empty_append]; omega)) ?_
  refine js_put ?_
  refine ⟨by first | omega | (simp only [Str.length_append, Str.empty_append]; omega), ?_⟩
  refine js_cons ?_
  walk_at "awt"
  refine ⟨by first | omega | (simp only [Str.length_append, Str.empty_append]; omega), ?_⟩
  refine js_cons ?_
  walk_at "awt"
  refine w_fmtI (small_log (by omega) (by omega)) ?_
  refine js_put ?_
  refine ⟨by first | omega | (simp only [Str.length_append, Str.empty_append]; omega), ?_⟩
  refine js_cons ?_
  walk_at "awt"
  refine ⟨by first | omega | (simp only [Str.length_append, Str.empty_append]; omega), ?_⟩
  refine js_cons ?_
  walk_at "awt"
  refine w_fmtI (small_log (by omega) (by omega)) ?_
  refine js_put ?_
  refine ⟨by first | omega | (simp only [Str.length_append, Str.empty_append]; omega), ?_⟩
  refine js_nil ?_
  walk_at "awt"
  refine js_fst ?_
  refine js_cons ?_
  walk_at "awt"
  refine w_fmtS (by first | omega | (simp only [Str.length_append, Str.empty_append]; omega)) ?_
  refine js_put ?_
  refine ⟨by first | omega | (simp only [Str.length_append, Str.empty_append]; omega), ?_⟩
  refine js_cons ?_
  walk_at "awt"
  refine ⟨by first | omega | (simp only [Str.length_append, Str.empty_append]; omega), ?_⟩
  refine js_cons ?_
  walk_at "awt"
  refine w_fmtI (small_log (by omega) (by omega)) ?_
  refine js_put ?_
  refine ⟨by first | omega | (simp only [Str.length_append, Str.empty_append]; omega), ?_⟩
  refine js_cons ?_
  walk_at "awt"
  refine ⟨by first | omega | (simp only [Str.length_append, Str.empty_append]; omega), ?_⟩
  refine js_cons ?_
  walk_at "awt"
  refine w_fmtI (small_log (by omega) (by omega)) ?_
  refine js_put ?_
  refine ⟨by first | omega | (simp only [Str.length_append, Str.empty_append]; omega), ?_⟩
  refine js_cons ?_
  walk_at "awt"
  refine ⟨by first | omega | (simp only [Str.length_append, Str.empty_append]; omega), ?_⟩
  refine js_cons ?_
  walk_at "awt"
  refine w_fmtS (by first | omega | (simp only [Str.length_append, Str.empty_append]; omega)) ?_
  refine js_put ?_
  refine ⟨by first | omega | (simp only [Str.length_append, Str.empty_append]; omega), ?_⟩
  refine js_nil ?_
  rw [Str.empty_append, Str.empty_append]
  exact h
theorem read_number_A (T : Tx K mg base) {i : Int} {q : AV → Prop} {x : Exn → Prop} (h0 : 0 ≤ i) (h1 : i < 1000) (h : q (.fz (.int i))) : A_read_number T [.fz (.str (nt i))] q x := by
  obtain ⟨ds, ed, d1, d3, dg, dz⟩ := num_texts h0 h1
  refine A_read_number_of T ?_
  unfold b_read_number
  walk_at "awt"
  have en : (nt i).length = ds.length := by rw [← ed]; exact Array.length_toList.symm
  rw [decide_eq_false (show ¬ nt i = Str.ofString "" from fun z => by rw [z] at en; rw [← en] at d1; exact absurd d1 (by decide +kernel))]
  walk_at "awt"
  refine ⟨by omega, ?_⟩
  walk_at "awt"
  rw [decide_eq_false (show ¬ ((nt i).length : Int) > 6 by omega)]
  walk_at "awt"
  refine w_itS ?_
  walk_at "awt"
  refine comp_map (fun _ => .bl true) (by
    show 0 + (chD (nt i)).length ≤ 1000000
    unfold chD
    rw [List.length_map, ed]
    omega) (fun d hd Q hQ => ?_) ?_
  · obtain ⟨c, hc, rfl⟩ := List.mem_map.mp hd
    rw [ed] at hc
    walk_at "awt"
    refine w_inS ?_
    rw [decide_eq_true (mem_digits (dg c hc))]
    exact hQ
  rw [List.nil_append]
  walk_at "awt"
  refine w_allT ?_
  walk_at "awt"
  refine ⟨by omega, ?_⟩
  walk_at "awt"
  have fin : oIntS [.str (nt i)] (fun d => q (.fz d)) := w_intS (by omega) (PySem.W.KIN.num_reads h0 (by omega)) h
  refine cond_dec (fun c => ?_) (fun c => ?_)
  · walk_at "awt"
    obtain ⟨c0, r0, e0⟩ : ∃ c0 r0, ds = c0 :: r0 := by
      cases ds with
      | nil => exact absurd d1 (by decide)
      | cons c0 r0 => exact ⟨c0, r0, rfl⟩
    refine w_ixS (by omega) (c := c0) (by rw [ed, e0]; exact atI_nat (i := 0) rfl) ?_
    walk_at "awt"
    rw [decide_eq_false (show ¬ (⟨#[c0]⟩ : Str) = Str.ofString "0" from fun z => by
      have e1 : (⟨#[c0]⟩ : Str).cps.toList = (Str.ofString "0").cps.toList := by rw [z]
      rw [show (Str.ofString "0").cps.toList = [48] by decide +kernel] at e1
      have e2 : c0 = 48 := (List.cons.inj e1).1
      exact dz (by omega) (by rw [e0, e2]; rfl))]
    walk_at "awt"
    exact fin
  · walk_at "awt"
    exact fin
theorem read_frame_A (T : Tx K mg base) {n : Str} {ws : List (List Str)} {e l r la : Int} {q : AV → Prop} {x : Exn → Prop} (g : GoodFrame n ws e l r la) (e1 : e ≤ 120) (h : q (.fz (frD T.c_Frame n ws e l r la))) : A_read_frame T [.fz (.str (textT n ws e l r la))] q x := by
  obtain ⟨sp, tl⟩ := text_split g e1
  refine A_read_frame_of T ?_
  unfold b_read_frame
  walk_at "awt"
  refine w_split (by decide +kernel) (by omega) ?_
  rw [show Txt.split (textT n ws e l r la) (Str.ofString " ") = wordsT n ws e l r la from sp]
  unfold wordsT
  walk_at "awt"
  refine w_consQ ?_
  walk_at "awt"
  rw [decide_eq_false (show ¬ n = Str.ofString "" from fun z => by have := g.gn.1; rw [z] at this; exact absurd this (by decide +kernel))]
  walk_at "awt"
  refine cond_dec (fun _ => ?_) (fun c => absurd rfl c)
  walk_at "awt"
  rw [show pickL ([Str.ofString "every", nt e, Str.ofString "long", nt l, Str.ofString "release", nt r, Str.ofString "last", nt la, Str.ofString "by", roadT ws].map D.str) (some 0) none 2 = [.str "every", .str "long", .str "release", .str "last", .str "by"] from by
    unfold pickL
    rw [List.length_map]
    show (sliceRange (sliceBounds (some 0) none (some 2) 10).1 (sliceBounds (some 0) none (some 2) 10).2.1 (sliceBounds (some 0) none (some 2) 10).2.2).filterMap _ = _
    rw [show sliceRange (sliceBounds (some 0) none (some 2) 10).1 (sliceBounds (some 0) none (some 2) 10).2.1 (sliceBounds (some 0) none (some 2) 10).2.2 = [0, 2, 4, 6, 8] by decide +kernel]
    rfl]
  refine ⟨by decide, ?_⟩
  walk_at "awt"
  obtain ⟨xs, exs⟩ : ∃ xs : List Int, xs = [e, l, r, la] := ⟨_, rfl⟩
  have okl : okD 8 (.lst [.str "every", .str "long", .str "release", .str "last", .str "by"]) = true := by decide +kernel
  refine w_neD okl okl ?_
  rw [deq_refl 8 _ okl]
  walk_at "awt"
  rw [show pickL ([Str.ofString "every", nt e, Str.ofString "long", nt l, Str.ofString "release", nt r, Str.ofString "last", nt la, Str.ofString "by", roadT ws].map D.str) (some 1) (some 8) 2 = xs.map fun i : Int => D.str (nt i) from by
    rw [exs]
    unfold pickL
    rw [List.length_map]
    show (sliceRange (sliceBounds (some 1) (some 8) (some 2) 10).1 (sliceBounds (some 1) (some 8) (some 2) 10).2.1 (sliceBounds (some 1) (some 8) (some 2) 10).2.2).filterMap _ = _
    rw [show sliceRange (sliceBounds (some 1) (some 8) (some 2) 10).1 (sliceBounds (some 1) (some 8) (some 2) 10).2.1 (sliceBounds (some 1) (some 8) (some 2) 10).2.2 = [1, 3, 5, 7] by decide +kernel]
    rfl]
  obtain ⟨r0, r1⟩ := g.gr
  obtain ⟨l0, l1⟩ := g.gl
  obtain ⟨a0, a1⟩ := g.ga
  have rl := road_len g.gw
  refine comp_mapA (fd := fun i : Int => D.str (nt i)) (fun i => .int i) (by rw [exs]; exact Nat.le_of_ble_eq_true rfl) (fun i hi Q hQ => ?_) ?_
  · rw [exs] at hi
    simp only [List.mem_cons, List.not_mem_nil, or_false] at hi
    walk_at "awt"
    refine read_number_A T (by omega) (by omega) ?_
    walk_at "awt"
    exact hQ
  rw [List.nil_append, exs]
  walk_at "awt"
  refine w_gL rfl ?_
  walk_at "awt"
  refine w_split (by decide +kernel) (by omega) ?_
  rw [show Txt.split (roadT ws) (Str.ofString "/") = ws.map fun w => Txt.join "." w from road_split g.gw]
  walk_at "awt"
  have wl : ws.length ≤ 2 := by rcases g.gw.len with e | e <;> omega
  rw [List.length_map, List.length_map]
  refine cond_dec (fun c => absurd c (by omega)) (fun c => ?_)
  walk_at "awt"
  refine w_inL rfl (flats_str _) ?_
  rw [inF_str, decide_eq_false (show ¬ Str.ofString "" ∈ ws.map fun w => Txt.join (Str.ofString ".") w from fun z => by
    obtain ⟨w, hw, ew⟩ := List.mem_map.mp z
    have gw := g.gw.all w hw
    have e1 := way_split_T gw
    rw [show Txt.join "." w = Str.ofString "" from ew, show Txt.split (Str.ofString "") "." = [Str.ofString ""] from by decide +kernel] at e1
    have := gw.len
    rw [← e1] at this
    simp at this)]
  walk_at "awt"
  rw [show (ws.map fun w => Txt.join (Str.ofString ".") w).map D.str = ws.map fun w => D.str (Txt.join "." w) from List.map_map ..]
  refine comp_mapA (fd := fun w => D.str (Txt.join "." w)) wayD (by show 0 + _ ≤ _; omega) (fun w hw Q hQ => ?_) ?_
  · have gw := g.gw.all w hw
    have := way_len gw
    walk_at "awt"
    refine w_split (by decide +kernel) (by omega) ?_
    rw [show Txt.split (Txt.join "." w) (Str.ofString ".") = w from way_split_T gw]
    walk_at "awt"
    exact hQ
  rw [List.nil_append]
  walk_at "awt"
  refine w_mk0 ?_
  walk_at "awt"
  exact ⟨rfl, rfl, rfl, frame_init_A T g h⟩
theorem w_blAV {Q : D → Prop} {b : Bool} (q : Q (.bl b)) : blAV Q (.fz (.bl b)) := q
abbrev endT : AEnds := ⟨fun _ => False, fun av _ => av = .fz (.bl true), fun _ => False, fun _ => False, fun _ _ => False⟩
theorem law_1_A (T : Tx K mg base) {n : Str} {ws : List (List Str)} {e l r la : Int} {o2 o4 : Option AV} (g : GoodFrame n ws e l r la) (e1 : e ≤ 120) :
    b_law_1 T endT [none, some .dr, o2, some (.fz (rowD n ws e l r la)), o4, none, none, none, none, none, none] := by
  have ok := okD_row g
  have rf := deq_refl 8 _ ok
  unfold b_law_1
  walk_at "awt"
  refine law_frame_A T g ?_
  walk_at "awt"
  refine ⟨rfl, str_A T g e1 (w_strAV ?_)⟩
  walk_at "awt"
  refine text_A T g e1 ?_
  walk_at "awt"
  refine read_frame_A T g e1 ?_
  walk_at "awt"
  refine law_fields_A T ?_
  walk_at "awt"
  refine text_A T g e1 ?_
  walk_at "awt"
  refine cond_dec (fun _ => ?_) (fun c => absurd rfl c)
  walk_at "awt"
  refine w_neD ok ok ?_
  rw [rf]
  unfold rowD
  walk_at "awt"
  refine comp_map (fun _ => .bl true) (Nat.le_of_ble_eq_true rfl) (fun d hd Q hQ => ?_) ?_
  · obtain ⟨i, rfl⟩ : ∃ i : Int, d = .int i := by
      have hd' : d ∈ [D.int e, .int l, .int r, .int la] := hd
      simp only [List.mem_cons, List.not_mem_nil, or_false] at hd'
      rcases hd' with h | h | h | h <;> exact ⟨_, h⟩
    walk_at "awt"
    refine law_whole_A T ?_
    walk_at "awt"
    exact hQ
  rw [List.nil_append]
  walk_at "awt"
  refine w_allT ?_
  walk_at "awt"
  unfold frD
  walk_at "awt"
  refine comp_mapA (fd := wayD) (fun _ => .bl true) (by show 0 + _ ≤ _; rcases g.gw.len with e | e <;> omega) (fun w hw Q hQ => ?_) ?_
  · unfold wayD
    walk_at "awt"
    exact hQ
  rw [List.nil_append, show (ws.map fun _ => D.bl true) = (ws.map wayD).map fun _ => D.bl true from by rw [List.map_map]; rfl]
  walk_at "awt"
  refine w_allT ?_
  walk_at "awt"
  refine w_ownEq ?_
  walk_at "awt"
  refine ⟨⟨rfl, rfl⟩, frame_eq_A T g g ?_⟩
  refine w_blAV ?_
  rw [rf]
  walk_at "awt"
  refine w_ownEq ?_
  walk_at "awt"
  refine ⟨⟨rfl, rfl⟩, frame_eq_A T g g ?_⟩
  refine w_blAV ?_
  rw [rf]
  walk_at "awt"
  refine ⟨rfl, str_A T g e1 (w_strAV ?_)⟩
  walk_at "awt"
  rw [decide_eq_true rfl]
theorem law_math (T : Tx K mg base) : b_law T endT (none :: some .dr :: List.replicate 9 none) := by
  rw [show (none :: some AV.dr :: List.replicate 9 none : Env) = [none, some .dr, none, none, none, none, none, none, none, none, none] from rfl]
  unfold b_law
  walk_at "aw"
  refine world_A T (most := 3) (by omega) (by omega) fun w ok => ?_
  have rm := ok.rm
  have ew : w.d = .tup [.lst (w.houses.map .str), .lst (w.gates.map .str), .lst (w.ls.map Ln.d), .lst (w.rows.map Row.d), .int w.slack, .lst (w.ns.map .str)] := rfl
  rw [ew]
  walk_at "awt"
  refine pick_A T (by rw [List.length_map]; exact ok.r1) (by rw [List.length_map]; omega) fun d hd => ?_
  obtain ⟨r, hr, rfl⟩ := List.mem_map.mp hd
  have g := row_good ok hr
  obtain ⟨e0, e120⟩ : 1 ≤ r.every ∧ r.every ≤ 120 := by
    have := g.ge
    simp only [List.mem_cons, List.not_mem_nil, or_false] at this
    omega
  walk_at "awt"
  refine w_draw (by omega) (by omega) fun k k0 k1 => ?_
  walk_at "awt"
  refine cond_dec (fun hc => ?_) (fun hc => ?_)
  · walk_at "awt"
    refine w_draw (by omega) (by omega) fun x x0 x1 => ?_
    unfold Row.d
    walk_at "awt"
    refine w_draw (by omega) (by omega) fun y y0 y1 => ?_
    walk_at "awt"
    refine w_draw (by omega) (by omega) fun z z0 z1 => ?_
    walk_at "awt"
    have g' : GoodFrame r.n r.ways r.every (1 + 29 * x) ((r.every - 1) * y) (1 + 479 * z) := ⟨g.gn, g.gw, g.ge, ⟨by omega, by omega⟩, by
      rcases (show y = 0 ∨ y = 1 by omega) with rfl | rfl
      · exact ⟨by omega, by omega⟩
      · exact ⟨by omega, by omega⟩, ⟨by omega, by omega⟩⟩
    exact law_1_A T g' e120
  · walk_at "awt"
    exact law_1_A T g e120
theorem ok_law (T : Tx K mg base) : FnOk P w K mg base CX0 7 T.f_law T.fd_law ["_law_script"] (spLaw K T.tb) := by
  refine T.F_law.ok sc_law (fun vs H Q E h => ?_) (fun cdv A outer s0 H vs Q E hr h => ?_)
  · obtain ⟨a, ns, rfl, _⟩ := h
    rfl
  · obtain ⟨a, ns, rfl, hS, hlen, hbits, htb, q⟩ := h
    have cl_Frame := T.C_Frame
    have na_Frame_ways := T.N_Frame_ways
    refine ⟨_, (pss_cons (ps_set (i := 1) sc_law.nd rfl (Or.inl rfl) (pe_call (ok_law_start T) (hr.mono (by decide)) (by rfl) T.g_law_start T.F_law_start.kp T.b_law_start .nil pass0 (pa_cons (pv 0) pa_nil)))
      (pss_cons (ps_set (i := 2) sc_law.nd rfl (Or.inl rfl) (pe_call (ok_law_world T) (hr.mono (by decide)) (by rfl) T.g_law_world T.F_law_world.kp T.b_law_world .nil pass0 (pa_cons (pv 1) (pa_cons pe_int pa_nil))))
      (pss_cons (ps_set (i := 3) sc_law.nd rfl (Or.inl rfl) (pe_call (ok_law_pick T) (hr.mono (by decide)) (by rfl) T.g_law_pick T.F_law_pick.kp T.b_law_pick .nil pass0 (pa_cons (pv 1) (pa_cons (pe_ix (ix_tupK (K := K) rfl) (pv 2) pe_int (fun _ _ => rfl)) pa_nil))))
      (pss_cons (ps_if (pt_cmpR op_eq (pe_call (ok_law_draw T) (hr.mono (by decide)) (by rfl) T.g_law_draw T.F_law_draw.kp T.b_law_draw .nil pass0 (pa_cons (pv 1) (pa_cons pe_int pa_nil))) pe_int (nomark _))
      (pss_cons (ps_set (i := 4) sc_law.nd rfl (Or.inl rfl) (pe_tup (pa_cons (pe_op op_add pe_int (pe_op op_mul pe_int (pe_call (ok_law_draw T) (hr.mono (by decide)) (by rfl) T.g_law_draw T.F_law_draw.kp T.b_law_draw .nil pass0 (pa_cons (pv 1) (pa_cons pe_int pa_nil))))) (pa_cons (pe_op op_mul (pe_op op_sub (pe_ix (ix_tupK (K := K) rfl) (pv 3) pe_int (fun _ _ => rfl)) pe_int) (pe_call (ok_law_draw T) (hr.mono (by decide)) (by rfl) T.g_law_draw T.F_law_draw.kp T.b_law_draw .nil pass0 (pa_cons (pv 1) (pa_cons pe_int pa_nil)))) pa_nil))))
      (pss_one (ps_set (i := 3) sc_law.nd rfl (Or.inl rfl) (pe_op (op_catAK (K := K) rfl) (pe_op (op_catAK (K := K) rfl) (pe_slice (sl_tupAK (K := K) rfl) (pv 3) po_none (po_some pe_int)) (pv 4)) (pe_tup (pa_cons (pe_op op_add pe_int (pe_op op_mul pe_int (pe_call (ok_law_draw T) (hr.mono (by decide)) (by rfl) T.g_law_draw T.F_law_draw.kp T.b_law_draw .nil pass0 (pa_cons (pv 1) (pa_cons pe_int pa_nil))))) pa_nil))))))
      pss_nil)
      (pss_cons (ps_set (i := 5) sc_law.nd rfl (Or.inl rfl) (pe_call (ok_law_frame T) (hr.mono (by decide)) (by rfl) T.g_law_frame T.F_law_frame.kp T.b_law_frame .nil pass0 (pa_cons (pv 3) pa_nil)))
      (pss_cons (ps_set (i := 6) sc_law.nd rfl (Or.inl rfl) (pe_callTy (cr_strOwn (ok_Frame_str T) (hr.mono (by decide)) T.m_Frame_str T.b_Frame_str pass0) (by rfl) T.z_str bt_str (pa_cons (pv 5) pa_nil)))
      (pss_cons (ps_set (i := 7) sc_law.nd rfl (Or.inl rfl) (pe_call (ok_read_frame T) (hr.mono (by decide)) (by rfl) T.g_read_frame T.F_read_frame.kp T.b_read_frame .nil pass0 (pa_cons (pe_call (ok_law_text T) (hr.mono (by decide)) (by rfl) T.g_law_text T.F_law_text.kp T.b_law_text .nil pass0 (pa_cons (pv 3) pa_nil)) pa_nil)))
      (pss_cons (ps_set (i := 8) sc_law.nd rfl (Or.inl rfl) (pe_call (ok_law_fields T) (hr.mono (by decide)) (by rfl) T.g_law_fields T.F_law_fields.kp T.b_law_fields .nil pass0 (pa_cons (pv 7) pa_nil)))
      (pss_cons (ps_if ((pw_or (pt_cmpR op_ne (pv 6) (pe_call (ok_law_text T) (hr.mono (by decide)) (by rfl) T.g_law_text T.F_law_text.kp T.b_law_text .nil pass0 (pa_cons (pv 3) pa_nil)) (nomark _)) (pw_or (pt_cmpR (op_neDK (K := K) rfl hr.units) (pv 8) (pv 3) (nomark _)) (pw_or1 (pt_not (pt_val (pe_callB (cr_allK (K := K) rfl (by rfl)) (by rfl) T.z_all bt_all (pa_cons (pe_lc (own := [("_law_x", 9)]) (by rfl) sc_law.nd (pi_tupK (K := K) rfl (pe_slice (sl_tupAK (K := K) rfl) (pv 8) (po_some pe_int) po_none)) (blkOk_by (own := [("_law_x", 9)]) (N := ["_law_script", "_law_s", "_law_world_here", "_law_row_here", "_law_numbers", "_law_frame_here", "_law_told", "_law_back", "_law_fields_here", "_law_x", "_law_way_here"]) (sc := defScope s_law) (by decide +kernel)) (fun _ _ _ _ _ => (pg_name (i := 9) sc_law.nd rfl (Or.inl rfl))) (fun _ _ _ _ _ => pts_nil) (fun _ _ _ _ _ => (pe_call (ok_law_whole T) (hr.mono (by decide)) (by rfl) T.g_law_whole T.F_law_whole.kp T.b_law_whole .nil pass0 (pa_cons (pv 9) pa_nil)))) pa_nil)))))))).pt
      (pss_one (ps_ret pe_bl))
      pss_nil)
      (pss_cons (ps_if ((pw_or (pt_not (pt_val (pe_callB (call_isiKK (K := K) rfl) (by rfl) T.z_isinstance bt_isinstance (pa_cons (pe_fldK (K := K) rfl (pv 7) rfl) (pa_cons (pe_bltn (v := .ty "tuple") (by rfl) T.z_tuple bt_tuple rfl) pa_nil))))) (pw_or1 (pt_not (pt_val (pe_callB (cr_allK (K := K) rfl (by rfl)) (by rfl) T.z_all bt_all (pa_cons (pe_lc (own := [("_law_way_here", 10)]) (by rfl) sc_law.nd (pi_tupK (K := K) rfl (pe_fldK (K := K) rfl (pv 7) rfl)) (blkOk_by (own := [("_law_way_here", 10)]) (N := ["_law_script", "_law_s", "_law_world_here", "_law_row_here", "_law_numbers", "_law_frame_here", "_law_told", "_law_back", "_law_fields_here", "_law_x", "_law_way_here"]) (sc := defScope s_law) (by decide +kernel)) (fun _ _ _ _ _ => (pg_name (i := 10) sc_law.nd rfl (Or.inl rfl))) (fun _ _ _ _ _ => pts_nil) (fun _ _ _ _ _ => (pe_callB (call_isiKK (K := K) rfl) (by rfl) T.z_isinstance bt_isinstance (pa_cons (pv 10) (pa_cons (pe_bltn (v := .ty "tuple") (by rfl) T.z_tuple bt_tuple rfl) pa_nil))))) pa_nil))))))).pt
      (pss_one (ps_ret pe_bl))
      pss_nil)
      (pss_one (ps_ret (pe_and (pe_cmpR (op_ownEq (ok_Frame_eq T) (hr.mono (by decide)) T.I_Frame T.m_Frame_eq T.b_Frame_eq pass0) (pv 7) (pv 5) (by with_unfolding_all rfl)) (pe_and (pe_cmpR (op_ownEq (ok_Frame_eq T) (hr.mono (by decide)) T.I_Frame T.m_Frame_eq T.b_Frame_eq pass0) (pv 5) (pv 7) (by with_unfolding_all rfl)) (pe_one (pe_cmpR op_eq (pe_callTy (cr_strOwn (ok_Frame_str T) (hr.mono (by decide)) T.m_Frame_str T.b_Frame_str pass0) (by rfl) T.z_str bt_str (pa_cons (pv 7) pa_nil)) (pv 6) (nomark _))))))))))))))))), ?_⟩
    refine i_seq (i_set (i_call (i_cons (i_var rfl (i_nil ?_)))))
    refine ⟨a, ns, fun _ => none, rfl, hS, fun _ _ z => (nomatch z), fun s U H1 g D n0 => ?_⟩
    refine law_run (K := K) (nl := 9) (x := a) (U := fun _ => none) ⟨htb, fun _ _ z => (by cases z)⟩ g D n0 q (fun U0 H0 X E => ?_) (law_math T)
    unfold b_law b_law_1
    exact (sim_seq (sim_set rfl (sim_fz (sim_call (sim_slot (sim_arg sim_int sim_args)))))
    (sim_seq (sim_set rfl (sim_fz (sim_call (sim_slot (sim_arg (sim_op op_ixT (SimE.w sim_var) (SimE.w sim_int)) sim_args)))))
    (sim_seq (sim_if (sim_test (SimE.w (sim_op op_eqS (SimE.w (sim_fz (sim_call (sim_slot (sim_arg sim_int sim_args))))) (SimE.w sim_int))))
    (sim_seq (sim_set rfl (sim_tup (sim_cons (sim_op (op_i0 (fun _ _ _ => rfl)) (SimE.w sim_int) (SimE.w (sim_op (op_ic (fun _ _ _ => rfl)) (SimE.w sim_int) (SimE.w (sim_fz (sim_call (sim_slot (sim_arg sim_int sim_args)))))))) (sim_cons (sim_op (op_ic (fun _ _ _ => rfl)) (SimE.w (sim_op (op_i0 (fun _ _ _ => rfl)) (SimE.w (sim_op op_ixT (SimE.w sim_var) (SimE.w sim_int))) (SimE.w sim_int))) (SimE.w (sim_fz (sim_call (sim_slot (sim_arg sim_int sim_args)))))) sim_nil))))
    (sim_set rfl (sim_op op_catTD (SimE.w (sim_op op_catTD (SimE.w (sim_sl sl_tD (SimE.w sim_var) sim_noPart (sim_part (SimE.w sim_int)))) (SimE.w sim_var))) (SimE.w (sim_tup (sim_cons (sim_op (op_i0 (fun _ _ _ => rfl)) (SimE.w sim_int) (SimE.w (sim_op (op_ic (fun _ _ _ => rfl)) (SimE.w sim_int) (SimE.w (sim_fz (sim_call (sim_slot (sim_arg sim_int sim_args)))))))) sim_nil))))))
    sim_next)
    (sim_seq (sim_set rfl (sim_fz (sim_call (sim_arg sim_var sim_args))))
    (sim_seq (sim_set rfl (sim_strO sim_var))
    (sim_seq (sim_set rfl (sim_fz (sim_call (sim_arg (sim_fz (sim_call (sim_arg sim_var sim_args))) sim_args))))
    (sim_seq (sim_set rfl (sim_fz (sim_call (sim_arg sim_var sim_args))))
    (sim_seq (sim_if (sim_or (sim_test (SimE.w (sim_op op_neS (SimE.w sim_var) (SimE.w (sim_fz (sim_call (sim_arg sim_var sim_args))))))) (sim_or (sim_test (SimE.w (sim_op op_neDD (SimE.w sim_var) (SimE.w sim_var)))) (sim_not (sim_test (SimE.w (sim_cb bu_all (sim_consW (SimE.w (sim_fz (sim_lc (SimI.w (sim_itT (sim_sl sl_tD (SimE.w sim_var) (sim_part (SimE.w sim_int)) sim_noPart))) (sim_gN rfl) sim_yes (sim_fz (sim_call (sim_arg sim_var sim_args))) rfl rfl))) sim_nilW)))))))
    (sim_ret sim_bl)
    sim_next)
    (sim_seq (sim_if (sim_or (sim_not (sim_test (SimE.w (sim_cb bu_isi (sim_consW (SimE.w (sim_fld (by assumption) (by assumption) (SimE.w sim_var))) (sim_consW (SimE.w sim_ty) sim_nilW)))))) (sim_not (sim_test (SimE.w (sim_cb bu_all (sim_consW (SimE.w (sim_fz (sim_lc (SimI.w (sim_itT (sim_fld (by assumption) (by assumption) (SimE.w sim_var)))) (sim_gN rfl) sim_yes (sim_cb bu_isi (sim_consW (SimE.w sim_var) (sim_consW (SimE.w sim_ty) sim_nilW))) rfl rfl))) sim_nilW))))))
    (sim_ret sim_bl)
    sim_next)
    (sim_ret (sim_andV (SimE.w (sim_ownEq sim_var sim_var)) (sim_andV (SimE.w (sim_ownEq sim_var sim_var)) (sim_op op_eqS (SimE.w (sim_strO sim_var)) (SimE.w sim_var))))))))))))))
end
theorem all_mk {l : PySem.W.OpenLaw} {w : World} {K : PySem.W.Frag} {h : Heap} {mg : Str → Option Value} {fa : Addr} (X : K.In h) (G : h.Ns mainGlobals mg) (hfa : mg "law" = some (.ref fa))
    {oc_Frame : Addr}
    {f0 : Addr} {od0 an0 : Option Addr} {sl0 : Array (Option Value)} {oc0 kV0 dc0 pm0 cd0 ct0 : Value}
    {f1 : Addr} {od1 an1 : Option Addr} {sl1 : Array (Option Value)} {oc1 kV1 dc1 pm1 cd1 ct1 : Value}
    {f2 : Addr} {od2 an2 : Option Addr} {sl2 : Array (Option Value)} {oc2 kV2 dc2 pm2 cd2 ct2 : Value}
    {f3 : Addr} {od3 an3 : Option Addr} {sl3 : Array (Option Value)} {oc3 kV3 dc3 pm3 cd3 ct3 : Value}
    {f4 : Addr} {od4 an4 : Option Addr} {sl4 : Array (Option Value)} {oc4 kV4 dc4 pm4 cd4 ct4 : Value}
    {f5 : Addr} {od5 an5 : Option Addr} {sl5 : Array (Option Value)} {oc5 dc5 pm5 cd5 ct5 : Value} {DD5 : Addr} {tk5_0 : Tok} {tk5_1 : Tok} {tk5_2 : Tok}
    {f6 : Addr} {od6 an6 : Option Addr} {sl6 : Array (Option Value)} {oc6 kV6 dc6 pm6 cd6 ct6 : Value}
    {f7 : Addr} {od7 an7 : Option Addr} {sl7 : Array (Option Value)} {oc7 kV7 dc7 pm7 cd7 ct7 : Value}
    {f8 : Addr} {od8 an8 : Option Addr} {sl8 : Array (Option Value)} {oc8 kV8 dc8 pm8 cd8 ct8 : Value}
    {f9 : Addr} {od9 an9 : Option Addr} {sl9 : Array (Option Value)} {oc9 kV9 dc9 pm9 cd9 ct9 : Value}
    {f10 : Addr} {od10 an10 : Option Addr} {sl10 : Array (Option Value)} {oc10 kV10 dc10 pm10 cd10 ct10 : Value}
    {f11 : Addr} {od11 an11 : Option Addr} {sl11 : Array (Option Value)} {oc11 kV11 dc11 pm11 cd11 ct11 : Value}
    {f12 : Addr} {od12 an12 : Option Addr} {sl12 : Array (Option Value)} {oc12 kV12 dc12 pm12 cd12 ct12 : Value}
    {f13 : Addr} {od13 an13 : Option Addr} {sl13 : Array (Option Value)} {oc13 kV13 dc13 pm13 cd13 ct13 : Value}
    {f14 : Addr} {od14 an14 : Option Addr} {sl14 : Array (Option Value)} {oc14 kV14 dc14 pm14 cd14 ct14 : Value}
    {f15 : Addr} {od15 an15 : Option Addr} {sl15 : Array (Option Value)} {oc15 kV15 dc15 pm15 cd15 ct15 : Value}
    {f16 : Addr} {od16 an16 : Option Addr} {sl16 : Array (Option Value)} {oc16 kV16 dc16 pm16 cd16 ct16 : Value}
    {f17 : Addr} {od17 an17 : Option Addr} {sl17 : Array (Option Value)} {oc17 kV17 dc17 pm17 cd17 ct17 : Value}
    {f18 : Addr} {od18 an18 : Option Addr} {sl18 : Array (Option Value)} {oc18 kV18 dc18 pm18 cd18 ct18 : Value}
    {f19 : Addr} {od19 an19 : Option Addr} {sl19 : Array (Option Value)} {oc19 kV19 dc19 pm19 cd19 ct19 : Value}
    {f20 : Addr} {od20 an20 : Option Addr} {sl20 : Array (Option Value)} {oc20 kV20 dc20 pm20 cd20 ct20 : Value}
    {f21 : Addr} {od21 an21 : Option Addr} {sl21 : Array (Option Value)} {oc21 kV21 dc21 pm21 cd21 ct21 : Value}
    {f22 : Addr} {od22 an22 : Option Addr} {sl22 : Array (Option Value)} {oc22 kV22 dc22 pm22 cd22 ct22 : Value}
    {f23 : Addr} {od23 an23 : Option Addr} {sl23 : Array (Option Value)} {oc23 kV23 dc23 pm23 cd23 ct23 : Value}
    {f24 : Addr} {od24 an24 : Option Addr} {sl24 : Array (Option Value)} {oc24 kV24 dc24 pm24 cd24 ct24 : Value}
    {tc_LAST : Tok}
    {tc_LETTERS : Tok}
    {tc_LONGEST : Tok}
    {cc_ROUNDS : Addr} {cd_ROUNDS : Option Addr} {cn_ROUNDS : Nat} {cs_ROUNDS : Array (Option Value)} {ct_ROUNDS_0 ct_ROUNDS_1 ct_ROUNDS_2 ct_ROUNDS_3 ct_ROUNDS_4 ct_ROUNDS_5 ct_ROUNDS_6 ct_ROUNDS_7 ct_ROUNDS_8 ct_ROUNDS_9 ct_ROUNDS_10 ct_ROUNDS_11 ct_ROUNDS_12 : Tok}
    {ec_NetError : Addr} {ec_BadName : Addr} {ec_BadNumber : Addr} {ec_BadWay : Addr} {ec_BadLine : Addr}
    (oa_Frame : PySem.W.nsIn K mainGlobals "Frame" = some (some (.ref oc_Frame))) (opg_Frame : PySem.W.plainGet K oc_Frame Str.empty = true) (ohd_Frame : PySem.W.hasDictIn K oc_Frame = true) (opo_Frame : PySem.W.plainOver K oc_Frame = true) (osa_Frame : PySem.W.findIn K (.ref oc_Frame) "__setattr__" = some (some (.builtin "object.__setattr__")))
    (on_Frame_name : PySem.W.findIn K (.ref oc_Frame) "name" = some none)
    (on_Frame_ways : PySem.W.findIn K (.ref oc_Frame) "ways" = some none)
    (on_Frame_every : PySem.W.findIn K (.ref oc_Frame) "every" = some none)
    (on_Frame_long : PySem.W.findIn K (.ref oc_Frame) "long" = some none)
    (on_Frame_release : PySem.W.findIn K (.ref oc_Frame) "release" = some none)
    (on_Frame_last : PySem.W.findIn K (.ref oc_Frame) "last" = some none)
    (iA_Frame : PySem.W.kitCls K (.type "str") (.ref oc_Frame) = some false) (iB_Frame : PySem.W.findIn K (.ref oc_Frame) "__class__" = some (some (.builtin "object.__class__"))) (iC_Frame : PySem.W.specialIn K (.builtin "object.__class__") "__get__" = some (some (.builtin "getset_descriptor.__get__"))) (iD_Frame : PySem.W.takesIn K (.builtin "object.__class__") = some true) (iE_Frame : PySem.W.mroIn K oc_Frame (.type "object") = some true) (iF_Frame : PySem.W.subIn K (.type "str") (.ref oc_Frame) = some false)
    (omk_Frame : PySem.W.makesIn K oc_Frame = true) (okp_Frame : PySem.W.keepIn K (.ref oc_Frame) = true)
    (a0 : PySem.W.nsIn K mainGlobals "within" = some (some (.ref f0))) (l0 : K.lookup f0 = some ⟨oc0, od0, .func (PySem.W.fnOf "within" "within" (defArgs s_within) (defBody s_within) (defScope s_within) .none kV0 dc0 pm0 an0 cd0 ct0), sl0⟩) (c0 : PySem.W.codeIn K cd0 "within" = true) (k0 : PySem.W.keepIn K (.ref f0) = true)
    (a1 : PySem.W.nsIn K mainGlobals "check" = some (some (.ref f1))) (l1 : K.lookup f1 = some ⟨oc1, od1, .func (PySem.W.fnOf "check" "check" (defArgs s_check) (defBody s_check) (defScope s_check) .none kV1 dc1 pm1 an1 cd1 ct1), sl1⟩) (c1 : PySem.W.codeIn K cd1 "check" = true) (k1 : PySem.W.keepIn K (.ref f1) = true)
    (a2 : PySem.W.nsIn K mainGlobals "good_name" = some (some (.ref f2))) (l2 : K.lookup f2 = some ⟨oc2, od2, .func (PySem.W.fnOf "good_name" "good_name" (defArgs s_good_name) (defBody s_good_name) (defScope s_good_name) .none kV2 dc2 pm2 an2 cd2 ct2), sl2⟩) (c2 : PySem.W.codeIn K cd2 "good_name" = true) (k2 : PySem.W.keepIn K (.ref f2) = true)
    (a3 : PySem.W.nsIn K mainGlobals "good_way" = some (some (.ref f3))) (l3 : K.lookup f3 = some ⟨oc3, od3, .func (PySem.W.fnOf "good_way" "good_way" (defArgs s_good_way) (defBody s_good_way) (defScope s_good_way) .none kV3 dc3 pm3 an3 cd3 ct3), sl3⟩) (c3 : PySem.W.codeIn K cd3 "good_way" = true) (k3 : PySem.W.keepIn K (.ref f3) = true)
    (a4 : PySem.W.nsIn K mainGlobals "good_ways" = some (some (.ref f4))) (l4 : K.lookup f4 = some ⟨oc4, od4, .func (PySem.W.fnOf "good_ways" "good_ways" (defArgs s_good_ways) (defBody s_good_ways) (defScope s_good_ways) .none kV4 dc4 pm4 an4 cd4 ct4), sl4⟩) (c4 : PySem.W.codeIn K cd4 "good_ways" = true) (k4 : PySem.W.keepIn K (.ref f4) = true)
    (a5 : PySem.W.findIn K (.ref oc_Frame) "__init__" = some (some (.ref f5))) (i5 : PySem.W.isFn K (.ref f5) = true) (l5 : K.lookup f5 = some ⟨oc5, od5, .func (PySem.W.fnOf "__init__" "Frame.__init__" (defArgs s_Frame_init) (defBody s_Frame_init) (defScope s_Frame_init) .none (.ref DD5) dc5 pm5 an5 cd5 ct5), sl5⟩) (c5 : PySem.W.codeIn K cd5 "Frame.__init__" = true) (k5 : PySem.W.keepIn K (.ref f5) = true)
    (q5_0 : PySem.W.nsIn K DD5 "long" = some (some (.int 1 tk5_0)))
    (q5_1 : PySem.W.nsIn K DD5 "release" = some (some (.int 0 tk5_1)))
    (q5_2 : PySem.W.nsIn K DD5 "last" = some (some (.int 480 tk5_2)))
    (a6 : PySem.W.findIn K (.ref oc_Frame) "numbers" = some (some (.ref f6))) (i6 : PySem.W.isFn K (.ref f6) = true) (l6 : K.lookup f6 = some ⟨oc6, od6, .func (PySem.W.fnOf "numbers" "Frame.numbers" (defArgs s_Frame_numbers) (defBody s_Frame_numbers) (defScope s_Frame_numbers) .none kV6 dc6 pm6 an6 cd6 ct6), sl6⟩) (c6 : PySem.W.codeIn K cd6 "Frame.numbers" = true) (k6 : PySem.W.keepIn K (.ref f6) = true)
    (a7 : PySem.W.findIn K (.ref oc_Frame) "__eq__" = some (some (.ref f7))) (i7 : PySem.W.isFn K (.ref f7) = true) (l7 : K.lookup f7 = some ⟨oc7, od7, .func (PySem.W.fnOf "__eq__" "Frame.__eq__" (defArgs s_Frame_eq) (defBody s_Frame_eq) (defScope s_Frame_eq) .none kV7 dc7 pm7 an7 cd7 ct7), sl7⟩) (c7 : PySem.W.codeIn K cd7 "Frame.__eq__" = true) (k7 : PySem.W.keepIn K (.ref f7) = true)
    (a8 : PySem.W.findIn K (.ref oc_Frame) "__str__" = some (some (.ref f8))) (i8 : PySem.W.isFn K (.ref f8) = true) (l8 : K.lookup f8 = some ⟨oc8, od8, .func (PySem.W.fnOf "__str__" "Frame.__str__" (defArgs s_Frame_str) (defBody s_Frame_str) (defScope s_Frame_str) .none kV8 dc8 pm8 an8 cd8 ct8), sl8⟩) (c8 : PySem.W.codeIn K cd8 "Frame.__str__" = true) (k8 : PySem.W.keepIn K (.ref f8) = true)
    (a9 : PySem.W.nsIn K mainGlobals "read_number" = some (some (.ref f9))) (l9 : K.lookup f9 = some ⟨oc9, od9, .func (PySem.W.fnOf "read_number" "read_number" (defArgs s_read_number) (defBody s_read_number) (defScope s_read_number) .none kV9 dc9 pm9 an9 cd9 ct9), sl9⟩) (c9 : PySem.W.codeIn K cd9 "read_number" = true) (k9 : PySem.W.keepIn K (.ref f9) = true)
    (a10 : PySem.W.nsIn K mainGlobals "read_frame" = some (some (.ref f10))) (l10 : K.lookup f10 = some ⟨oc10, od10, .func (PySem.W.fnOf "read_frame" "read_frame" (defArgs s_read_frame) (defBody s_read_frame) (defScope s_read_frame) .none kV10 dc10 pm10 an10 cd10 ct10), sl10⟩) (c10 : PySem.W.codeIn K cd10 "read_frame" = true) (k10 : PySem.W.keepIn K (.ref f10) = true)
    (a11 : PySem.W.nsIn K mainGlobals "_law_start" = some (some (.ref f11))) (l11 : K.lookup f11 = some ⟨oc11, od11, .func (PySem.W.fnOf "_law_start" "_law_start" (defArgs s_law_start) (defBody s_law_start) (defScope s_law_start) .none kV11 dc11 pm11 an11 cd11 ct11), sl11⟩) (c11 : PySem.W.codeIn K cd11 "_law_start" = true) (k11 : PySem.W.keepIn K (.ref f11) = true)
    (a12 : PySem.W.nsIn K mainGlobals "_law_draw" = some (some (.ref f12))) (l12 : K.lookup f12 = some ⟨oc12, od12, .func (PySem.W.fnOf "_law_draw" "_law_draw" (defArgs s_law_draw) (defBody s_law_draw) (defScope s_law_draw) .none kV12 dc12 pm12 an12 cd12 ct12), sl12⟩) (c12 : PySem.W.codeIn K cd12 "_law_draw" = true) (k12 : PySem.W.keepIn K (.ref f12) = true)
    (a13 : PySem.W.nsIn K mainGlobals "_law_pick" = some (some (.ref f13))) (l13 : K.lookup f13 = some ⟨oc13, od13, .func (PySem.W.fnOf "_law_pick" "_law_pick" (defArgs s_law_pick) (defBody s_law_pick) (defScope s_law_pick) .none kV13 dc13 pm13 an13 cd13 ct13), sl13⟩) (c13 : PySem.W.codeIn K cd13 "_law_pick" = true) (k13 : PySem.W.keepIn K (.ref f13) = true)
    (a14 : PySem.W.nsIn K mainGlobals "_law_name" = some (some (.ref f14))) (l14 : K.lookup f14 = some ⟨oc14, od14, .func (PySem.W.fnOf "_law_name" "_law_name" (defArgs s_law_name) (defBody s_law_name) (defScope s_law_name) .none kV14 dc14 pm14 an14 cd14 ct14), sl14⟩) (c14 : PySem.W.codeIn K cd14 "_law_name" = true) (k14 : PySem.W.keepIn K (.ref f14) = true)
    (a15 : PySem.W.nsIn K mainGlobals "_law_hop" = some (some (.ref f15))) (l15 : K.lookup f15 = some ⟨oc15, od15, .func (PySem.W.fnOf "_law_hop" "_law_hop" (defArgs s_law_hop) (defBody s_law_hop) (defScope s_law_hop) .none kV15 dc15 pm15 an15 cd15 ct15), sl15⟩) (c15 : PySem.W.codeIn K cd15 "_law_hop" = true) (k15 : PySem.W.keepIn K (.ref f15) = true)
    (a16 : PySem.W.nsIn K mainGlobals "_law_way" = some (some (.ref f16))) (l16 : K.lookup f16 = some ⟨oc16, od16, .func (PySem.W.fnOf "_law_way" "_law_way" (defArgs s_law_way) (defBody s_law_way) (defScope s_law_way) .none kV16 dc16 pm16 an16 cd16 ct16), sl16⟩) (c16 : PySem.W.codeIn K cd16 "_law_way" = true) (k16 : PySem.W.keepIn K (.ref f16) = true)
    (a17 : PySem.W.nsIn K mainGlobals "_law_need" = some (some (.ref f17))) (l17 : K.lookup f17 = some ⟨oc17, od17, .func (PySem.W.fnOf "_law_need" "_law_need" (defArgs s_law_need) (defBody s_law_need) (defScope s_law_need) .none kV17 dc17 pm17 an17 cd17 ct17), sl17⟩) (c17 : PySem.W.codeIn K cd17 "_law_need" = true) (k17 : PySem.W.keepIn K (.ref f17) = true)
    (a18 : PySem.W.nsIn K mainGlobals "_law_row" = some (some (.ref f18))) (l18 : K.lookup f18 = some ⟨oc18, od18, .func (PySem.W.fnOf "_law_row" "_law_row" (defArgs s_law_row) (defBody s_law_row) (defScope s_law_row) .none kV18 dc18 pm18 an18 cd18 ct18), sl18⟩) (c18 : PySem.W.codeIn K cd18 "_law_row" = true) (k18 : PySem.W.keepIn K (.ref f18) = true)
    (a19 : PySem.W.nsIn K mainGlobals "_law_world" = some (some (.ref f19))) (l19 : K.lookup f19 = some ⟨oc19, od19, .func (PySem.W.fnOf "_law_world" "_law_world" (defArgs s_law_world) (defBody s_law_world) (defScope s_law_world) .none kV19 dc19 pm19 an19 cd19 ct19), sl19⟩) (c19 : PySem.W.codeIn K cd19 "_law_world" = true) (k19 : PySem.W.keepIn K (.ref f19) = true)
    (a20 : PySem.W.nsIn K mainGlobals "_law_frame" = some (some (.ref f20))) (l20 : K.lookup f20 = some ⟨oc20, od20, .func (PySem.W.fnOf "_law_frame" "_law_frame" (defArgs s_law_frame) (defBody s_law_frame) (defScope s_law_frame) .none kV20 dc20 pm20 an20 cd20 ct20), sl20⟩) (c20 : PySem.W.codeIn K cd20 "_law_frame" = true) (k20 : PySem.W.keepIn K (.ref f20) = true)
    (a21 : PySem.W.nsIn K mainGlobals "_law_text" = some (some (.ref f21))) (l21 : K.lookup f21 = some ⟨oc21, od21, .func (PySem.W.fnOf "_law_text" "_law_text" (defArgs s_law_text) (defBody s_law_text) (defScope s_law_text) .none kV21 dc21 pm21 an21 cd21 ct21), sl21⟩) (c21 : PySem.W.codeIn K cd21 "_law_text" = true) (k21 : PySem.W.keepIn K (.ref f21) = true)
    (a22 : PySem.W.nsIn K mainGlobals "_law_whole" = some (some (.ref f22))) (l22 : K.lookup f22 = some ⟨oc22, od22, .func (PySem.W.fnOf "_law_whole" "_law_whole" (defArgs s_law_whole) (defBody s_law_whole) (defScope s_law_whole) .none kV22 dc22 pm22 an22 cd22 ct22), sl22⟩) (c22 : PySem.W.codeIn K cd22 "_law_whole" = true) (k22 : PySem.W.keepIn K (.ref f22) = true)
    (a23 : PySem.W.nsIn K mainGlobals "_law_fields" = some (some (.ref f23))) (l23 : K.lookup f23 = some ⟨oc23, od23, .func (PySem.W.fnOf "_law_fields" "_law_fields" (defArgs s_law_fields) (defBody s_law_fields) (defScope s_law_fields) .none kV23 dc23 pm23 an23 cd23 ct23), sl23⟩) (c23 : PySem.W.codeIn K cd23 "_law_fields" = true) (k23 : PySem.W.keepIn K (.ref f23) = true)
    (a24 : PySem.W.nsIn K mainGlobals "law" = some (some (.ref f24))) (l24 : K.lookup f24 = some ⟨oc24, od24, .func (PySem.W.fnOf "law" "law" (defArgs s_law) (defBody s_law) (defScope s_law) .none kV24 dc24 pm24 an24 cd24 ct24), sl24⟩) (c24 : PySem.W.codeIn K cd24 "law" = true) (k24 : PySem.W.keepIn K (.ref f24) = true)
    (ac_LAST : PySem.W.nsIn K mainGlobals "LAST" = some (some (.int 480 tc_LAST)))
    (ac_LETTERS : PySem.W.nsIn K mainGlobals "LETTERS" = some (some (.str "abcdefghijklmnopqrstuvwxyz" tc_LETTERS)))
    (ac_LONGEST : PySem.W.nsIn K mainGlobals "LONGEST" = some (some (.int 30 tc_LONGEST)))
    (ac_ROUNDS : PySem.W.nsIn K mainGlobals "ROUNDS" = some (some (.ref cc_ROUNDS))) (lc_ROUNDS : K.lookup cc_ROUNDS = some ⟨.type "tuple", cd_ROUNDS, .seq #[.int 4 ct_ROUNDS_0, .int 5 ct_ROUNDS_1, .int 6 ct_ROUNDS_2, .int 8 ct_ROUNDS_3, .int 10 ct_ROUNDS_4, .int 12 ct_ROUNDS_5, .int 15 ct_ROUNDS_6, .int 20 ct_ROUNDS_7, .int 24 ct_ROUNDS_8, .int 30 ct_ROUNDS_9, .int 40 ct_ROUNDS_10, .int 60 ct_ROUNDS_11, .int 120 ct_ROUNDS_12] cn_ROUNDS, cs_ROUNDS⟩)
    (z_abs : PySem.W.nsIn K mainGlobals "abs" = some none)
    (z_all : PySem.W.nsIn K mainGlobals "all" = some none)
    (z_any : PySem.W.nsIn K mainGlobals "any" = some none)
    (z_bool : PySem.W.nsIn K mainGlobals "bool" = some none)
    (z_int : PySem.W.nsIn K mainGlobals "int" = some none)
    (z_isinstance : PySem.W.nsIn K mainGlobals "isinstance" = some none)
    (z_len : PySem.W.nsIn K mainGlobals "len" = some none)
    (z_list : PySem.W.nsIn K mainGlobals "list" = some none)
    (z_max : PySem.W.nsIn K mainGlobals "max" = some none)
    (z_min : PySem.W.nsIn K mainGlobals "min" = some none)
    (z_range : PySem.W.nsIn K mainGlobals "range" = some none)
    (z_set : PySem.W.nsIn K mainGlobals "set" = some none)
    (z_str : PySem.W.nsIn K mainGlobals "str" = some none)
    (z_tuple : PySem.W.nsIn K mainGlobals "tuple" = some none)
    (ea_NetError : PySem.W.nsIn K mainGlobals "NetError" = some (some (.ref ec_NetError))) (eb_base : PySem.W.subIn K (.ref ec_NetError) (.type "BaseException") = some true) (eb_dict : PySem.W.hasDictIn K ec_NetError = true) (eb_type : PySem.W.typeIn K (.ref ec_NetError) = some (.type "type")) (eb_get : PySem.W.specialIn K (.builtin "object.__class__") "__get__" = some (some (.builtin "getset_descriptor.__get__"))) (eb_tak : PySem.W.takesIn K (.builtin "object.__class__") = some true)
    (ea_BadName : PySem.W.nsIn K mainGlobals "BadName" = some (some (.ref ec_BadName))) (ee_BadName : errB K ec_BadName ec_NetError = true)
    (ex_BadName : PySem.W.excIn K ec_BadName [.type "ValueError", .type "Exception", .type "BaseException", .type "object"] "ValueError.__new__" = true)
    (ea_BadNumber : PySem.W.nsIn K mainGlobals "BadNumber" = some (some (.ref ec_BadNumber))) (ee_BadNumber : errB K ec_BadNumber ec_NetError = true)
    (ex_BadNumber : PySem.W.excIn K ec_BadNumber [.type "ValueError", .type "Exception", .type "BaseException", .type "object"] "ValueError.__new__" = true)
    (ea_BadWay : PySem.W.nsIn K mainGlobals "BadWay" = some (some (.ref ec_BadWay))) (ee_BadWay : errB K ec_BadWay ec_NetError = true)
    (ex_BadWay : PySem.W.excIn K ec_BadWay [.type "ValueError", .type "Exception", .type "BaseException", .type "object"] "ValueError.__new__" = true)
    (ea_BadLine : PySem.W.nsIn K mainGlobals "BadLine" = some (some (.ref ec_BadLine))) (ee_BadLine : errB K ec_BadLine ec_NetError = true)
    (ex_BadLine : PySem.W.excIn K ec_BadLine [.type "ValueError", .type "Exception", .type "BaseException", .type "object"] "ValueError.__new__" = true)
    (e_nd : [ec_NetError, ec_BadName, ec_BadNumber, ec_BadWay, ec_BadLine].Nodup) :
    ∃ fd : FuncData, (∀ (s : Shared) (v : Value), BindsTo s fd ⟨[v], []⟩ [("_law_script", v)]) ∧ ∀ base : Heap, K.In base → base.Ns mainGlobals mg → FnOk l.prog w K mg base CX0 7 fa fd ["_law_script"] (spLaw K []) := by
  have e := hfa.symm.trans (PySem.W.mg_of X G a24)
  cases e
  have F0 := fun_mk (st := s_within) l0 c0 k0
  have b0 := F0.binds (ps := ["value", "low", "high"]) fun _ _ _ _ _ _ us hl => match us, hl with | [_, _, _], _ => rfl
  have F1 := fun_mk (st := s_check) l1 c1 k1
  have b1 := F1.binds (ps := ["value", "low", "high"]) fun _ _ _ _ _ _ us hl => match us, hl with | [_, _, _], _ => rfl
  have F2 := fun_mk (st := s_good_name) l2 c2 k2
  have b2 := F2.binds (ps := ["name"]) fun _ _ _ _ _ _ us hl => match us, hl with | [_], _ => rfl
  have F3 := fun_mk (st := s_good_way) l3 c3 k3
  have b3 := F3.binds (ps := ["way"]) fun _ _ _ _ _ _ us hl => match us, hl with | [_], _ => rfl
  have F4 := fun_mk (st := s_good_ways) l4 c4 k4
  have b4 := F4.binds (ps := ["ways"]) fun _ _ _ _ _ _ us hl => match us, hl with | [_], _ => rfl
  have F5 := fun_mk (st := s_Frame_init) l5 c5 k5
  have D5 : FunD K "__init__" "Frame.__init__" (defArgs s_Frame_init) (defBody s_Frame_init) (defScope s_Frame_init) [] [("long", V.int 1), ("release", V.int 0), ("last", V.int 480)] f5 _ := ⟨⟨_, _, _, _, _, _, _, _, _, _, rfl, l5, c5, .inl ⟨rfl, rfl⟩, .inr ⟨_, rfl, (by intro q h; simp only [List.mem_cons, List.not_mem_nil, or_false] at h; rcases h with rfl | rfl | rfl <;> first | exact ⟨_, q5_0, ⟨_, rfl⟩⟩ | exact ⟨_, q5_1, ⟨_, rfl⟩⟩ | exact ⟨_, q5_2, ⟨_, rfl⟩⟩)⟩⟩, k5⟩
  have F6 := fun_mk (st := s_Frame_numbers) l6 c6 k6
  have b6 := F6.binds (ps := ["self"]) fun _ _ _ _ _ _ us hl => match us, hl with | [_], _ => rfl
  have F7 := fun_mk (st := s_Frame_eq) l7 c7 k7
  have b7 := F7.binds (ps := ["self", "other"]) fun _ _ _ _ _ _ us hl => match us, hl with | [_, _], _ => rfl
  have F8 := fun_mk (st := s_Frame_str) l8 c8 k8
  have b8 := F8.binds (ps := ["self"]) fun _ _ _ _ _ _ us hl => match us, hl with | [_], _ => rfl
  have F9 := fun_mk (st := s_read_number) l9 c9 k9
  have b9 := F9.binds (ps := ["word"]) fun _ _ _ _ _ _ us hl => match us, hl with | [_], _ => rfl
  have F10 := fun_mk (st := s_read_frame) l10 c10 k10
  have b10 := F10.binds (ps := ["text"]) fun _ _ _ _ _ _ us hl => match us, hl with | [_], _ => rfl
  have F11 := fun_mk (st := s_law_start) l11 c11 k11
  have b11 := F11.binds (ps := ["_law_script"]) fun _ _ _ _ _ _ us hl => match us, hl with | [_], _ => rfl
  have F12 := fun_mk (st := s_law_draw) l12 c12 k12
  have b12 := F12.binds (ps := ["_law_s", "_law_many"]) fun _ _ _ _ _ _ us hl => match us, hl with | [_, _], _ => rfl
  have F13 := fun_mk (st := s_law_pick) l13 c13 k13
  have b13 := F13.binds (ps := ["_law_s", "_law_row_here"]) fun _ _ _ _ _ _ us hl => match us, hl with | [_, _], _ => rfl
  have F14 := fun_mk (st := s_law_name) l14 c14 k14
  have b14 := F14.binds (ps := ["_law_s", "_law_names"]) fun _ _ _ _ _ _ us hl => match us, hl with | [_, _], _ => rfl
  have F15 := fun_mk (st := s_law_hop) l15 c15 k15
  have b15 := F15.binds (ps := ["_law_s", "_law_names", "_law_lines", "_law_one", "_law_two", "_law_barred"]) fun _ _ _ _ _ _ us hl => match us, hl with | [_, _, _, _, _, _], _ => rfl
  have F16 := fun_mk (st := s_law_way) l16 c16 k16
  have b16 := F16.binds (ps := ["_law_s", "_law_names", "_law_lines", "_law_gates", "_law_first", "_law_the_last", "_law_barred"]) fun _ _ _ _ _ _ us hl => match us, hl with | [_, _, _, _, _, _, _], _ => rfl
  have F17 := fun_mk (st := s_law_need) l17 c17 k17
  have b17 := F17.binds (ps := ["_law_row_here", "_law_lines", "_law_the_slack"]) fun _ _ _ _ _ _ us hl => match us, hl with | [_, _, _], _ => rfl
  have F18 := fun_mk (st := s_law_row) l18 c18 k18
  have b18 := F18.binds (ps := ["_law_s", "_law_names", "_law_lines", "_law_houses", "_law_gates", "_law_the_slack"]) fun _ _ _ _ _ _ us hl => match us, hl with | [_, _, _, _, _, _], _ => rfl
  have F19 := fun_mk (st := s_law_world) l19 c19 k19
  have b19 := F19.binds (ps := ["_law_s", "_law_the_most"]) fun _ _ _ _ _ _ us hl => match us, hl with | [_, _], _ => rfl
  have F20 := fun_mk (st := s_law_frame) l20 c20 k20
  have b20 := F20.binds (ps := ["_law_row_here"]) fun _ _ _ _ _ _ us hl => match us, hl with | [_], _ => rfl
  have F21 := fun_mk (st := s_law_text) l21 c21 k21
  have b21 := F21.binds (ps := ["_law_row_here"]) fun _ _ _ _ _ _ us hl => match us, hl with | [_], _ => rfl
  have F22 := fun_mk (st := s_law_whole) l22 c22 k22
  have b22 := F22.binds (ps := ["_law_x"]) fun _ _ _ _ _ _ us hl => match us, hl with | [_], _ => rfl
  have F23 := fun_mk (st := s_law_fields) l23 c23 k23
  have b23 := F23.binds (ps := ["_law_frame_here"]) fun _ _ _ _ _ _ us hl => match us, hl with | [_], _ => rfl
  have F24 := fun_mk (st := s_law) l24 c24 k24
  have b24 := F24.binds (ps := ["_law_script"]) fun _ _ _ _ _ _ us hl => match us, hl with | [_], _ => rfl
  refine ⟨PySem.W.fnOf "law" "law" (defArgs s_law) (defBody s_law) (defScope s_law) .none kV24 dc24 pm24 an24 cd24 ct24, fun s v => .of_eq rfl, fun base _ _ => ?_⟩
  exact ok_law (T := ({ c_Frame := oc_Frame, g_Frame := PySem.W.mg_of X G oa_Frame, C_Frame := ⟨opg_Frame, ohd_Frame, opo_Frame, osa_Frame⟩, N_Frame_name := on_Frame_name, N_Frame_ways := on_Frame_ways, N_Frame_every := on_Frame_every, N_Frame_long := on_Frame_long, N_Frame_release := on_Frame_release, N_Frame_last := on_Frame_last, I_Frame := ⟨iA_Frame, iB_Frame, iC_Frame, iD_Frame, iE_Frame, iF_Frame⟩, f_within := f0, fd_within := _, F_within := F0, b_within := b0, g_within := PySem.W.mg_of X G a0, f_check := f1, fd_check := _, F_check := F1, b_check := b1, g_check := PySem.W.mg_of X G a1, f_good_name := f2, fd_good_name := _, F_good_name := F2, b_good_name := b2, g_good_name := PySem.W.mg_of X G a2, f_good_way := f3, fd_good_way := _, F_good_way := F3, b_good_way := b3, g_good_way := PySem.W.mg_of X G a3, f_good_ways := f4, fd_good_ways := _, F_good_ways := F4, b_good_ways := b4, g_good_ways := PySem.W.mg_of X G a4, f_Frame_init := f5, fd_Frame_init := _, F_Frame_init := F5, D_Frame_init := D5, m_Frame_init := ⟨a5, i5, k5⟩, M_Frame := ⟨omk_Frame, a5, i5, okp_Frame⟩, f_Frame_numbers := f6, fd_Frame_numbers := _, F_Frame_numbers := F6, b_Frame_numbers := b6, m_Frame_numbers := ⟨a6, i6, k6⟩, f_Frame_eq := f7, fd_Frame_eq := _, F_Frame_eq := F7, b_Frame_eq := b7, m_Frame_eq := ⟨a7, i7, k7⟩, f_Frame_str := f8, fd_Frame_str := _, F_Frame_str := F8, b_Frame_str := b8, m_Frame_str := ⟨a8, i8, k8⟩, f_read_number := f9, fd_read_number := _, F_read_number := F9, b_read_number := b9, g_read_number := PySem.W.mg_of X G a9, f_read_frame := f10, fd_read_frame := _, F_read_frame := F10, b_read_frame := b10, g_read_frame := PySem.W.mg_of X G a10, f_law_start := f11, fd_law_start := _, F_law_start := F11, b_law_start := b11, g_law_start := PySem.W.mg_of X G a11, f_law_draw := f12, fd_law_draw := _, F_law_draw := F12, b_law_draw := b12, g_law_draw := PySem.W.mg_of X G a12, f_law_pick := f13, fd_law_pick := _, F_law_pick := F13, b_law_pick := b13, g_law_pick := PySem.W.mg_of X G a13, f_law_name := f14, fd_law_name := _, F_law_name := F14, b_law_name := b14, g_law_name := PySem.W.mg_of X G a14, f_law_hop := f15, fd_law_hop := _, F_law_hop := F15, b_law_hop := b15, g_law_hop := PySem.W.mg_of X G a15, f_law_way := f16, fd_law_way := _, F_law_way := F16, b_law_way := b16, g_law_way := PySem.W.mg_of X G a16, f_law_need := f17, fd_law_need := _, F_law_need := F17, b_law_need := b17, g_law_need := PySem.W.mg_of X G a17, f_law_row := f18, fd_law_row := _, F_law_row := F18, b_law_row := b18, g_law_row := PySem.W.mg_of X G a18, f_law_world := f19, fd_law_world := _, F_law_world := F19, b_law_world := b19, g_law_world := PySem.W.mg_of X G a19, f_law_frame := f20, fd_law_frame := _, F_law_frame := F20, b_law_frame := b20, g_law_frame := PySem.W.mg_of X G a20, f_law_text := f21, fd_law_text := _, F_law_text := F21, b_law_text := b21, g_law_text := PySem.W.mg_of X G a21, f_law_whole := f22, fd_law_whole := _, F_law_whole := F22, b_law_whole := b22, g_law_whole := PySem.W.mg_of X G a22, f_law_fields := f23, fd_law_fields := _, F_law_fields := F23, b_law_fields := b23, g_law_fields := PySem.W.mg_of X G a23, f_law := fa, fd_law := _, F_law := F24, b_law := b24, g_law := PySem.W.mg_of X G a24, t_LAST := tc_LAST, g_LAST := PySem.W.mg_of X G ac_LAST, t_LETTERS := tc_LETTERS, g_LETTERS := PySem.W.mg_of X G ac_LETTERS, t_LONGEST := tc_LONGEST, g_LONGEST := PySem.W.mg_of X G ac_LONGEST, a_ROUNDS := cc_ROUNDS, g_ROUNDS := PySem.W.mg_of X G ac_ROUNDS, q_ROUNDS := fun _ => .inr ⟨_, _, _, lc_ROUNDS, rfl, rfl, (by show 13 ≤ sizeLine; decide), (.cons ⟨_, rfl⟩ (.cons ⟨_, rfl⟩ (.cons ⟨_, rfl⟩ (.cons ⟨_, rfl⟩ (.cons ⟨_, rfl⟩ (.cons ⟨_, rfl⟩ (.cons ⟨_, rfl⟩ (.cons ⟨_, rfl⟩ (.cons ⟨_, rfl⟩ (.cons ⟨_, rfl⟩ (.cons ⟨_, rfl⟩ (.cons ⟨_, rfl⟩ (.cons ⟨_, rfl⟩ .nil)))))))))))))⟩, z_abs := PySem.W.mg_none_of X G z_abs, z_all := PySem.W.mg_none_of X G z_all, z_any := PySem.W.mg_none_of X G z_any, z_bool := PySem.W.mg_none_of X G z_bool, z_int := PySem.W.mg_none_of X G z_int, z_isinstance := PySem.W.mg_none_of X G z_isinstance, z_len := PySem.W.mg_none_of X G z_len, z_list := PySem.W.mg_none_of X G z_list, z_max := PySem.W.mg_none_of X G z_max, z_min := PySem.W.mg_none_of X G z_min, z_range := PySem.W.mg_none_of X G z_range, z_set := PySem.W.mg_none_of X G z_set, z_str := PySem.W.mg_none_of X G z_str, z_tuple := PySem.W.mg_none_of X G z_tuple, c_NetError := ec_NetError, g_NetError := PySem.W.mg_of X G ea_NetError, k_base := eb_base, k_dict := eb_dict, k_type := eb_type, k_get := eb_get, k_tak := eb_tak, c_BadName := ec_BadName, g_BadName := PySem.W.mg_of X G ea_BadName, e_BadName := errC_of ee_BadName, x_BadName := ex_BadName, c_BadNumber := ec_BadNumber, g_BadNumber := PySem.W.mg_of X G ea_BadNumber, e_BadNumber := errC_of ee_BadNumber, x_BadNumber := ex_BadNumber, c_BadWay := ec_BadWay, g_BadWay := PySem.W.mg_of X G ea_BadWay, e_BadWay := errC_of ee_BadWay, x_BadWay := ex_BadWay, c_BadLine := ec_BadLine, g_BadLine := PySem.W.mg_of X G ea_BadLine, e_BadLine := errC_of ee_BadLine, x_BadLine := ex_BadLine, k_nd := e_nd, tb := [] } : Tx K mg base))
end SW
namespace HX
open PySem PySem.W PySem.Calls PyProof.Rows
abbrev R : OpenRow := OpenLaw.row PySem.Challenge.rw_slotwright_k11_frames_written_and_read
abbrev qv : Program := view R.prog [35]
def names0 : List PySem.Str := [("__name__" : PySem.Str), ("NetError" : PySem.Str), ("BadName" : PySem.Str), ("BadNumber" : PySem.Str), ("BadWay" : PySem.Str), ("BadLine" : PySem.Str), ("ROUNDS" : PySem.Str), ("LAST" : PySem.Str), ("LONGEST" : PySem.Str), ("within" : PySem.Str), ("check" : PySem.Str), ("LETTERS" : PySem.Str)]
def names1 : List PySem.Str := [("good_name" : PySem.Str), ("good_way" : PySem.Str), ("good_ways" : PySem.Str), ("Frame" : PySem.Str), ("read_number" : PySem.Str), ("read_frame" : PySem.Str), ("_law_start" : PySem.Str), ("_law_draw" : PySem.Str), ("_law_pick" : PySem.Str), ("_law_name" : PySem.Str), ("_law_hop" : PySem.Str), ("_law_way" : PySem.Str)]
def names2 : List PySem.Str := [("_law_need" : PySem.Str), ("_law_row" : PySem.Str), ("_law_world" : PySem.Str), ("_law_frame" : PySem.Str), ("_law_text" : PySem.Str), ("_law_whole" : PySem.Str), ("_law_fields" : PySem.Str)]
def names : List PySem.Str := names0 ++ (names1 ++ (names2))
end HX
open PySem PySem.W PyProof.Rows
local macro_rules | `(tactic| o_head ($f $k $a $e)) => `(tactic| (refine HandSHeadRun.head_any (r := PySem.W.OpenLaw.row PySem.Challenge.rw_slotwright_k11_frames_written_and_read) (q := HX.qv) (H := kHook $k $a $e) (ob := fun s => List.map (HandSHeadRun.getT s) $a) (M := 30000) (loose := HX.names) (kwd := []) (d := HandSHeadRun.topDef (PySem.W.OpenLaw.row PySem.Challenge.rw_slotwright_k11_frames_written_and_read).prog 35) (fun s => List.map_congr_left fun a _ => HandSHeadRun.getT_eq s a) (by kernel_rfl) (fun s => by kernel_rfl) (fun w os => by kernel_rfl) (by kernel_rfl) (by kernel_rfl) (by kernel_rfl) (by rfl) (by first | assumption | decide +kernel) (by decide +kernel) ⟨rfl, rfl, rfl, rfl, rfl, by decide +kernel⟩ ?hw ?hc))
open PySem PySem.W PyProof.Rows
set_option maxRecDepth 100000 in
set_option maxHeartbeats 0 in
theorem PySem.Challenge.cw_slotwright_k11_frames_written_and_read_holds : PySem.Challenge.rw_slotwright_k11_frames_written_and_read.Holds := by
  w_on; o_law; k_head; (case hw => w_witness2)
  k_fill
  letI : SW.QN := SW.qnc ("-")
  refine L2.walk_ofB (l := PySem.Challenge.rw_slotwright_k11_frames_written_and_read) (n := 63) (k := 7) (x := "_law_script") (CX := fun _ => L2.CX0) (sp := fun w => SW.spLaw _ []) rfl (by decide) rfl ⟨rfl, by decide, by decide⟩ (fun w h Y => PySem.W.kIn_of Y) ?F (fun _ _ a ns hl hb _ hS => ⟨a, ns, rfl, hS, hl, hb, (fun _ h => nomatch h), fun _ => rfl⟩) (fun _ _ _ _ _ h => h)
  case F =>
    intro w mg fa h KX G hmg
    letI : SW.QN := SW.qnc ("-")
    refine' SW.all_mk KX G hmg ?oa_Frame ?opg_Frame ?ohd_Frame ?opo_Frame ?osa_Frame ?on_Frame_name ?on_Frame_ways ?on_Frame_every ?on_Frame_long ?on_Frame_release ?on_Frame_last ?iA_Frame ?iB_Frame ?iC_Frame ?iD_Frame ?iE_Frame ?iF_Frame ?omk_Frame ?okp_Frame ?a0 ?l0 ?c0 ?k0 ?a1 ?l1 ?c1 ?k1 ?a2 ?l2 ?c2 ?k2 ?a3 ?l3 ?c3 ?k3 ?a4 ?l4 ?c4 ?k4 ?a5 ?i5 ?l5 ?c5 ?k5 ?q5_0 ?q5_1 ?q5_2 ?a6 ?i6 ?l6 ?c6 ?k6 ?a7 ?i7 ?l7 ?c7 ?k7 ?a8 ?i8 ?l8 ?c8 ?k8 ?a9 ?l9 ?c9 ?k9 ?a10 ?l10 ?c10 ?k10 ?a11 ?l11 ?c11 ?k11 ?a12 ?l12 ?c12 ?k12 ?a13 ?l13 ?c13 ?k13 ?a14 ?l14 ?c14 ?k14 ?a15 ?l15 ?c15 ?k15 ?a16 ?l16 ?c16 ?k16 ?a17 ?l17 ?c17 ?k17 ?a18 ?l18 ?c18 ?k18 ?a19 ?l19 ?c19 ?k19 ?a20 ?l20 ?c20 ?k20 ?a21 ?l21 ?c21 ?k21 ?a22 ?l22 ?c22 ?k22 ?a23 ?l23 ?c23 ?k23 ?a24 ?l24 ?c24 ?k24 ?ac_LAST ?ac_LETTERS ?ac_LONGEST ?ac_ROUNDS ?lc_ROUNDS ?z_abs ?z_all ?z_any ?z_bool ?z_int ?z_isinstance ?z_len ?z_list ?z_max ?z_min ?z_range ?z_set ?z_str ?z_tuple ?ea_NetError ?eb_base ?eb_dict ?eb_type ?eb_get ?eb_tak ?ea_BadName ?ee_BadName ?ex_BadName ?ea_BadNumber ?ee_BadNumber ?ex_BadNumber ?ea_BadWay ?ee_BadWay ?ex_BadWay ?ea_BadLine ?ee_BadLine ?ex_BadLine ?e_nd
    (case ea_NetError => k_is)
    (case ea_BadName => k_is)
    (case ea_BadNumber => k_is)
    (case ea_BadWay => k_is)
    (case ea_BadLine => k_is)
    (case oa_Frame => k_is)
    (case opg_Frame => k_is)
    (case ohd_Frame => k_is)
    (case opo_Frame => k_is)
    (case osa_Frame => k_is)
    (case on_Frame_name => k_is)
    (case on_Frame_ways => k_is)
    (case on_Frame_every => k_is)
    (case on_Frame_long => k_is)
    (case on_Frame_release => k_is)
    (case on_Frame_last => k_is)
    (case iA_Frame => kernel_rfl)
    (case iB_Frame => k_is)
    (case iC_Frame => k_is)
    (case iD_Frame => k_is)
    (case iE_Frame => k_is)
    (case iF_Frame => k_is)
    (case omk_Frame => k_is)
    (case okp_Frame => k_is)
    (case a0 => k_is)
    (case l0 => k_is)
    (case c0 => k_is)
    (case k0 => k_is)
    (case a1 => k_is)
    (case l1 => k_is)
    (case c1 => k_is)
    (case k1 => k_is)
    (case a2 => k_is)
    (case l2 => k_is)
    (case c2 => k_is)
    (case k2 => k_is)
    (case a3 => k_is)
    (case l3 => k_is)
    (case c3 => k_is)
    (case k3 => k_is)
    (case a4 => k_is)
    (case l4 => k_is)
    (case c4 => k_is)
    (case k4 => k_is)
    (case a5 => k_is)
    (case i5 => k_is)
    (case l5 => k_is)
    (case c5 => k_is)
    (case k5 => k_is)
    (case q5_0 => k_is)
    (case q5_1 => k_is)
    (case q5_2 => k_is)
    (case a6 => k_is)
    (case i6 => k_is)
    (case l6 => k_is)
    (case c6 => k_is)
    (case k6 => k_is)
    (case a7 => k_is)
    (case i7 => k_is)
    (case l7 => k_is)
    (case c7 => k_is)
    (case k7 => k_is)
    (case a8 => k_is)
    (case i8 => k_is)
    (case l8 => k_is)
    (case c8 => k_is)
    (case k8 => k_is)
    (case a9 => k_is)
    (case l9 => k_is)
    (case c9 => k_is)
    (case k9 => k_is)
    (case a10 => k_is)
    (case l10 => k_is)
    (case c10 => k_is)
    (case k10 => k_is)
    (case a11 => k_is)
    (case l11 => k_is)
    (case c11 => k_is)
    (case k11 => k_is)
    (case a12 => k_is)
    (case l12 => k_is)
    (case c12 => k_is)
    (case k12 => k_is)
    (case a13 => k_is)
    (case l13 => k_is)
    (case c13 => k_is)
    (case k13 => k_is)
    (case a14 => k_is)
    (case l14 => k_is)
    (case c14 => k_is)
    (case k14 => k_is)
    (case a15 => k_is)
    (case l15 => k_is)
    (case c15 => k_is)
    (case k15 => k_is)
    (case a16 => k_is)
    (case l16 => k_is)
    (case c16 => k_is)
    (case k16 => k_is)
    (case a17 => k_is)
    (case l17 => k_is)
    (case c17 => k_is)
    (case k17 => k_is)
    (case a18 => k_is)
    (case l18 => k_is)
    (case c18 => k_is)
    (case k18 => k_is)
    (case a19 => k_is)
    (case l19 => k_is)
    (case c19 => k_is)
    (case k19 => k_is)
    (case a20 => k_is)
    (case l20 => k_is)
    (case c20 => k_is)
    (case k20 => k_is)
    (case a21 => k_is)
    (case l21 => k_is)
    (case c21 => k_is)
    (case k21 => k_is)
    (case a22 => k_is)
    (case l22 => k_is)
    (case c22 => k_is)
    (case k22 => k_is)
    (case a23 => k_is)
    (case l23 => k_is)
    (case c23 => k_is)
    (case k23 => k_is)
    (case a24 => k_is)
    (case l24 => k_is)
    (case c24 => k_is)
    (case k24 => k_is)
    (case ac_LAST => k_is)
    (case ac_LETTERS => k_is)
    (case ac_LONGEST => k_is)
    (case ac_ROUNDS => k_is)
    (case lc_ROUNDS => k_is)
    (case z_abs => k_is)
    (case z_all => k_is)
    (case z_any => k_is)
    (case z_bool => k_is)
    (case z_int => k_is)
    (case z_isinstance => k_is)
    (case z_len => k_is)
    (case z_list => k_is)
    (case z_max => k_is)
    (case z_min => k_is)
    (case z_range => k_is)
    (case z_set => k_is)
    (case z_str => k_is)
    (case z_tuple => k_is)
    (case eb_base => k_is)
    (case eb_dict => k_is)
    (case eb_type => k_is)
    (case eb_get => k_is)
    (case eb_tak => k_is)
    (case ee_BadName => kernel_rfl)
    (case ex_BadName => kernel_rfl)
    (case ee_BadNumber => kernel_rfl)
    (case ex_BadNumber => kernel_rfl)
    (case ee_BadWay => kernel_rfl)
    (case ex_BadWay => kernel_rfl)
    (case ee_BadLine => kernel_rfl)
    (case ex_BadLine => kernel_rfl)
    (case e_nd => decide +kernel)
#print axioms PySem.Challenge.cw_slotwright_k11_frames_written_and_read_holds
