import PyProof.Rows.All
import Wide.All
import OpenK.AllK
import Wide.FinOn
import HandS.ForMost
import HandS.Wide
import HandS.IsInst
import HandS.EndBits
import HandS.Flow
import HandS.Defaults
import HandS.MakeKwOnly
import KE.KStateDown
import Lean
import HandS.Head0
import HandS.Head1
import HandS.Head2
import HandS.Exc
import HandS.ExcOwn
import HandS.WordsExc
import HandS.TryOnly
import HandS.HotCalls
import HandS.Small
import HandS.ExcField
import KE.KExcIs
import HandS.ExcIs
import HandS.CallSlots
import HandS.MakeKw
import HandS.Walk
import HandS.Style
import HandS.TupAny
import HandS.Deep
import HandS.Strs
import HandS.Set
import HandS.Zip
import HandS.Text
import HandS.Codes
import HandS.Steps
import PyProof.Rows.SortShellAny
import HandS.Sort
import HandS.TryOnly
import KE.KDictSum
import HandS.ExcValue
import HandS.WordsDict
import KE.GoesMore
import KE.SortKeyHeap
import HandS.Lambda
import HandS.SortKw
import HandS.EndOwn
import KE.KNestM
import HandS.DictComp
import HandS.TupLen
import KE.KDictCopyH
import KE.DataMinMax
import HandS.ExcInit
import PyProof.TwoTypesSub
import PyProof.IsRules
import HandS.DictComp
import HandS.Conv
import KE.SortData
import PyProof.ZipIter
import KE.KEqDict
import HandS.Flow
import HandS.FStr
import HandS.Text
import KE.KCallOwn
import KE.KUnpackStar
import HandS.Zip
import HandS.Nested
import PyProof.ReprRoads
import PySem.Challenge.RW_slotwright_k39_whole_clocks_in_slack
set_option Elab.async false
set_option linter.all false
set_option maxRecDepth 100000
set_option maxHeartbeats 4000000
namespace SW
class Stp (G : Prop) (G' : outParam Prop) : Prop where
  go : G' → G
class St1 {β : outParam Type} (G : Prop) (c g : outParam (β → Prop)) : Prop where
  go : ∀ d : β, c d → g d → G
class St2 {β γ : outParam Type} (G : Prop) (c c' g : outParam (β → γ → Prop)) : Prop where
  go : ∀ (d : β) (e : γ), c d e → c' d e → g d e → G
class St0 (G : Prop) (c g : outParam Prop) : Prop where
  go : c → g → G
open PySem L2
theorem same_new {U : Hp} {p : Addr} {o : HO} (h : U p = none) : Same U (upd U p o) := fun b x e => by
  rw [upd_ne (ne_of_none e h)]
  exact e
theorem same_mut {U H : Hp} {p : Addr} {o : HO} (e : Same U H) (h : U p = none) : Same U (upd H p o) := fun a u ha => by
  rw [upd_ne (ne_of_none ha h)]
  exact e a u ha
theorem upd_get {H : Hp} {p a : Addr} {o x : HO} (n : H p = none) (h : H a = some x) : upd H p o a = some x := by
  rw [upd_ne (ne_of_none h n)]
  exact h
/-- neither a table of codes nor a code -/
def plO : HO → Bool
  | .tbl _ => false
  | .ext _ => false
  | _ => true
def Pl (H : Hp) (p : Addr) : Prop := ∃ o, H p = some o ∧ plO o = true
theorem ntb {o : HO} (h : plO o = true) : ∀ ps, o ≠ .tbl ps := fun ps z => by
  subst z
  cases h
theorem Pl.ne {H : Hp} {p : Addr} (h : Pl H p) : H p ≠ none := by
  obtain ⟨o, e, _⟩ := h
  rw [e]
  intro z
  cases z
theorem Pl.of {H : Hp} {p : Addr} {o : HO} (h : H p = some o) (k : plO o = true) : Pl H p := ⟨o, h, k⟩
/-- a view without tables -/
def NT (U : Hp) : Prop := ∀ a ps, U a ≠ some (.tbl ps)
theorem nt_upd {U : Hp} {p : Addr} {o : HO} (h : NT U) (n : ∀ ps, o ≠ .tbl ps) : NT (upd U p o) := fun a ps z => by
  by_cases e : a = p
  · subst e
    rw [upd_same] at z
    exact n ps (Option.some.inj z)
  · rw [upd_ne e] at z
    exact h a ps z
/-- a table of codes stands on where it and its codes do -/
theorem tab_keep {H H' : Hp} {P : Addr} {q : Str} (h : LamX.TabS H P q) (k : ∀ b o, H b = some o → plO o = false → H' b = some o) : LamX.TabS H' P q := by
  obtain ⟨ps, h1, h2, h3⟩ := h
  refine ⟨ps, k _ _ h1 rfl, h2, fun pos cv hc => ?_⟩
  obtain ⟨c, e1, e2⟩ := h3 pos cv hc
  exact ⟨c, e1, k _ _ e2 rfl⟩
theorem tab_mut {H : Hp} {p P : Addr} {q : Str} {o : HO} (h : LamX.TabS H P q) (old : ∀ x, H p = some x → plO x = true) : LamX.TabS (upd H p o) P q := tab_keep h fun b x e n => by
  rw [upd_ne fun z => by
    subst z
    rw [old x e] at n
    cases n]
  exact e
/-- the name of the codes that a table holds -/
class QN where
  qn : Addr → Str
variable [QN]
structure Gr (M : List Addr) (U H U' H' : Hp) : Prop where
  vv : Same U U'
  vh : Same U' H'
  hh : ∀ a o, a ∉ M → (∀ ps, o ≠ .tbl ps) → H a = some o → H' a = some o
  dom : ∀ a, H a ≠ none → H' a ≠ none
  fr : ∀ a, U a = none → H a ≠ none → U' a = none
  tb : ∀ P, LamX.TabS H P (QN.qn P) → LamX.TabS H' P (QN.qn P)
  nt : NT U → NT U'
theorem Gr.refl {M : List Addr} {U H : Hp} (e : Same U H) : Gr M U H U H := ⟨Same.refl _, e, fun _ _ _ _ h => h, fun _ h => h, fun _ h _ => h, fun _ h => h, id⟩
theorem Gr.trans {M : List Addr} {U0 H0 U1 H1 U2 H2 : Hp} (a : Gr M U0 H0 U1 H1) (b : Gr M U1 H1 U2 H2) : Gr M U0 H0 U2 H2 :=
  ⟨a.vv.trans b.vv, b.vh, fun x o m n h => b.hh x o m n (a.hh x o m n h), fun x h => b.dom x (a.dom x h), fun x h k => b.fr x (a.fr x h k) (a.dom x k), fun P h => b.tb P (a.tb P h), fun h => b.nt (a.nt h)⟩
theorem Gr.weak {M N : List Addr} {U0 H0 U1 H1 : Hp} (a : Gr M U0 H0 U1 H1) (s : ∀ x, x ∈ M → x ∈ N) : Gr N U0 H0 U1 H1 :=
  ⟨a.vv, a.vh, fun x o m n h => a.hh x o (fun z => m (s x z)) n h, a.dom, a.fr, a.tb, a.nt⟩
theorem Gr.any {N : List Addr} {U0 H0 U1 H1 : Hp} (a : Gr [] U0 H0 U1 H1) : Gr N U0 H0 U1 H1 := a.weak fun _ h => nomatch h
theorem Gr.at {M : List Addr} {U0 H0 U1 H1 : Hp} {p : Addr} (a : Gr M U0 H0 U1 H1) (m : p ∉ M) (h : Pl H0 p) : H1 p = H0 p := by
  obtain ⟨o, e, n⟩ := h
  rw [e, a.hh p o m (ntb n) e]
/-- a new object that never changes -/
theorem Gr.new {M : List Addr} {U0 H0 U H : Hp} {p : Addr} {o : HO} (g : Gr M U0 H0 U H) (n : H p = none) (no : ∀ ps, o ≠ .tbl ps := by intro _ z; cases z) : Gr M U0 H0 (upd U p o) (upd H p o) := by
  have nu : U p = none := g.vh.free n
  have n0 : H0 p = none := by
    cases e : H0 p with
    | none => rfl
    | some x => exact absurd n (g.dom p (by rw [e]; intro z; cases z))
  refine ⟨g.vv.trans (same_new nu), fun a x h => ?_, fun a x m nn h => ?_, fun a h => ?_, fun a h k => ?_, fun P h => tab_mut (g.tb P h) (fun x e => by rw [n] at e; cases e), fun h => nt_upd (g.nt h) no⟩
  · by_cases e : a = p
    · subst e
      rw [upd_same] at h ⊢
      exact h
    · rw [upd_ne e] at h ⊢
      exact g.vh a x h
  · rw [upd_ne (ne_of_none h n0)]
    exact g.hh a x m nn h
  · by_cases e : a = p
    · subst e
      rw [upd_same]
      intro z
      cases z
    · rw [upd_ne e]
      exact g.dom a h
  · have e : a ≠ p := fun z => by
      subst z
      exact k n0
    rw [upd_ne e]
    exact g.fr a h k
/-- a new object that will change -/
theorem Gr.newM {M : List Addr} {U0 H0 U H : Hp} {p : Addr} {o : HO} (g : Gr M U0 H0 U H) (n : H p = none) : Gr M U0 H0 U (upd H p o) := by
  have nu : U p = none := g.vh.free n
  refine ⟨g.vv, same_mut g.vh nu, fun a x m nn h => ?_, fun a h => ?_, g.fr, fun P h => tab_mut (g.tb P h) (fun x e => by rw [n] at e; cases e), g.nt⟩
  · rw [upd_ne (ne_of_none (g.hh a x m nn h) n)]
    exact g.hh a x m nn h
  · by_cases e : a = p
    · subst e
      rw [upd_same]
      intro z
      cases z
    · rw [upd_ne e]
      exact g.dom a h
/-- an object outside of the view changes: one of M, or one that is newer than H0 -/
theorem Gr.mut {M : List Addr} {U0 H0 U H : Hp} {p : Addr} {o : HO} (g : Gr M U0 H0 U H) (nu : U p = none) (n0 : p ∈ M ∨ H0 p = none) (old : Pl H p) : Gr M U0 H0 U (upd H p o) := by
  refine ⟨g.vv, same_mut g.vh nu, fun a x m nn h => ?_, fun a h => ?_, g.fr, fun P h => tab_mut (g.tb P h) (fun x e => by
    obtain ⟨y, e1, e2⟩ := old
    rw [e1] at e
    cases e
    exact e2), g.nt⟩
  · have e : a ≠ p := fun z => by
      subst z
      rcases n0 with n0 | n0
      · exact m n0
      · rw [n0] at h
        cases h
    rw [upd_ne e]
    exact g.hh a x m nn h
  · by_cases e : a = p
    · subst e
      rw [upd_same]
      intro z
      cases z
    · rw [upd_ne e]
      exact g.dom a h
theorem Gr.fresh {M : List Addr} {U0 H0 U H : Hp} {p : Addr} (g : Gr M U0 H0 U H) (n : H p = none) : H0 p = none := by
  cases e : H0 p with
  | none => rfl
  | some x => exact absurd n (g.dom p (by rw [e]; intro z; cases z))
section
variable {X : Cx} {K : PySem.W.Frag}
theorem ix_listK (h : X.K = K) : IxR X (rIxL K) := by subst h; exact ix_list
theorem sl_listK (h : X.K = K) : SlR X (rSlL K) := by subst h; exact sl_list
theorem op_inK (h : X.K = K) : OpR X (compareOp .In) (rIn K false) := by subst h; exact op_in_seq
theorem op_neDK (h : X.K = K) (hu : X.A.units + 64 < cLine) : OpR X (compareOp .NotEq) (rNeD K) := by subst h; exact op_neD hu
def rLenK (K : PySem.W.Frag) : List V → Hp → VK → Prop := fun xs H Q => ∃ p ys, xs = [.ref p] ∧ (SqL K H p ys ∨ SqT K H p ys) ∧ Q (.int ys.length) H
def rListK (K : PySem.W.Frag) : List V → Hp → VK → Prop := fun xs H Q => ∃ p ys, xs = [.ref p] ∧ (SqL K H p ys ∨ SqT K H p ys) ∧ ∀ l, H l = none → Q (.ref l) (upd H l (.lst ys))
def rTupleK (K : PySem.W.Frag) : List V → Hp → VK → Prop := fun xs H Q => ∃ p ys, xs = [.ref p] ∧ ((SqL K H p ys ∧ ∀ l, H l = none → Q (.ref l) (upd H l (.tup ys))) ∨ (SqT K H p ys ∧ Q (.ref p) H))
theorem call_lenK (h : X.K = K) : CallR X (.builtin "len") (rLenK K) := by subst h; exact call_len_seq
theorem call_listK (h : X.K = K) : CallR X (.type "list") (rListK K) := by subst h; exact call_list_of
theorem cr_maxK (h : X.K = K) (hc : X.calm = true) : CallR X (.builtin "max") (rMax K) := by subst h; exact cr_max hc
theorem cr_minK (h : X.K = K) (hc : X.calm = true) : CallR X (.builtin "min") (rMin K) := by subst h; exact cr_min hc
theorem cr_allK (h : X.K = K) (hc : X.calm = true) : CallR X (.builtin "all") (rAll K) := by subst h; exact cr_all hc
theorem cr_anyK (h : X.K = K) (hc : X.calm = true) : CallR X (.builtin "any") (rAny K) := by subst h; exact cr_any hc
theorem call_isiKK (h : X.K = K) : CallR X (.builtin "isinstance") (rIsi K) := by subst h; exact call_isi
theorem pi_listK {tg e : Expr} {te : TE} (h : X.K = K) (he : PE X e te) : PI X tg e (iList K te) := by subst h; exact pi_list he
theorem pg_tupK {pos : Pos} {es : List Expr} {k : Nat} {t : TGs} {n : Nat} (h : X.K = K) (hc : X.calm = true) (hh : PGs X es t) (hn : (assignEach es X.env).length = n := by rfl) (hst : (assignEach es X.env).findIdx? (·.1) = none := by rfl) : PG X (.Tuple es k pos) (gTup K n t) := by subst h; exact pg_tup hc hh hn hst
theorem pe_fldK {pos : Pos} {e : Expr} {ta : TE} {f : Str} (h : X.K = K) (he : PE X e ta) (hb : attributeBase e f X.env (eval e X.env) = eval e X.env) : PE X (.Attribute e f pos) (tFld K ta f) := by subst h; exact pe_fld he hb
end
section
variable {σ : L2.St} {H : Hp} {Q : VK} {te ta tb tc : TE} {i : Nat} {v x y : V} {K : PySem.W.Frag} {n bk ct : L2.St → Hp → Prop} {rt : VK} {t u : TS} {g : TG}
theorem i_var (h : σ[i]? = some (some v)) (q : Q v H) : tVar i σ H Q := ⟨v, h, q⟩
theorem i_c (q : Q v H) : tC v σ H Q := q
theorem i_op {r : R2} (q : ta σ H (fun x H1 => tb σ H1 fun y H2 => r x y H2 Q)) : tOp r ta tb σ H Q := q
theorem i_un {r : V → Hp → VK → Prop} (q : ta σ H (fun x H1 => r x H1 Q)) : tUn r ta σ H Q := q
theorem i_rI0 {f : Int → Int → V} {a b : Int} (q : Q (f a b) H) : rI0 f (.int a) (.int b) H Q := ⟨a, b, rfl, rfl, q⟩
theorem i_rI {C : Int → Int → Prop} {f : Int → Int → V} {a b : Int} (c : C a b) (q : Q (f a b) H) : rI C f (.int a) (.int b) H Q := ⟨a, b, rfl, rfl, c, q⟩
theorem i_rU {f : Int → V} {a : Int} (q : Q (f a) H) : rU f (.int a) H Q := ⟨a, rfl, q⟩
theorem i_eqI {a b : Int} (q : Q (.bl (decide (a = b))) H) : rEq (.int a) (.int b) H Q := ⟨rfl, by
  have e : decide (V.int a = V.int b) = decide (a = b) := by
    by_cases h : a = b
    · rw [decide_eq_true h, decide_eq_true (congrArg V.int h)]
    · rw [decide_eq_false h, decide_eq_false (fun z => h (V.int.inj z))]
  show Q (.bl (decide (V.int a = V.int b))) H
  rw [e]
  exact q⟩
theorem i_neI {a b : Int} (q : Q (.bl (!decide (a = b))) H) : rNe (.int a) (.int b) H Q := ⟨rfl, by
  have e : decide (V.int a = V.int b) = decide (a = b) := by
    by_cases h : a = b
    · rw [decide_eq_true h, decide_eq_true (congrArg V.int h)]
    · rw [decide_eq_false h, decide_eq_false (fun z => h (V.int.inj z))]
  show Q (.bl (!decide (V.int a = V.int b))) H
  rw [e]
  exact q⟩
theorem i_eqS {a b : Str} (q : Q (.bl (decide (a = b))) H) : rEq (.str a) (.str b) H Q := ⟨rfl, by
  have e : decide (V.str a = V.str b) = decide (a = b) := by
    by_cases h : a = b
    · rw [decide_eq_true h, decide_eq_true (congrArg V.str h)]
    · rw [decide_eq_false h, decide_eq_false (fun z => h (V.str.inj z))]
  show Q (.bl (decide (V.str a = V.str b))) H
  rw [e]
  exact q⟩
theorem i_neS {a b : Str} (q : Q (.bl (!decide (a = b))) H) : rNe (.str a) (.str b) H Q := ⟨rfl, by
  have e : decide (V.str a = V.str b) = decide (a = b) := by
    by_cases h : a = b
    · rw [decide_eq_true h, decide_eq_true (congrArg V.str h)]
    · rw [decide_eq_false h, decide_eq_false (fun z => h (V.str.inj z))]
  show Q (.bl (!decide (V.str a = V.str b))) H
  rw [e]
  exact q⟩
theorem i_nil {R : List V → Hp → Prop} (q : R [] H) : tNil σ H R := q
theorem i_cons {R : List V → Hp → Prop} {tr : TA} (q : ta σ H (fun x H1 => tr σ H1 fun xs H2 => R (x :: xs) H2)) : tCons ta tr σ H R := q
theorem i_cb {r : List V → Hp → VK → Prop} {tr : TA} (q : tr σ H (fun vs H1 => r vs H1 Q)) : tCB r tr σ H Q := q
theorem i_call {sp : Sp} {dvs : List V} {E : XK} {tr : TA} (q : tr σ H (fun vs H1 => sp (vs ++ dvs) H1 Q E)) : tCall sp dvs E tr σ H Q := q
theorem i_callN {k m : Nat} {sp : Sp} {gV : List V → List V → List V} {E : XK} {tr tk : TA} (q : tr σ H fun vs H1 => tk σ H1 fun zs H2 => vs.length = k ∧ zs.length = m ∧ sp (gV vs zs) H2 Q E) : tCallN k m sp gV E tr tk σ H Q := q
theorem i_seq (q : t ⟨u ⟨n, rt, bk, ct⟩, rt, bk, ct⟩ σ H) : tSeq t u ⟨n, rt, bk, ct⟩ σ H := q
theorem i_next (q : n σ H) : tNext ⟨n, rt, bk, ct⟩ σ H := q
theorem i_brk (q : bk σ H) : tBreak ⟨n, rt, bk, ct⟩ σ H := q
theorem i_cont (q : ct σ H) : tCont ⟨n, rt, bk, ct⟩ σ H := q
theorem i_set (q : te σ H (fun x H1 => n (σ.set i (some x)) H1)) : tAsg te (gName i) ⟨n, rt, bk, ct⟩ σ H := q
theorem i_asg (q : te σ H (fun x H1 => g x σ H1 n)) : tAsg te g ⟨n, rt, bk, ct⟩ σ H := q
theorem i_drop (q : te σ H (fun _ H1 => n σ H1)) : tDrop te ⟨n, rt, bk, ct⟩ σ H := q
theorem i_ret (q : te σ H rt) : tRet te ⟨n, rt, bk, ct⟩ σ H := q
theorem i_retN (q : rt .non H) : tRetN ⟨n, rt, bk, ct⟩ σ H := q
theorem i_if {c : TT} (q : c σ H (fun b H1 => if b = true then t ⟨n, rt, bk, ct⟩ σ H1 else u ⟨n, rt, bk, ct⟩ σ H1)) : tIfS c t u ⟨n, rt, bk, ct⟩ σ H := q
theorem i_test {R : Bool → Hp → Prop} (q : te σ H (fun x H1 => ∃ k, x = .bl k ∧ R k H1)) : tTest te σ H R := q
theorem i_B {R : Bool → Hp → Prop} (q : te σ H (fun x H1 => ∃ k, x = .bl k ∧ R k H1)) : tB te σ H R := q
theorem i_bl {b : Bool} {R : Bool → Hp → Prop} (q : R b H) : ∃ k, V.bl b = .bl k ∧ R k H := ⟨b, rfl, q⟩
theorem i_not {c : TT} {R : Bool → Hp → Prop} (q : c σ H (fun b H1 => R (!b) H1)) : tNot c σ H R := q
theorem i_and {c d : TT} {R : Bool → Hp → Prop} (q : c σ H (fun b H1 => if b = true then d σ H1 R else R false H1)) : tAnd c d σ H R := q
theorem i_or {c d : TT} {R : Bool → Hp → Prop} (q : c σ H (fun b H1 => if b = true then R true H1 else d σ H1 R)) : tOr c d σ H R := q
theorem i_andV (q : ta σ H (fun x H1 => ∃ c, x = .bl c ∧ if c = true then tb σ H1 Q else Q (.bl false) H1)) : tAndV ta tb σ H Q := q
theorem i_orV (q : ta σ H (fun x H1 => ∃ c, x = .bl c ∧ if c = true then Q (.bl true) H1 else tb σ H1 Q)) : tOrV ta tb σ H Q := q
theorem i_notV (q : ta σ H (fun x H1 => ∃ c, x = .bl c ∧ Q (.bl (!c)) H1)) : tNotV ta σ H Q := q
theorem i_blV {b : Bool} {R : Bool → Prop} (q : R b) : ∃ k, V.bl b = .bl k ∧ R k := ⟨b, rfl, q⟩
theorem i_ifE {c : TT} (q : c σ H (fun b H1 => if b = true then ta σ H1 Q else tb σ H1 Q)) : tIf c ta tb σ H Q := q
theorem i_chain {r r' : R2} (q : ta σ H fun x H1 => tb σ H1 fun y H2 => r x y H2 fun z H3 => ∃ k, z = .bl k ∧ (if k = true then tc σ H3 fun w' H4 => r' y w' H4 Q else Q (.bl false) H3)) : tChain r r' ta tb tc σ H Q := q
theorem i_itT {A B : Prop} (q : A) : if true = true then A else B := by rw [if_pos rfl]; exact q
theorem i_itF {A B : Prop} (q : B) : if false = true then A else B := by rw [if_neg Bool.false_ne_true]; exact q
theorem i_ite {p : Prop} [Decidable p] {A B : Prop} (h1 : p → A) (h2 : ¬ p → B) : if decide p = true then A else B := by
  by_cases h : p
  · rw [decide_eq_true h, if_pos rfl]; exact h1 h
  · rw [decide_eq_false h, if_neg Bool.false_ne_true]; exact h2 h
theorem i_iteNT {A B : Prop} (q : B) : if (!true) = true then A else B := i_itF q
theorem i_iteNF {A B : Prop} (q : A) : if (!false) = true then A else B := i_itT q
theorem i_iteNN {b : Bool} {A B : Prop} (q : if b = true then A else B) : if (!!b) = true then A else B := by rw [Bool.not_not]; exact q
theorem i_ixL {p : Addr} {xs : List V} {k : Int} (h : H p = some (.lst xs)) (ha : atI xs k = some v) (q : Q v H) : rIxL K (.ref p) (.int k) H Q := ⟨p, xs, k, v, rfl, rfl, SqL.of h, ha, q⟩
theorem i_ixT {p : Addr} {xs : List V} {k : Int} (h : H p = some (.tup xs)) (ha : atI xs k = some v) (q : Q v H) : rIxT K (.ref p) (.int k) H Q := ⟨p, xs, k, v, rfl, rfl, SqT.of h, ha, q⟩
theorem i_sub {to ti : TE} {s : TSet} {R : L2.St → Hp → Prop} (q : to σ H fun o H1 => ti σ H1 fun j H2 => s o j v H2 fun H3 => R σ H3) : gSub to ti s v σ H R := q
theorem i_setL {p : Addr} {xs : List V} {k : Int} {j : Nat} {R : Hp → Prop} (h : H p = some (.lst xs)) (hk : ixN xs.length k = some j) (q : R (upd H p (.lst (xs.set j v)))) : rSetL (.ref p) (.int k) v H R := ⟨p, xs, k, j, rfl, rfl, h, hk, q⟩
theorem i_lst {tr : TA} (q : tr σ H fun xs H1 => xs.length ≤ sizeLine ∧ ∀ p, H1 p = none → Q (.ref p) (upd H1 p (.lst xs))) : tLst tr σ H Q := q
theorem i_tup {tr : TA} (q : tr σ H fun xs H1 => xs.length ≤ sizeLine ∧ ∀ p, H1 p = none → Q (.ref p) (upd H1 p (.tup xs))) : tTup tr σ H Q := q
theorem i_sl {r : V → Option Int → Option Int → Hp → VK → Prop} {tl th : TO} (q : te σ H fun x H1 => tl σ H1 fun l H2 => th σ H2 fun u H3 => r x l u H3 Q) : tSl r te tl th σ H Q := q
theorem i_nopart {R : Option Int → Hp → Prop} (q : R none H) : tNoPart σ H R := q
theorem i_part {R : Option Int → Hp → Prop} (q : te σ H fun x H1 => ∃ i, x = .int i ∧ R (some i) H1) : tPart te σ H R := q
theorem i_partE {k : Int} {R : Int → Prop} (q : R k) : ∃ i, V.int k = .int i ∧ R i := ⟨k, rfl, q⟩
theorem i_slL {a : Addr} {xs : List V} {lo hi : Option Int} (h : H a = some (.lst xs)) (q : ∀ p, H p = none → Q (.ref p) (upd H p (.lst (cutV xs lo hi)))) : rSlL K (.ref a) lo hi H Q := ⟨a, xs, rfl, SqL.of h, q⟩
theorem i_lenL {p : Addr} {xs : List V} (h : H p = some (.lst xs)) (q : Q (.int xs.length) H) : rLenK K [.ref p] H Q := ⟨p, xs, rfl, .inl (SqL.of h), q⟩
theorem i_lenT {p : Addr} {xs : List V} (h : H p = some (.tup xs)) (q : Q (.int xs.length) H) : rLenK K [.ref p] H Q := ⟨p, xs, rfl, .inr (SqT.of h), q⟩
theorem i_listL {p : Addr} {xs : List V} (h : H p = some (.lst xs)) (q : ∀ l, H l = none → Q (.ref l) (upd H l (.lst xs))) : rListK K [.ref p] H Q := ⟨p, xs, rfl, .inl (SqL.of h), q⟩
theorem i_listT {p : Addr} {xs : List V} (h : H p = some (.tup xs)) (q : ∀ l, H l = none → Q (.ref l) (upd H l (.lst xs))) : rListK K [.ref p] H Q := ⟨p, xs, rfl, .inr (SqT.of h), q⟩
theorem i_tupleL {p : Addr} {xs : List V} (h : H p = some (.lst xs)) (q : ∀ l, H l = none → Q (.ref l) (upd H l (.tup xs))) : rTupleK K [.ref p] H Q := ⟨p, xs, rfl, .inl ⟨SqL.of h, q⟩⟩
theorem i_tupleT {p : Addr} {xs : List V} (h : H p = some (.tup xs)) (q : Q (.ref p) H) : rTupleK K [.ref p] H Q := ⟨p, xs, rfl, .inr ⟨SqT.of h, q⟩⟩
theorem i_bm {Ty : String} {r : V → List V → Hp → VK → Prop} {to : TE} {t : TA} (q : to σ H fun x H1 => tyV K Ty x H1 ∧ t σ H1 fun xs H2 => r x xs H2 Q) : tBM K Ty r to t σ H Q := q
theorem i_bm0 {Ty : String} {r : V → List V → Hp → VK → Prop} {to : TE} (q : to σ H fun x H1 => tyV K Ty x H1 ∧ r x [] H1 Q) : tBM0 K Ty r to σ H Q := q
theorem i_tyL {p : Addr} {xs : List V} {R : Prop} (h : H p = some (.lst xs)) (q : R) : tyV K "list" (.ref p) H ∧ R := ⟨.inl ⟨rfl, _, SqL.of h⟩, q⟩
theorem i_app {p : Addr} {xs : List V} {y : V} (h : H p = some (.lst xs)) (hl : xs.length ≤ 1000) (q : Q .non (upd H p (.lst (xs ++ [y])))) : rAppend (.ref p) [y] H Q := ⟨p, xs, y, rfl, rfl, h, small1000 hl, q⟩
end
def LOOP (J : It) (g : TG) (tb : TS) (D : Ends) (σ : L2.St) (H : Hp) : Prop := ∃ W : Nat → Nat → L2.St → Hp → Prop, (∃ m, W 0 m σ H) ∧ ∀ i m σ H, W i m σ H →
  (J.stop i H ∧ D.nx σ H) ∨ (J.go i H ∧ ∃ N : L2.St → Hp → Prop, (∀ σ' H', N σ' H' → ∃ m', m' < m ∧ W (i + 1) m' σ' H') ∧ ∀ x H', J.yld i H x H' → g x σ H' fun σ2 H2 => tb { D with nx := N, ct := N, bk := D.nx } σ2 H2)
section
variable {σ : L2.St} {H : Hp} {K : PySem.W.Frag} {n bk ct : L2.St → Hp → Prop} {rt : VK} {tb : TS} {g : TG} {te : TE} {ta : TA}
theorem i_for1 (q : ta σ H fun vs H1 => ∃ j : Int, vs = [.int j] ∧ -(2 ^ 62) ≤ j ∧ j < 2 ^ 62 ∧ LOOP (Itr 0 j.toNat) g tb ⟨n, rt, bk, ct⟩ σ H1) : tFor (iRng1 ta) g tb ⟨n, rt, bk, ct⟩ σ H := q
theorem i_for2 (q : ta σ H fun vs H1 => ∃ i j : Int, vs = [.int i, .int j] ∧ (-(2 ^ 62) ≤ i ∧ i < 2 ^ 62 ∧ -(2 ^ 62) ≤ j ∧ j < 2 ^ 62) ∧ LOOP (Itr i (j - i).toNat) g tb ⟨n, rt, bk, ct⟩ σ H1) : tFor (iRng2 ta) g tb ⟨n, rt, bk, ct⟩ σ H := q
theorem i_for3 (q : ta σ H fun vs H1 => ∃ (i j c : Int) (m : Nat), vs = [.int i, .int j, .int c] ∧ RgC i j c m ∧ LOOP (Itc i c m) g tb ⟨n, rt, bk, ct⟩ σ H1) : tFor (iRng3 ta) g tb ⟨n, rt, bk, ct⟩ σ H := q
theorem i_forL (q : te σ H fun x H1 => ∃ a, x = .ref a ∧ (∃ xs, SqL K H1 a xs) ∧ LOOP (Itl K a) g tb ⟨n, rt, bk, ct⟩ σ H1) : tFor (iList K te) g tb ⟨n, rt, bk, ct⟩ σ H := q
theorem i_forT (q : te σ H fun x H1 => ∃ a, x = .ref a ∧ (∃ xs, SqT K H1 a xs) ∧ LOOP (Itt K a) g tb ⟨n, rt, bk, ct⟩ σ H1) : tFor (iTup K te) g tb ⟨n, rt, bk, ct⟩ σ H := q
theorem i_par {i j : Nat} (q : ta σ H fun vs H1 => ∃ v w, vs = [v, w] ∧ n ((σ.set i (some v)).set j (some w)) H1) : tPar i j ta ⟨n, rt, bk, ct⟩ σ H := q
theorem i_parE {x y : V} {R : V → V → Prop} (q : R x y) : ∃ v w, [x, y] = [v, w] ∧ R v w := ⟨x, y, rfl, q⟩
theorem i_aug {i : Nat} {ti : TIp} {x : V} (h : σ[i]? = some (some x)) (q : te σ H fun y H1 => ti x y H1 fun z H2 => n (σ.set i (some z)) H2) : tAug i te ti ⟨n, rt, bk, ct⟩ σ H := ⟨_, h, q⟩
theorem i_ipI {f : Int → Int → Int} {a b : Int} {Q : VK} (q : Q (.int (f a b)) H) : ipI f (.int a) (.int b) H Q := ⟨a, b, rfl, rfl, q⟩
theorem i_asg2 {g1 g2 : TG} (q : te σ H fun x H1 => g1 x σ H1 fun σ1 H2 => g2 x σ1 H2 n) : tAsg2 te g1 g2 ⟨n, rt, bk, ct⟩ σ H := q
theorem i_gtup {a : Addr} {xs : List V} {k : Nat} {tg : TGs} {R : L2.St → Hp → Prop} (h : H a = some (.tup xs)) (hl : xs.length = k) (q : tg xs σ H R) : gTup K k tg (.ref a) σ H R := ⟨a, xs, rfl, SqT.of h, hl, q⟩
theorem i_gcons {v : V} {r : List V} {tg : TGs} {R : L2.St → Hp → Prop} (q : g v σ H fun σ' H' => tg r σ' H' R) : gCons g tg (v :: r) σ H R := ⟨v, r, rfl, q⟩
theorem i_gnil {R : L2.St → Hp → Prop} (q : R σ H) : gNil [] σ H R := ⟨rfl, q⟩
theorem i_gname {i : Nat} {x : V} {R : L2.St → Hp → Prop} (q : R (σ.set i (some x)) H) : gName i x σ H R := q
end
def COMP (J : It) (g : TG) (tt : TT) (te : TE) (vs : List Nat) (σ : L2.St) (H1 : Hp) (D : Addr) (Q : VK) : Prop := ∃ W : Nat → Nat → Hp → Prop, (∃ m, W 0 m (upd H1 D (.lst []))) ∧ ∀ i m H, W i m H →
  (J.stop i H ∧ Q (.ref D) H) ∨ (J.go i H ∧ ∃ Nx : Hp → Prop, (∀ H', Nx H' → ∃ m', m' < m ∧ W (i + 1) m' H') ∧ ∀ x H', J.yld i H x H' → g x (wipe σ vs) H' fun σ2 H2 => wipe σ2 vs = wipe σ vs ∧ tt σ2 H2 fun b H3 =>
    if b = true then te σ2 H3 fun y H4 => ∃ acc, H4 D = some (.lst acc) ∧ acc.length < sizeLine ∧ Nx (upd H4 D (.lst (acc ++ [y]))) else Nx H3)
section
variable {σ : L2.St} {H : Hp} {K : PySem.W.Frag} {Q : VK} {g : TG} {tt : TT} {te tl : TE} {ta : TA} {vs : List Nat}
theorem i_lc1 (q : ta σ H fun us H1 => ∃ j : Int, us = [.int j] ∧ -(2 ^ 62) ≤ j ∧ j < 2 ^ 62 ∧ ∀ D, H1 D = none → COMP (Itr 0 j.toNat) g tt te vs σ H1 D Q) : tLc (iRng1 ta) g tt te vs σ H Q := q
theorem i_lc2 (q : ta σ H fun us H1 => ∃ i j : Int, us = [.int i, .int j] ∧ (-(2 ^ 62) ≤ i ∧ i < 2 ^ 62 ∧ -(2 ^ 62) ≤ j ∧ j < 2 ^ 62) ∧ ∀ D, H1 D = none → COMP (Itr i (j - i).toNat) g tt te vs σ H1 D Q) : tLc (iRng2 ta) g tt te vs σ H Q := q
theorem i_lcL (q : tl σ H fun x H1 => ∃ a, x = .ref a ∧ (∃ xs, SqL K H1 a xs) ∧ ∀ D, H1 D = none → COMP (Itl K a) g tt te vs σ H1 D Q) : tLc (iList K tl) g tt te vs σ H Q := q
theorem i_lcT (q : tl σ H fun x H1 => ∃ a, x = .ref a ∧ (∃ xs, SqT K H1 a xs) ∧ ∀ D, H1 D = none → COMP (Itt K a) g tt te vs σ H1 D Q) : tLc (iTup K tl) g tt te vs σ H Q := q
theorem i_yes {R : Bool → Hp → Prop} (q : R true H) : tYes σ H R := q
end
def LT (U : Hp) (p : Addr) (rows : List (List V)) : Prop := ∃ as : List Addr, U p = some (.lst (as.map V.ref)) ∧ Paired (fun a r => U a = some (.tup r)) as rows
theorem Paired.imp {α β : Type} {F G : α → β → Prop} (h : ∀ a b, F a b → G a b) : ∀ {xs : List α} {ys : List β}, Paired F xs ys → Paired G xs ys
  | _, _, .nil => .nil
  | _, _, .cons a t => .cons (h _ _ a) (Paired.imp h t)
theorem Paired.at {α β : Type} {F : α → β → Prop} : ∀ {xs : List α} {ys : List β}, Paired F xs ys → ∀ (i : Nat) (y : β), ys[i]? = some y → ∃ x, xs[i]? = some x ∧ F x y
  | _, _, .nil, i, y, e => by simp at e
  | _, _, .cons a t, 0, y, e => by
    have e' := Option.some.inj e
    subst e'
    exact ⟨_, rfl, a⟩
  | _, _, .cons a t, i + 1, y, e => Paired.at t i y e
theorem Paired.at' {α β : Type} {F : α → β → Prop} : ∀ {xs : List α} {ys : List β}, Paired F xs ys → ∀ (i : Nat) (x : α), xs[i]? = some x → ∃ y, ys[i]? = some y ∧ F x y
  | _, _, .nil, i, y, e => by simp at e
  | _, _, .cons a t, 0, y, e => by
    have e' := Option.some.inj e
    subst e'
    exact ⟨_, rfl, a⟩
  | _, _, .cons a t, i + 1, y, e => Paired.at' t i y e
theorem Paired.len {α β : Type} {F : α → β → Prop} : ∀ {xs : List α} {ys : List β}, Paired F xs ys → xs.length = ys.length
  | _, _, .nil => rfl
  | _, _, .cons _ t => congrArg (· + 1) (Paired.len t)
theorem Paired.mp {α β γ : Type} {F : α → γ → Prop} {f : β → γ} : ∀ {xs : List α} {ys : List β}, Paired (fun a b => F a (f b)) xs ys → Paired F xs (ys.map f)
  | _, _, .nil => .nil
  | _, _, .cons a t => .cons a (Paired.mp t)
theorem LT.mono {U U' : Hp} {p : Addr} {rows : List (List V)} (e : Same U U') (h : LT U p rows) : LT U' p rows := by
  obtain ⟨as, h1, h2⟩ := h
  exact ⟨as, e _ _ h1, Paired.imp (fun a r x => e _ _ x) h2⟩
section
variable {σ : L2.St} {H U : Hp} {K : PySem.W.Frag} {n bk ct : L2.St → Hp → Prop} {rt : VK} {tb : TS} {g : TG} {te : TE} {ta : TA} {p : Addr} {rows : List (List V)}
theorem LT.len (h : LT U p rows) : ∃ xs : List V, U p = some (.lst xs) ∧ xs.length = rows.length := by
  obtain ⟨as, h1, h2⟩ := h
  exact ⟨_, h1, by rw [List.length_map, Paired.len h2]⟩
end
def Lay (n : Nat) (d : PyData) : Prop := d.canLay0 = true ∧ d.depth ≤ n
theorem lay_int {n : Nat} {i : Int} : Lay n (.int i) := ⟨rfl, Nat.zero_le _⟩
theorem lay_none {n : Nat} : Lay n .none := ⟨rfl, Nat.zero_le _⟩
theorem lay_bool {n : Nat} {b : Bool} : Lay n (.bool b) := ⟨rfl, Nat.zero_le _⟩
theorem Lay.shaped {n : Nat} {d : PyData} (h : Lay n d) (hn : n ≤ 64) : SeqAt.shaped d = true := by
  unfold SeqAt.shaped
  rw [h.1, decide_eq_true (Nat.le_trans h.2 hn)]
  rfl
theorem bt_len : bootBuiltins "len" = some (.builtin "len") := by decide +kernel
theorem bt_abs : bootBuiltins "abs" = some (.builtin "abs") := by decide +kernel
theorem bt_max : bootBuiltins "max" = some (.builtin "max") := by decide +kernel
theorem bt_min : bootBuiltins "min" = some (.builtin "min") := by decide +kernel
theorem bt_all : bootBuiltins "all" = some (.builtin "all") := by decide +kernel
theorem bt_any : bootBuiltins "any" = some (.builtin "any") := by decide +kernel
theorem bt_sorted : bootBuiltins "sorted" = some (.builtin "sorted") := by decide +kernel
theorem bt_isinstance : bootBuiltins "isinstance" = some (.builtin "isinstance") := by decide +kernel
theorem bt_list : bootBuiltins "list" = some (.type "list") := by decide +kernel
theorem bt_int : bootBuiltins "int" = some (.type "int") := by decide +kernel
theorem bt_bool : bootBuiltins "bool" = some (.type "bool") := by decide +kernel
section
variable {K : PySem.W.Frag} {H : Hp} {Q : VK}
theorem i_isI {i : Int} (q : Q (.bl true) H) : rIsi K [.int i, .ty "int"] H Q := ⟨.int i, .ty "int", .type "int", .type "int", true, rfl, .ty _, .base (.int _), kit_ty (by decide +kernel), q⟩
theorem i_isB {i : Int} (q : Q (.bl false) H) : rIsi K [.int i, .ty "bool"] H Q := ⟨.int i, .ty "bool", .type "int", .type "bool", false, rfl, .ty _, .base (.int _), kit_ty (by decide +kernel), q⟩
theorem i_isBB {b : Bool} (q : Q (.bl true) H) : rIsi K [.bl b, .ty "bool"] H Q := ⟨.bl b, .ty "bool", .type "bool", .type "bool", true, rfl, .ty _, .base (.bl _), kit_ty (by decide +kernel), q⟩
theorem i_isL {p : Addr} {xs : List V} (h : H p = some (.lst xs)) (q : Q (.bl true) H) : rIsi K [.ref p, .ty "list"] H Q := ⟨.ref p, .ty "list", .type "list", .type "list", true, rfl, .ty _, .base (.lst h), kit_ty (by decide +kernel), q⟩
theorem i_isT {p : Addr} {xs : List V} (h : H p = some (.tup xs)) (q : Q (.bl true) H) : rIsi K [.ref p, .ty "tuple"] H Q := ⟨.ref p, .ty "tuple", .type "tuple", .type "tuple", true, rfl, .ty _, .base (.tup h), kit_ty (by decide +kernel), q⟩
end
structure Dr (U H : Hp) (s : Addr) : Prop where
  ex : ∃ (l : Addr) (ns : List Int) (i b e : Int), H s = some (.lst [.ref l, .int i, .int b, .int e]) ∧ U l = some (.lst (ns.map V.int)) ∧ 0 ≤ i ∧ i ≤ ns.length ∧ 0 ≤ b
  out : U s = none
def spStart (K : PySem.W.Frag) : Sp := fun vs H Q _ => ∃ (a : Addr) (ns : List Int) (U : Hp), vs = [.ref a] ∧ SqL K H a (ns.map V.int) ∧ Same U H ∧
  ∀ s U' H', Gr [] U H U' H' → Dr U' H' s → H s = none → Q (.ref s) H'
def spDraw : Sp := fun vs H Q _ => ∃ (s : Addr) (many : Int) (U : Hp), vs = [.ref s, .int many] ∧ 0 < many ∧ many < 2 ^ 200 ∧ Same U H ∧ Dr U H s ∧
  ∀ r H', 0 ≤ r → r < many → Same U H' → Dr U H' s → (∀ a, a ≠ s → H' a = H a) → Q (.int r) H'
theorem cut63 (ns : List Int) : ∃ ms : List Int, cutV (ns.map V.int) none (some 63) = ms.map V.int := by
  unfold cutV
  exact ⟨(ns.drop _).take _, by rw [List.map_take, List.map_drop]⟩
theorem Dr.mono {U U' H H' : Hp} {s : Addr} (d : Dr U H s) (e : Same U U') (h : H' s = H s) (n : U' s = none) : Dr U' H' s := by
  obtain ⟨⟨l, ns, i, b, e', h1, h2, h3⟩, _⟩ := d
  exact ⟨⟨l, ns, i, b, e', by rw [h]; exact h1, e _ _ h2, h3⟩, n⟩
theorem Dr.pl {U H : Hp} {s : Addr} (d : Dr U H s) : Pl H s := by
  obtain ⟨⟨l, ns, i, b, e', h1, _⟩, _⟩ := d
  exact .of h1 rfl
theorem Dr.some {U H : Hp} {s : Addr} (d : Dr U H s) : H s ≠ none := by
  obtain ⟨⟨l, ns, i, b, e', h1, _⟩, _⟩ := d
  rw [h1]
  intro z
  cases z
/-- a new thing that never changes; a new one that will -/
theorem Dr.new {U H : Hp} {s p : Addr} {o : HO} (d : Dr U H s) (n : H p = none) (e : Same U H) : Dr (upd U p o) (upd H p o) s := by
  have ne : s ≠ p := fun z => by
    subst z
    exact d.some n
  exact d.mono (same_new (e.free n)) (upd_ne ne) (by rw [upd_ne ne]; exact d.out)
theorem Dr.newM {U H : Hp} {s p : Addr} {o : HO} (d : Dr U H s) (n : H p = none) : Dr U (upd H p o) s := by
  have ne : s ≠ p := fun z => by
    subst z
    exact d.some n
  exact d.mono (Same.refl _) (upd_ne ne) d.out
theorem Dr.mut {U H : Hp} {s p : Addr} {o : HO} (d : Dr U H s) (ne : s ≠ p) : Dr U (upd H p o) s := d.mono (Same.refl _) (upd_ne ne) d.out
/-- behind a call that leaves all as it was -/
theorem Dr.gr {M : List Addr} {U U' H H' : Hp} {s : Addr} (d : Dr U H s) (g : Gr M U H U' H') (m : s ∉ M) : Dr U' H' s := by
  obtain ⟨⟨l, ns, i, b, e', h1, h2, h3⟩, n⟩ := d
  exact ⟨⟨l, ns, i, b, e', g.hh _ _ m (ntb rfl) h1, g.vv _ _ h2, h3⟩, g.fr s n (by rw [h1]; intro z; cases z)⟩
abbrev Tups (U : Hp) (as : List Addr) (rows : List (List V)) : Prop := Paired (fun a r => U a = some (.tup r)) as rows
theorem Tups.mono {U U' : Hp} {as : List Addr} {rows : List (List V)} (e : Same U U') (h : Tups U as rows) : Tups U' as rows := Paired.imp (fun _ _ x => e _ _ x) h
theorem Paired.setAt {α β : Type} {F : α → β → Prop} {a : α} {b : β} (h : F a b) : ∀ {xs : List α} {ys : List β} (i : Nat), Paired F xs ys → Paired F (xs.set i a) (ys.set i b)
  | _, _, _, .nil => .nil
  | _, _, 0, .cons _ t => .cons h t
  | _, _, i + 1, .cons x t => .cons x (Paired.setAt h i t)
theorem Tups.snoc {U : Hp} {as : List Addr} {rows : List (List V)} {a : Addr} {r : List V} (h : U a = some (.tup r)) (hT : Tups U as rows) : Tups U (as ++ [a]) (rows ++ [r]) := Paired.snoc hT h
theorem ixN_of {n j : Nat} {k : Int} (e : k = (j : Int)) (h : j < n) : ixN n k = some j := by
  unfold ixN
  rw [e, if_pos (by omega), if_pos (by omega), Int.toNat_natCast]
end SW
namespace SWS
open PySem PySem.Spec PyProof.Rows SS
/-- how many unlike ones -/
inductive DCnt : List Str → Nat → Prop
  | nil : DCnt [] 0
  | old {xs : List Str} {c : Nat} {x : Str} : DCnt xs c → x ∈ xs → DCnt (xs ++ [x]) c
  | new {xs : List Str} {c : Nat} {x : Str} : DCnt xs c → x ∉ xs → DCnt (xs ++ [x]) (c + 1)
theorem DCnt.le {xs : List Str} {c : Nat} (h : DCnt xs c) : c ≤ xs.length ∧ (c = xs.length ↔ xs.Nodup) := by
  induction h with
  | nil => exact ⟨Nat.le_refl _, by simp⟩
  | @old xs c x h hx ih =>
    obtain ⟨i1, i2⟩ := ih
    rw [List.length_append, List.length_singleton]
    refine ⟨by omega, ⟨fun e => by omega, fun n => ?_⟩⟩
    exact absurd rfl ((List.nodup_append.mp n).2.2 x hx x (List.mem_singleton.mpr rfl))
  | @new xs c x h hx ih =>
    obtain ⟨i1, i2⟩ := ih
    rw [List.length_append, List.length_singleton]
    refine ⟨by omega, ⟨fun e => ?_, fun n => ?_⟩⟩
    · refine List.nodup_append.mpr ⟨i2.mp (by omega), by simp, fun a ha b hb z => ?_⟩
      rw [List.mem_singleton.mp hb] at z
      exact hx (z ▸ ha)
    · have := i2.mpr (List.nodup_append.mp n).1
      omega
section
variable {prog : Program} {w : World} {A : Around} {R : Result → Shared → Prop} {I : Addr} {fp wr : List Addr} {G : Array GenState → Array GenState → Prop} {n : Nat} {P : Nat → Value → Prop} {St : Nat → Shared → Prop}
theorem loopS (W : WalksS prog w A.in1 I fp wr G n P St) (S : Addr) (hSf : S ∉ fp) (xs : List Str) (hsz : xs.length = n) (hb : n + 1 < scanBound)
    (hval : ∀ i v, P i v → ∃ t, v = .str (xs.getD i Str.empty) t) :
    ∀ (k i : Nat) (s : Shared), n - i = k → i ≤ n → St i s →
      (∃ c, DCnt (xs.take i) c ∧ s.heap.SetOf (PySem.strKind prog w) S (fun k' => (xs.take i).any (· == k')) c) →
      (∀ s' c, Moved (S :: wr) G s s' → DCnt xs c → s'.heap.SetOf (PySem.strKind prog w) S (fun k' => xs.any (· == k')) c → R (.ok (.ret .none)) s') →
      codeAny (model prog w) A (.builtin "set.update.loop" ⟨[.ref S, .ref I], []⟩) R s := by
  have hSw : S ∉ wr := fun h => hSf (W.sub _ h)
  have hsub : ∀ b ∈ wr, b ∈ S :: wr := fun b hb => List.mem_cons_of_mem _ hb
  intro k
  induction k with
  | zero =>
    intro i s hk hi hst ⟨c, hc, hS⟩ hR
    have hin : i = n := by omega
    subst hin
    refine codeAny_builtin PyProof.Rows.F.entry_set_update_loop ?_
    rw [Around.under_plainId PyProof.Rows.F.plain_set_update_loop _]
    show wpAny _ A.in1 (pyNext (.ref I) >>= _) _ _ s
    refine wpAny_bind (W.done s _ _ hst fun s' hm => ?_)
    show wpAny _ A.in1 (ret Value.none) _ _ s'
    have e : xs.take i = xs := List.take_of_length_le (by omega)
    rw [e] at hc hS
    exact wpAny_pure (hR s' c (hm.mono hsub) hc (by
      obtain ⟨o, es, ep, t, ho, rest⟩ := hS
      exact ⟨o, es, ep, t, hm.heap S _ hSw ho, rest⟩))
  | succ k ih =>
    intro i s hk hi hst ⟨c, hc, hS⟩ hR
    have hlt : i < n := by omega
    have hcn : c ≤ i := by
      have := hc.le.1
      rw [List.length_take] at this
      omega
    refine codeAny_builtin PyProof.Rows.F.entry_set_update_loop ?_
    rw [Around.under_plainId PyProof.Rows.F.plain_set_update_loop _]
    show wpAny _ A.in1 (pyNext (.ref I) >>= _) _ _ s
    refine wpAny_bind (W.item i s _ _ hlt hst fun v s' hP hst' hm => ?_)
    obtain ⟨t, rfl⟩ := hval i v hP
    have hS' : s'.heap.SetOf (PySem.strKind prog w) S (fun k' => (xs.take i).any (· == k')) c := by
      obtain ⟨o, es, ep, tb, ho, rest⟩ := hS
      exact ⟨o, es, ep, tb, hm.heap S _ hSw ho, rest⟩
    show wpAny _ A.in1 (holding [Value.str (xs.getD i Str.empty) t] (setAdd S (.str (xs.getD i Str.empty) t)) >>= _) _ _ s'
    refine wpAny_bind (wpAny_holding ?_)
    unfold setAdd
    refine wpAny_holding ?_
    refine wpAny_bind ((PySem.strKind prog w).pyHash (k := xs.getD i Str.empty) (strKind_is _ _ _ _) ?_)
    refine wpAny_setAddHashed_of (knd := PySem.strKind prog w) (s := { s' with toks := s'.toks + 1 }) (strKind_is _ _ _ _) rfl hS' (by omega) fun h' hsb hS2 => ?_
    have hi' : i < xs.length := by omega
    have ex : xs.getD i Str.empty = xs[i] := by rw [List.getD_eq_getElem?_getD, List.getElem?_eq_getElem hi']; rfl
    have et : xs.take (i + 1) = xs.take i ++ [xs[i]] := by rw [List.take_add_one, List.getElem?_eq_getElem hi']; rfl
    rw [ex] at hS2
    have hSi : ∃ c', DCnt (xs.take (i + 1)) c' ∧ h'.SetOf (PySem.strKind prog w) S (fun k' => (xs.take (i + 1)).any (· == k')) c' := by
      have hcg : ∀ k' : Str, ((xs.take i).any (· == k') || decide (k' = xs[i])) = (xs.take (i + 1)).any (· == k') := fun k' => by
        rw [et, List.any_append]
        congr 1
        by_cases e : k' = xs[i]
        · subst e; simp
        · have hb : (xs[i] == k') = false := by simpa [beq_iff_eq] using (fun h' : xs[i] = k' => e h'.symm)
          simp [hb, e]
      have hm : (xs.take i).any (· == xs[i]) = true ↔ xs[i] ∈ xs.take i := by
        rw [List.any_eq_true]
        exact ⟨fun ⟨y, h1, h2⟩ => (eq_of_beq h2) ▸ h1, fun h => ⟨_, h, beq_self_eq_true _⟩⟩
      rw [et]
      by_cases hz : xs[i] ∈ xs.take i
      · rw [if_pos (hm.mpr hz)] at hS2
        exact ⟨c, .old hc hz, SetOf_congr hS2 (by rw [← et]; exact hcg) rfl⟩
      · rw [if_neg fun z => hz (hm.mp z)] at hS2
        exact ⟨c + 1, .new hc hz, SetOf_congr hS2 (by rw [← et]; exact hcg) rfl⟩
    refine wpAny_pure ⟨plainId_quiet PyProof.Rows.F.plain_set_update_loop _, ih (i + 1) _ (by omega) hlt (W.frame _ s' _ _ hst' (Nat.le_succ _) fun b hb o e => ?_) hSi fun s'' c'' hm'' hc'' hS'' => ?_⟩
    · rw [hsb.2 b (fun h : b = S => hSf (by rw [← h]; exact hb))]; exact e
    · refine hR s'' c'' (Moved.trans W.gtrans ((hm.mono hsub).then_heap (Nat.le_succ _) fun b o hb e => ?_) hm'') hc'' hS''
      rw [hsb.2 b (fun h : b = S => hb (by rw [h]; exact List.mem_cons_self))]; exact e
end
section
variable {prog : Program} {w : World} {A : Around} {E : Value → Shared → Prop} {s : Shared}
abbrev setO (led : Bool) : Obj := { cls := .type "set", dict := none, data := .set #[] 0 (.fresh 0 0 led) }
theorem set_list {l : Addr} {items : Array Value} {xs : List Str} {Q : Value → Shared → Prop}
    (hh : A.handled = none) (hl : s.heap.IsList l items) (hi : PyProof.Rows.StrsAre items.toList xs) (hb : xs.length + 1 < scanBound)
    (h : ∀ (h' : Heap) (tk c : Nat), DCnt xs c → h'.SetOf (PySem.strKind prog w) s.heap.objs.size (fun k' => xs.any (· == k')) c →
      (∀ b o, b < s.heap.objs.size → s.heap.get? b = some o → h'.get? b = some o) → Q (.ref s.heap.objs.size) { s with heap := h', toks := tk }) :
    wpAny (model prog w) A (call (.type "set") [.ref l]) Q E s := by
  obtain ⟨c, tl, hmro⟩ := PySem.F.called_set.mro
  have hmade := PySem.F.called_set.made
  have hsub := PySem.F.called_set.sub
  refine wpAny_call (codeAny_of_tree ?_)
  show wpAny _ _ (callAny (.type "set") _) _ _ _
  refine wpAny_pure ⟨Code.quiet_builtin _ (by decide +kernel), codeAny_builtin PySem.F.entry_type_call ?_⟩
  rw [Around.under_plain (weight_type_call_type "set" [.ref l] []) rfl]
  have h1 := PySem.F.called_set.notType
  have h2 := PySem.F.called_set.canCreate
  have hct := PySem.F.typeCall_set_1 (.ref l)
  repeat (any_goals (first | assumption | wp_step))

  refine codeAny_mono (code_set_new_1 (.ref l) (E := E) (Q₁ := fun obj s₁ => ∃ led : Bool, obj = .ref s.heap.objs.size ∧ s₁ = { s with heap := s.heap.push (setO led) }) fun led => ⟨led, rfl, rfl⟩) fun r s₁ hr => ?_
  cases r with
  | error e => exact hr
  | ok fl =>
    cases fl with
    | ret obj =>
      obtain ⟨led, rfl, rfl⟩ := hr
      have hS : (s.heap.push (setO led)).get? s.heap.objs.size = some (setO led) := Heap.get?_push_size _ rfl
      have hT : Shared.TypeIs { s with heap := s.heap.push (setO led) } (.ref s.heap.objs.size) "set" := ⟨_, hS, rfl⟩
      have hli := PySem.F.called_set.init.lookup
      have hbi := PySem.F.called_set.init.bind (.ref s.heap.objs.size)
      repeat (any_goals (first | assumption | wp_step))

      refine codeAny_mono (codeAny_call_builtin (R := wants (fun r s₂ => r = .none ∧ ∃ h' tk c, s₂ = { s with heap := h', toks := tk } ∧ DCnt xs c ∧
          h'.SetOf (PySem.strKind prog w) s.heap.objs.size (fun k' => xs.any (· == k')) c ∧
          (∀ b o, b < s.heap.objs.size → s.heap.get? b = some o → h'.get? b = some o)) E) PySem.F.called_set.init.plain PySem.F.entry_set_init (check_set_init_1 hT ?_)) fun r₂ s₂ hr₂ => ?_
      · obtain ⟨ol, hol, hcl, nl, hdl⟩ := hl
        obtain ⟨ocls, odict, odata, oslots⟩ := ol
        simp only at hcl hdl
        subst hcl; subst hdl
        have hol' : (s.heap.push (setO led)).get? l = some { cls := .type "list", dict := odict, data := .seq items nl, slots := oslots } := Heap.get?_push_of_some _ hol
        have hsls := PySem.F.sub_list_set
        have hslf := PySem.F.sub_list_frozenset
        have hne : (Value.type "list" == Value.type "dict") = false := by decide
        have hl1 : (s.heap.push (setO led)).IsList l items := ⟨_, hol', rfl, nl, rfl⟩
        unfold Builtin.«set.__init__» noKeywords Builtin.Frozenset.updateFrom
        generalize hPI : pyIter = PI
        with_reducible refine wpAny_bind ?_
        ((with_reducible apply wpAny_ite_true); focus (rfl))
        with_reducible refine wpAny_pure ?_
        wp_delta
        with_reducible refine wpAny_bind ?_
        wp_delta
        with_reducible refine wpAny_bind ?_
        wp_delta
        with_reducible refine wpAny_bind ?_
        with_reducible refine wpAny_typeOf (by assumption) ?_
        ((with_reducible apply wpAny_ite_false); focus (rfl))
        with_reducible refine wpAny_pure ?_
        wp_delta
        wp_delta
        with_reducible refine wpAny_pure ?_
        with_reducible refine wpAny_bind ?_
        wp_delta
        ((with_reducible apply wpAny_ite_false); focus (rfl))
        ((with_reducible apply wpAny_ite_false); focus (rfl))
        ((with_reducible apply wpAny_ite_false); focus (rfl))
        with_reducible refine wpAny_pure ?_
        with_reducible refine wpAny_bind ?_
        wp_delta
        with_reducible refine wpAny_pure ?_
        with_reducible refine wpAny_bind ?_
        wp_delta
        with_reducible refine wpAny_bind ?_
        wp_delta
        with_reducible refine wpAny_bind ?_
        ((with_reducible apply wpAny_load'); focus (heap_get))
        ((with_reducible apply wpAny_ite_false); focus (rfl))
        with_reducible refine wpAny_pure ?_
        with_reducible refine wpAny_pure ?_
        ((with_reducible apply wpAny_ite_false); focus (rfl))
        wp_delta
        with_reducible refine wpAny_bind ?_
        with_reducible refine wpAny_bind ?_
        wp_delta
        wp_delta
        with_reducible refine wpAny_bind ?_
        wp_delta
        with_reducible refine wpAny_bind ?_
        wp_delta
        with_reducible refine wpAny_bind ?_
        ((with_reducible apply wpAny_loadPart'); focus (heap_get))
        with_reducible refine wpAny_pure ?_
        with_reducible refine wpAny_of_eq (by assumption) ?_
        wp_delta
        wp_delta
        with_reducible refine wpAny_bind ?_
        wp_delta
        with_reducible refine wpAny_bind ?_
        ((with_reducible apply wpAny_loadPart'); focus (heap_get))
        with_reducible refine wpAny_pure ?_
        with_reducible refine wpAny_of_eq (by assumption) ?_
        ((with_reducible apply wpAny_ite_false); focus (rfl))
        with_reducible refine wpAny_bind ?_
        wp_delta
        with_reducible refine wpAny_bind ?_
        ((with_reducible apply wpAny_loadPart'); focus (heap_get))
        with_reducible refine wpAny_pure ?_
        ((with_reducible apply wpAny_ite_false); focus (rfl))
        with_reducible refine wpAny_bind ?_
        subst hPI

        refine wpAny_pyIter_list hl1 ?_
        refine wpAny_bind (wpAny_runValue ?_)
        have hlS : l < s.heap.objs.size := Heap.lt_size hol
        have hh3 : A.in1.in1.in1.handled = none := by simp [hh]
        have hneI : l ≠ (s.heap.push (setO led)).objs.size := by
          rw [Heap.size_push]; exact Nat.ne_of_lt (Nat.lt_succ_of_lt hlS)
        have hSf : s.heap.objs.size ∉ [(s.heap.push (setO led)).objs.size, l] := by
          rw [Heap.size_push]; simp only [List.mem_cons, List.mem_singleton, List.not_mem_nil, or_false, not_or]
          exact ⟨Nat.ne_of_lt (Nat.lt_succ_self _), Nat.ne_of_gt hlS⟩
        have hsz : xs.length = items.size := by rw [← StrsAre.len_eq hi, Array.length_toList]
        have hval : ∀ (i : Nat) (v : Value), items[i]? = some v → ∃ t, v = .str (xs.getD i Str.empty) t := fun i v hv => strs_at hi i v (by rw [Array.getElem?_toList]; exact hv)
        refine loopS ((Walks.list hh3 _ l hneI items).toS) s.heap.objs.size
          hSf xs hsz (by rw [← hsz]; exact hb) hval (items.size - 0) 0 _ (by omega) (Nat.zero_le _)
          ⟨⟨_, Heap.get?_push_size _ rfl, rfl, rfl⟩, (hl1.push _)⟩ ?hS0 ?hR
        case hS0 =>
          have hget : ((s.heap.push (setO led)).push { cls := .type "list_iterator", data := .fields #[.ref l, .int 0 0] }).get? s.heap.objs.size
              = some (setO led) := Heap.get?_push_of_some _ hS
          exact ⟨0, .nil, PyProof.Rows.SetOf_congr ((PyProof.Rows.setObjOf_fresh (knd := PySem.strKind prog w) led).setOf hget (by unfold scanBound; omega)) (fun _ => rfl) rfl⟩
        case hR =>
          intro s' c' hm hc' hS'
          obtain ⟨h', g', d', tk', os'⟩ := s'
          have eg : g' = s.gens := hm.gens
          have ed : d' = s.drawn := hm.drawn
          have eo : os' = s.os := hm.os
          subst eg; subst ed; subst eo
          show wpAny _ _ _ _ _ _
          refine wpAny_pure ?_
          show wpAny _ _ (ret Value.none) _ _ _
          refine wpAny_pure ⟨rfl, h', tk', c', rfl, hc', hS', fun b o hb e => ?_⟩
          have hb1 : b ≠ s.heap.objs.size := Nat.ne_of_lt hb
          have hb2 : b ≠ (s.heap.push (setO led)).objs.size := by
            rw [Heap.size_push]; exact Nat.ne_of_lt (Nat.lt_succ_of_lt hb)
          exact hm.heap b o (by simp only [List.mem_cons, List.mem_singleton, List.not_mem_nil, or_false, not_or]; exact ⟨hb1, hb2⟩) (Heap.get?_push_of_some _ (Heap.get?_push_of_some _ e))

      · cases r₂ with
        | error e => exact hr₂
        | ok fl₂ =>
          cases fl₂ with
          | ret r =>
            obtain ⟨rfl, h', tk, c', rfl, hc', hS', hk'⟩ := hr₂
            repeat (any_goals (first | assumption | wp_step))
            exact h _ _ _ hc' hS' hk'
          | _ => exact hr₂.elim
    | _ => exact hr.elim
end
end SWS
namespace SW
open PySem PySem.Spec PyProof.Rows L2 SWS
end SW
namespace SW
open PySem PySem.Spec PyProof.Rows L2
variable [QN]
theorem pmk_own0 {X : Cx} {C : Addr} {bmB : List Value} {B newId initId : String} {x : Str} {p pos : Pos} (F : ExcBaseFacts B newId initId bmB) (q : PySem.W.excIn X.K C bmB newId = true) (gC : X.mg x = some (.ref C))
    (kC : PySem.W.keepIn X.K (.ref C) = true) (r : Raises X (.ref C)) (hg : Gl X x) (hdb : (x == ("__debug__" : Str)) = false := by decide) :
    PMk X (.Call (.Name x p) [] [] pos) (fun _ H Q => Q (.ref C) none H) := by
  intro pins s σ H Q I h
  refine wpAny_Call_Name_kw (ld_glob I hg gC ?_ hdb)
  refine PySem.W.callWith_K0 I.kIn kC ?_
  show wpAny _ _ (call (.ref C) []) _ _ _
  obtain ⟨bm, N, nm, qn, bs, hdct, sn, sub, ab, col, dd, k0, k1, k2, k3, k5, mN, hC, hN, hni, T⟩ := exc_obj I.kIn q
  exact wpAny_call_exc_subT F T hC hN hni (fun h' e hm => mk_of I hm r h (I.hok.gone hm.new)) (Nat.zero_le _)
def errMro (C N : Addr) : List Value := [.ref C, .ref N, .type "ValueError", .type "Exception", .type "BaseException", .type "object"]
def errB (K : PySem.W.Frag) (C N : Addr) : Bool :=
  ((PySem.W.clsIn K C).any fun cd => cd.mro == errMro C N) && (PySem.W.typeIn K (.ref C) == some (.type "type")) && PySem.W.keepIn K (.ref C) && (PySem.W.findIn K (.ref C) "__getattribute__" == some (some (.builtin "BaseException.__getattribute__"))) &&
    (PySem.W.findIn K (.ref C) "__getattr__" == some none) && (PySem.W.findIn K (.ref C) "__class__" == some (some (.builtin "object.__class__"))) && PySem.W.hasDictIn K C
structure ErrC (K : PySem.W.Frag) (C N : Addr) : Prop where
  mro : ∃ cd, PySem.W.clsIn K C = some cd ∧ cd.mro = errMro C N
  ty : PySem.W.typeIn K (.ref C) = some (.type "type")
  kp : PySem.W.keepIn K (.ref C) = true
  ga : PySem.W.findIn K (.ref C) "__getattribute__" = some (some (.builtin "BaseException.__getattribute__"))
  gt : PySem.W.findIn K (.ref C) "__getattr__" = some none
  cl : PySem.W.findIn K (.ref C) "__class__" = some (some (.builtin "object.__class__"))
  hd : PySem.W.hasDictIn K C = true
theorem errC_of {K : PySem.W.Frag} {C N : Addr} (h : errB K C N = true) : ErrC K C N := by
  unfold errB at h
  simp only [Bool.and_eq_true, beq_iff_eq] at h
  obtain ⟨⟨⟨⟨⟨⟨h1, h2⟩, h3⟩, h4⟩, h5⟩, h6⟩, h7⟩ := h
  refine ⟨?_, h2, h3, h4, h5, h6, h7⟩
  cases e : PySem.W.clsIn K C with
  | none =>
    rw [e] at h1
    cases h1
  | some cd =>
    rw [e] at h1
    exact ⟨cd, rfl, beq_iff_eq.mp h1⟩
theorem ErrC.sub {K : PySem.W.Frag} {C N : Addr} (h : ErrC K C N) (b : Value) : PySem.W.subIn K (.ref C) b = some ((errMro C N).contains b) := by
  obtain ⟨cd, e, m⟩ := h.mro
  show PySem.W.mroIn K C b = _
  unfold PySem.W.mroIn
  rw [e, Option.bind_some, m]
  rfl
theorem ErrC.base {K : PySem.W.Frag} {C N : Addr} (h : ErrC K C N) : PySem.W.subIn K (.ref C) (.type "BaseException") = some true := by
  rw [h.sub]
  rfl
theorem ErrC.raises {X : Cx} {C N : Addr} (h : ErrC X.K C N) : Raises X (.ref C) := raises_own h.base h.ty
abbrev SpW := Addr → Value → Option Addr → Sp
def tCallW (sp : SpW) (a : Addr) (cls : Value) (d : Option Addr) (t : TA) : TE := fun σ H Q => t σ H fun vs H1 => sp a cls d vs H1 Q E0
theorem i_callW {σ : L2.St} {H : Hp} {Q : VK} {sp : SpW} {a : Addr} {cls : Value} {d : Option Addr} {t : TA} (q : t σ H fun vs H1 => sp a cls d vs H1 Q E0) : tCallW sp a cls d t σ H Q := q
theorem i_callS {σ : L2.St} {H : Hp} {Q : VK} {sp : Sp} {E : L2.St → XK} {t : TA} (q : t σ H fun vs H1 => sp vs H1 Q (E σ)) : tCallS sp E t σ H Q := q
end SW
namespace SW
open PySem PySem.Spec PyProof.Rows L2
variable [QN]
theorem coldAt {X : Cx} (σ : L2.St) : PassesAt (L2.CX X.prog X.w) X σ ((fun _ => E0 : L2.St → XK) σ) := fun pins H s e s' I c => passL pins σ H s e s' I c
section
variable {X : Cx} {CX : CXT} {k n : Nat} {f C : Addr} {fd : FuncData} {ps ks : List Str} {sp : Sp} {dvs : List V} {ds : List Value} {E : L2.St → XK} {x m : Str} {p pos apos : Pos} {e o : Expr} {es : List Expr} {kws : List Keyword} {ta : TE} {t tk : TA} {g : List Value → List Value → List Value} {gV : List V → List V → List V}
def tMeS (C : Addr) (m : Str) (sp : Sp) (dvs : List V) (E : L2.St → XK) (ta : TE) (t : TA) : TE := fun σ H Q => ta σ H fun x H1 => ∃ a dx fs, x = .ref a ∧ H1 a = some (.ins C dx fs) ∧ fs.lookup m = none ∧
  t σ H1 fun vs H2 => sp (x :: (vs ++ dvs)) H2 Q (E σ)
theorem pe_meS {pl : Sem Bool} (he : PE X o ta) (c : Cls X.K C) (hm : Meth X.K C m f) (F : FnOk X.prog X.w X.K X.mg X.base CX k f fd ps sp) (hr : Room k X.A) (hb : Binds X.K fd ps ds) (hd : Vals dvs ds) (hx : ∀ σ, PassesAt CX X σ (E σ)) (ha : PA X (e :: es) t)
    (hst : starEach (e :: es) X.env = (false, eval e X.env) :: starEach es X.env := by rfl) (hpl : (backTo pos (starEach es X.env)).any (·.1) = false := by rfl)
    (ht : eval (.Call (.Attribute o m apos) (e :: es) [] pos) X.env = (do
      let ov ← eval o X.env
      standAt apos.atName
      let (f, first) ← holding [ov] (getMethod ov m pl)
      callWith pos f first (backTo pos (starEach (e :: es) X.env)) (backToKw pos (keywordEach [] X.env))) := by rfl) :
    PE X (.Call (.Attribute o m apos) (e :: es) [] pos) (tMeS C m sp dvs E ta t) := by
  refine ⟨fun pins s σ H Q I h => ?_⟩
  refine PySem.W.methodCall_KW (pl := pl) (thn (he.run pins s σ H _ I h) fun u s1 ⟨x, H1, I1, rx, a, dx, fs, ex, ea, l, q⟩ => ?_) ht
  subst ex
  obtain rfl : u = Value.ref a := rx
  refine getmeth_ok I1 ea c hm l ?_
  refine PySem.W.callWith_K (first := [.ref a]) (h₀ := X.base) I.ok.mod.kin hm.kp (thn (ha.run pos pins s1 σ H1 _ I1 q) fun us s2 ⟨vs, H2, I2, r, q2⟩ => ⟨I2.kIn, ?_⟩) hst hpl
  exact run_fnSD (us := .ref a :: us) (vs := .ref a :: vs) F hr hb hd (hx σ) I2 (.cons rfl r) q2
def tMkS (C : Addr) (sp : Sp) (dvs : List V) (E : L2.St → XK) (t : TA) : TE := fun σ H Q => t σ H fun vs H1 => ∀ x dx, H1 x = none → H1 dx = none → dx ≠ x →
  sp (.ref x :: (vs ++ dvs)) (upd (upd H1 dx (.own x)) x (.ins C dx [])) (fun v H2 => v = .non ∧ Q (.ref x) H2) (E σ)
def tMkNS (C : Addr) (n m : Nat) (sp : Sp) (gV : List V → List V → List V) (E : L2.St → XK) (t tk : TA) : TE := fun σ H Q => t σ H fun vs H1 => tk σ H1 fun zs H2 => vs.length = n ∧ zs.length = m ∧
  ∀ x dx, H2 x = none → H2 dx = none → dx ≠ x → sp (gV (.ref x :: vs) zs) (upd (upd H2 dx (.own x)) x (.ins C dx [])) (fun v H3 => v = .non ∧ Q (.ref x) H3) (E σ)
theorem run_mkNS {pins : List (Addr × Obj)} {σ : L2.St} {H : Hp} {s : Shared} {Q : VK} {us ws : List Value} {vs zs : List V} (M : Mk X.K C f) (F : FnOk X.prog X.w X.K X.mg X.base CX k f fd ps sp) (hr : Room (k + 1) X.A) (hb : KBn X.K fd ps (n + 1) ks g gV)
    (hx : PassesAt CX X σ (E σ)) (I : Inv X pins σ H s) (r : Vals vs us) (rz : Vals zs ws) (l1 : vs.length = n) (l2 : zs.length = ks.length)
    (h : ∀ x dx, H x = none → H dx = none → dx ≠ x → sp (gV (.ref x :: vs) zs) (upd (upd H dx (.own x)) x (.ins C dx [])) (fun v H2 => v = .non ∧ Q (.ref x) H2) (E σ)) :
    wpAny (model X.prog X.w) X.A (call (.ref C) us (ks.zip ws)) (EP X pins σ Q) X.xe s := by
  have hq := h (s.heap.objs.size + 1) s.heap.objs.size (I.hok.fresh (Nat.le_succ _)) (I.hok.fresh (Nat.le_refl _)) (Nat.ne_of_lt (Nat.lt_succ_self _))
  have I2 := Inv.made (C := C) I
  have r1 : Vals (V.ref (s.heap.objs.size + 1) :: vs) (Value.ref (s.heap.objs.size + 1) :: us) := .cons rfl r
  have r2 := hb.rel r1 rz
  have e1 : (Value.ref (s.heap.objs.size + 1) :: us).length = n + 1 := r1.length.symm.trans (congrArg Nat.succ l1)
  have e2 : ws.length = ks.length := rz.length.symm.trans l2
  refine wpAny_call (make_map (f := f) I.kIn M.makes M.init (beq_iff_eq.mp M.fn) (codeAny_mono (F.run _ X.stack _ _ ⟨Value.ref (s.heap.objs.size + 1) :: us, ks.zip ws⟩ (g (Value.ref (s.heap.objs.size + 1) :: us) ws) _ _ (E σ) (hr.make C us (ks.zip ws))
    (I2.env0.make C us (ks.zip ws)) (hb.to _ (Value.ref (s.heap.objs.size + 1) :: us) ws I2.kIn e1 e2) r2 hq) fun r s' hq' => ?_))
  cases r with
  | error e => exact hx pins _ _ e s' I2 hq'
  | ok fl =>
    cases fl with
    | ret u =>
      obtain ⟨v, H', I3, rv, ev, q3⟩ := I2.after hq'
      subst ev
      exact ⟨rv, ⟨V.ref (s.heap.objs.size + 1), H', I3, rfl, q3⟩⟩
    | next => exact False.elim hq'
    | brk => exact False.elim hq'
    | cont => exact False.elim hq'
theorem pe_mkNS (M : Mk X.K C f) (F : FnOk X.prog X.w X.K X.mg X.base CX k f fd ps sp) (hr : Room (k + 1) X.A) (hg : Gl X x) (hm : X.mg x = some (.ref C)) (hb : KBn X.K fd ps (n + 1) ks g gV) (hx : ∀ σ, PassesAt CX X σ (E σ))
    (ha : PA X (e :: es) t) (hkw : PK X kws tk) (hall : (backToKw pos (keywordEach kws X.env)).all (·.1.isSome) = true := by rfl) (hks : (backToKw pos (keywordEach kws X.env)).filterMap (·.1) = ks := by rfl)
    (hdb : (x == ("__debug__" : Str)) = false := by decide) (he : starEach (e :: es) X.env = (false, eval e X.env) :: starEach es X.env := by rfl)
    (hpl : ((backTo pos (starEach (e :: es) X.env)).any (·.1) || (backToKw pos (keywordEach kws X.env)).any (·.1.isNone)) = false := by rfl) :
    PE X (.Call (.Name x p) (e :: es) kws pos) (tMkNS C n ks.length sp gV E t tk) := by
  refine ⟨fun pins s σ H Q I h => ?_⟩
  refine wpAny_Call_Name_kw (ld_glob I hg hm ?_ hdb)
  refine PySem.W.callWith_KW (h₀ := X.base) I.ok.mod.kin M.kp hall (thn (ha.run pos pins s σ H _ I h) fun us s1 ⟨vs, H1, I1, r, q⟩ => ?_) hpl he
  refine thn (hkw.run pos pins s1 σ H1 _ I1 q) fun ws s2 ⟨zs, H2, I2, rz, l1, l2, q2⟩ => ⟨I2.kIn, ?_⟩
  rw [hks]
  exact run_mkNS M F hr hb (hx σ) I2 r rz l1 l2 q2
def tCallNS (n m : Nat) (sp : Sp) (gV : List V → List V → List V) (E : L2.St → XK) (t tk : TA) : TE := fun σ H Q => t σ H fun vs H1 => tk σ H1 fun zs H2 => vs.length = n ∧ zs.length = m ∧ sp (gV vs zs) H2 Q (E σ)
end
section
variable {K : PySem.W.Frag} {σ : L2.St} {H : Hp} {Q : VK} {n bk ct : L2.St → Hp → Prop} {rt : VK} {C a dx : Addr} {fs : List (Str × V)} {f m : Str} {v x y : V} {ta tv : TE} {t tk : TA} {sp : Sp} {E : L2.St → XK} {dvs : List V}
theorem ps_fldK {X : Cx} {o value : Expr} {pos pos' : Pos} (hK : X.K = K) (ha : PE X o ta) (hv : PE X value tv) (hs : swapsWith value (some (.Attribute o f pos')) pos.line X.env = pure false) : PS X (.Assign [.Attribute o f pos'] value pos) (sFld K ta tv f) := by
  subst hK
  exact ps_fld ha hv hs
def rFld (K : PySem.W.Frag) (f : Str) : V → Hp → VK → Prop := fun x H Q => ∃ a C dx fs v, x = .ref a ∧ H a = some (.ins C dx fs) ∧ Cls K C ∧ NoAttr K C f ∧ fs.lookup f = some v ∧ Q v H
theorem i_fld (q : ta σ H fun x H1 => rFld K f x H1 Q) : tFld K ta f σ H Q := q
theorem i_fldI (h : H a = some (.ins C dx fs)) (c : Cls K C) (n : NoAttr K C f) (l : fs.lookup f = some v) (q : Q v H) : rFld K f (.ref a) H Q := ⟨a, C, dx, fs, v, rfl, h, c, n, l, q⟩
theorem i_sfld (q : tv σ H fun y H1 => ta σ H1 fun x H2 => ∃ a C dx fs, x = .ref a ∧ H2 a = some (.ins C dx fs) ∧ Cls K C ∧ NoAttr K C f ∧ fs.length < 1000 ∧ n σ (upd H2 a (.ins C dx (putF f y fs)))) : sFld K ta tv f ⟨n, rt, bk, ct⟩ σ H := q
theorem i_sfldI {fs' : List (Str × V)} {R : Hp → Prop} (h : H a = some (.ins C dx fs)) (c : Cls K C) (n : NoAttr K C f) (e : putF f y fs = fs') (l : fs.length < 1000) (q : R (upd H a (.ins C dx fs'))) :
    ∃ a' C dx fs, V.ref a = .ref a' ∧ H a' = some (.ins C dx fs) ∧ Cls K C ∧ NoAttr K C f ∧ fs.length < 1000 ∧ R (upd H a' (.ins C dx (putF f y fs))) := ⟨a, C, dx, fs, rfl, h, c, n, l, by rw [e]; exact q⟩
theorem i_meS (q : ta σ H fun x H1 => ∃ a dx fs, x = .ref a ∧ H1 a = some (.ins C dx fs) ∧ fs.lookup m = none ∧ t σ H1 fun vs H2 => sp (x :: (vs ++ dvs)) H2 Q (E σ)) : tMeS C m sp dvs E ta t σ H Q := q
theorem i_recv {R : Prop} (h : H a = some (.ins C dx fs)) (l : fs.lookup m = none) (q : R) : ∃ a' dx fs, V.ref a = .ref a' ∧ H a' = some (.ins C dx fs) ∧ fs.lookup m = none ∧ R := ⟨a, dx, fs, rfl, h, l, q⟩
theorem i_mkS (q : t σ H fun vs H1 => ∀ x dx, H1 x = none → H1 dx = none → dx ≠ x → sp (.ref x :: (vs ++ dvs)) (upd (upd H1 dx (.own x)) x (.ins C dx [])) (fun v H2 => v = .non ∧ Q (.ref x) H2) (E σ)) : tMkS C sp dvs E t σ H Q := q
theorem i_mkNS {k m : Nat} {gV : List V → List V → List V} (q : t σ H fun vs H1 => tk σ H1 fun zs H2 => vs.length = k ∧ zs.length = m ∧ ∀ x dx, H2 x = none → H2 dx = none → dx ≠ x → sp (gV (.ref x :: vs) zs) (upd (upd H2 dx (.own x)) x (.ins C dx [])) (fun v H3 => v = .non ∧ Q (.ref x) H3) (E σ)) :
    tMkNS C k m sp gV E t tk σ H Q := q
theorem i_callNS {k m : Nat} {gV : List V → List V → List V} (q : t σ H fun vs H1 => tk σ H1 fun zs H2 => vs.length = k ∧ zs.length = m ∧ sp (gV vs zs) H2 Q (E σ)) : tCallNS k m sp gV E t tk σ H Q := q
theorem i_callSD (q : t σ H fun vs H1 => sp (vs ++ dvs) H1 Q (E σ)) : tCallSD sp dvs E t σ H Q := q
theorem i_meth {E' : XK} (q : ta σ H fun x H1 => ∃ a dx fs, x = .ref a ∧ H1 a = some (.ins C dx fs) ∧ fs.lookup m = none ∧ t σ H1 fun vs H2 => sp (x :: (vs ++ dvs)) H2 Q E') : tMeth C m sp dvs E' ta t σ H Q := q
end
theorem pi_enumK {X : Cx} {K : PySem.W.Frag} {e : Expr} {ta : TA} {p pos tpos : Pos} {elts : List Expr} {kk : Nat} (hK : X.K = K) (hg : Gl X "enumerate") (hm : X.mg "enumerate" = none) (ha : PA X [e] ta) (hs : starEach [e] X.env = [(false, eval e X.env)] := by rfl) :
    PI X (.Tuple elts kk tpos) (.Call (.Name "enumerate" p) [e] [] pos) (iEnum K ta) := by
  subst hK
  exact pi_enum hg hm ha hs
theorem pi_zipK {X : Cx} {K : PySem.W.Frag} {e e2 : Expr} {ta : TA} {p pos tpos : Pos} {elts : List Expr} {kk : Nat} (hK : X.K = K) (hg : Gl X "zip") (hm : X.mg "zip" = none) (ha : PA X [e, e2] ta)
    (hs : starEach [e, e2] X.env = (false, eval e X.env) :: starEach [e2] X.env := by rfl) (hpl : (backTo pos (starEach [e2] X.env)).any (·.1) = false := by rfl) :
    PI X (.Tuple elts kk tpos) (.Call (.Name "zip" p) [e, e2] [] pos) (iZip K ta) := by
  subst hK
  exact pi_zip hg hm ha hs hpl
section
variable {σ : L2.St} {H : Hp} {K : PySem.W.Frag} {Q : VK} {n bk ct : L2.St → Hp → Prop} {rt : VK} {tb : TS} {g : TG} {tt : TT} {te : TE} {ta : TA} {vs : List Nat} {a b D : Addr}
theorem i_forE (q : ta σ H fun vs H1 => ∃ a xs, vs = [.ref a] ∧ SqL K H1 a xs ∧ LOOP (Ite K a) g tb ⟨n, rt, bk, ct⟩ σ H1) : tFor (iEnum K ta) g tb ⟨n, rt, bk, ct⟩ σ H := q
theorem i_forZ (q : ta σ H fun vs H1 => ∃ a b xs ys, vs = [.ref a, .ref b] ∧ SqL K H1 a xs ∧ SqL K H1 b ys ∧ LOOP (Itz K a b) g tb ⟨n, rt, bk, ct⟩ σ H1) : tFor (iZip K ta) g tb ⟨n, rt, bk, ct⟩ σ H := q
theorem i_lcE (q : ta σ H fun us H1 => ∃ a xs, us = [.ref a] ∧ SqL K H1 a xs ∧ ∀ D, H1 D = none → COMP (Ite K a) g tt te vs σ H1 D Q) : tLc (iEnum K ta) g tt te vs σ H Q := q
theorem i_lcZ (q : ta σ H fun us H1 => ∃ a b xs ys, us = [.ref a, .ref b] ∧ SqL K H1 a xs ∧ SqL K H1 b ys ∧ ∀ D, H1 D = none → COMP (Itz K a b) g tt te vs σ H1 D Q) : tLc (iZip K ta) g tt te vs σ H Q := q
/-- pairs of a list of pairs -/
def YL (L : List (V × V)) : Nat → Hp → V → Hp → Prop := fun i H v H' => ∃ T x y, v = .ref T ∧ H T = none ∧ H' = upd H T (.tup [x, y]) ∧ L[i]? = some (x, y)
theorem walk_zipL {xs ys : List V} : Walk (Itz K a b) (xs.zip ys).length (fun H => SqL K H a xs ∧ SqL K H b ys) (YL (xs.zip ys)) :=
  (walk_zip (n := (xs.zip ys).length) (by rw [List.length_zip])).mono (fun _ h => h) fun i H x H' hi _ y => by
    obtain ⟨T, x, y, h1, h2, h3, h4, h5⟩ := y
    exact ⟨T, x, y, h1, h2, h3, by rw [List.getElem?_zip_eq_some]; exact ⟨h4, h5⟩⟩
def enumL (xs : List V) : List (V × V) := ((List.range xs.length).map fun i : Nat => V.int (i : Int)).zip xs
theorem enumL_len {xs : List V} : (enumL xs).length = xs.length := by
  unfold enumL
  rw [List.length_zip, List.length_map, List.length_range, Nat.min_self]
theorem walk_enumL {xs : List V} : Walk (Ite K a) (enumL xs).length (fun H => SqL K H a xs) (YL (enumL xs)) := by
  rw [enumL_len]
  refine walk_enum.mono (fun _ h => h) fun i H x H' hi _ y => ?_
  obtain ⟨T, x, y, h1, h2, h3, h4, h5⟩ := y
  refine ⟨T, x, y, h1, h2, h3, ?_⟩
  unfold enumL
  rw [List.getElem?_zip_eq_some]
  refine ⟨?_, h5⟩
  rw [List.getElem?_map, List.getElem?_range hi]
  exact h4
theorem enumL_at {xs : List V} {i : Nat} {x y : V} (h : (enumL xs)[i]? = some (x, y)) : x = .int (i : Int) ∧ xs[i]? = some y := by
  unfold enumL at h
  rw [List.getElem?_zip_eq_some] at h
  obtain ⟨h1, h2⟩ := h
  refine ⟨?_, h2⟩
  rw [List.getElem?_map] at h1
  cases e : (List.range xs.length)[i]? with
  | none =>
    rw [e] at h1
    cases h1
  | some k =>
    rw [e] at h1
    obtain ⟨hk, e2⟩ := List.getElem?_eq_some_iff.mp e
    rw [List.getElem_range] at e2
    subst e2
    exact (Option.some.inj h1).symm
end
end SW
namespace SW
open PySem PySem.Spec PyProof.Rows L2
variable [QN]
inductive D where
  | int (i : Int) | bl (b : Bool) | str (x : Str) | non | ty (n : String) | adr (a : Addr)
  | tup (ds : List D) | lst (ds : List D)
  | dK (ks : List Key) (ds : List D) | dT (ks : List (List Key)) (ds : List D)
  | obj (C : Addr) (ns : List Str) (ds : List D)
  /-- an exception that was caught: where it stands, its class, its dict, its fields -/
  | exn (a C : Addr) (o : Option Addr) (ns : List Str) (ds : List D)
  /-- a tuple of texts and numbers that stands as such in the heap: a key -/
  | kt (k : List Key)
mutual
def R (K : PySem.W.Frag) (U : Hp) : D → V → Prop
  | .int i, v => v = .int i
  | .bl b, v => v = .bl b
  | .str x, v => v = .str x
  | .non, v => v = .non
  | .ty n, v => v = .ty n
  | .adr a, v => v = .ref a
  | .tup ds, v => ∃ a xs, v = .ref a ∧ SqT K U a xs ∧ Rs K U ds xs
  | .lst ds, v => ∃ a xs, v = .ref a ∧ U a = some (.lst xs) ∧ Rs K U ds xs
  | .dK ks ds, v => ∃ a xs, v = .ref a ∧ U a = some (.dK (ks.zip xs)) ∧ ks.length = xs.length ∧ Rs K U ds xs
  | .dT ks ds, v => ∃ a xs, v = .ref a ∧ U a = some (.dT (ks.zip xs)) ∧ ks.length = xs.length ∧ Rs K U ds xs
  | .obj C ns ds, v => ∃ a dx xs, v = .ref a ∧ U a = some (.ins C dx (ns.zip xs)) ∧ ns.length = xs.length ∧ Rs K U ds xs
  | .kt k, v => ∃ b, v = .ref b ∧ U b = some (.tup (k.map kV))
  | .exn a _ o ns ds, v => v = .ref a ∧ ((ns = [] ∧ o = none) ∨ ∃ d xs, o = some d ∧ U d = some (.xd (ns.zip xs)) ∧ ns.length = xs.length ∧ Rs K U ds xs)
def Rs (K : PySem.W.Frag) (U : Hp) : List D → List V → Prop
  | [], vs => vs = []
  | d :: ds, vs => ∃ v r, vs = v :: r ∧ R K U d v ∧ Rs K U ds r
end
section
variable {K : PySem.W.Frag} {U U' H H' : Hp}
theorem Same.tup {a : Addr} {xs : List V} (e : Same U U') (h : SqT K U a xs) : SqT K U' a xs := by
  rcases h with (h | ⟨o, h⟩) | h
  · exact .inl (.inl (e _ _ h))
  · exact .inl (.inr ⟨o, e _ _ h⟩)
  · exact .inr h
mutual
theorem R.mono (e : Same U U') : ∀ (d : D) (v : V), R K U d v → R K U' d v
  | .int _, _, h => h
  | .bl _, _, h => h
  | .str _, _, h => h
  | .non, _, h => h
  | .ty _, _, h => h
  | .adr _, _, h => h
  | .tup ds, _, ⟨a, xs, h1, h2, h3⟩ => ⟨a, xs, h1, Same.tup e h2, Rs.mono e ds xs h3⟩
  | .lst ds, _, ⟨a, xs, h1, h2, h3⟩ => ⟨a, xs, h1, e _ _ h2, Rs.mono e ds xs h3⟩
  | .dK _ ds, _, ⟨a, xs, h1, h2, h3, h4⟩ => ⟨a, xs, h1, e _ _ h2, h3, Rs.mono e ds xs h4⟩
  | .dT _ ds, _, ⟨a, xs, h1, h2, h3, h4⟩ => ⟨a, xs, h1, e _ _ h2, h3, Rs.mono e ds xs h4⟩
  | .obj _ _ ds, _, ⟨a, dx, xs, h1, h2, h3, h4⟩ => ⟨a, dx, xs, h1, e _ _ h2, h3, Rs.mono e ds xs h4⟩
  | .kt _, _, ⟨b, h1, h2⟩ => ⟨b, h1, e _ _ h2⟩
  | .exn _ _ _ _ ds, _, ⟨h1, h2⟩ => ⟨h1, h2.imp id fun ⟨d, xs, k1, k2, k3, k4⟩ => ⟨d, xs, k1, e _ _ k2, k3, Rs.mono e ds xs k4⟩⟩
theorem Rs.mono (e : Same U U') : ∀ (ds : List D) (vs : List V), Rs K U ds vs → Rs K U' ds vs
  | [], _, h => h
  | d :: ds, _, ⟨v, r, h1, h2, h3⟩ => ⟨v, r, h1, R.mono e d v h2, Rs.mono e ds r h3⟩
end
theorem Rs.len : ∀ {ds : List D} {vs : List V}, Rs K U ds vs → ds.length = vs.length
  | [], _, h => by rw [show _ = [] from h]; rfl
  | d :: ds, _, ⟨v, r, h1, h2, h3⟩ => by rw [h1, List.length_cons, List.length_cons, Rs.len h3]
theorem Rs.snoc : ∀ {ds : List D} {vs : List V} {d : D} {v : V}, Rs K U ds vs → R K U d v → Rs K U (ds ++ [d]) (vs ++ [v])
  | [], _, d, v, h, k => by
    rw [show _ = [] from h]
    exact ⟨v, [], rfl, k, rfl⟩
  | e :: ds, _, d, v, ⟨w, r, h1, h2, h3⟩, k => by
    subst h1
    exact ⟨w, r ++ [v], rfl, h2, Rs.snoc h3 k⟩
theorem Rs.app : ∀ {ds es : List D} {vs ws : List V}, Rs K U ds vs → Rs K U es ws → Rs K U (ds ++ es) (vs ++ ws)
  | [], es, _, ws, h, k => by
    rw [show _ = [] from h]
    exact k
  | d :: ds, es, _, ws, ⟨v, r, h1, h2, h3⟩, k => by
    subst h1
    exact ⟨v, r ++ ws, rfl, h2, Rs.app h3 k⟩
theorem Rs.at : ∀ {ds : List D} {vs : List V}, Rs K U ds vs → ∀ (i : Nat) (d : D), ds[i]? = some d → ∃ v, vs[i]? = some v ∧ R K U d v
  | [], _, h, i, d, e => by simp at e
  | c :: ds, _, ⟨v, r, h1, h2, h3⟩, 0, d, e => by
    subst h1
    have e' := Option.some.inj e
    subst e'
    exact ⟨v, rfl, h2⟩
  | c :: ds, _, ⟨v, r, h1, h2, h3⟩, i + 1, d, e => by
    subst h1
    exact Rs.at h3 i d e
theorem Rs.at' : ∀ {ds : List D} {vs : List V}, Rs K U ds vs → ∀ (i : Nat) (v : V), vs[i]? = some v → ∃ d, ds[i]? = some d ∧ R K U d v
  | [], _, h, i, d, e => by rw [show _ = [] from h] at e; simp at e
  | c :: ds, _, ⟨v, r, h1, h2, h3⟩, 0, d, e => by
    subst h1
    have e' := Option.some.inj e
    subst e'
    exact ⟨c, rfl, h2⟩
  | c :: ds, _, ⟨v, r, h1, h2, h3⟩, i + 1, d, e => by
    subst h1
    exact Rs.at' h3 i d e
theorem Rs.take : ∀ {ds : List D} {vs : List V} (n : Nat), Rs K U ds vs → Rs K U (ds.take n) (vs.take n)
  | _, _, 0, _ => rfl
  | [], _, n + 1, h => by rw [show _ = [] from h]; rfl
  | c :: ds, _, n + 1, ⟨v, r, h1, h2, h3⟩ => by
    subst h1
    exact ⟨v, r.take n, rfl, h2, Rs.take n h3⟩
theorem Rs.drop : ∀ {ds : List D} {vs : List V} (n : Nat), Rs K U ds vs → Rs K U (ds.drop n) (vs.drop n)
  | _, _, 0, h => h
  | [], _, n + 1, h => by rw [show _ = [] from h]; rfl
  | c :: ds, _, n + 1, ⟨v, r, h1, h2, h3⟩ => by
    subst h1
    exact Rs.drop n h3
theorem Rs.set : ∀ {ds : List D} {vs : List V} {d : D} {v : V} (n : Nat), Rs K U ds vs → R K U d v → Rs K U (ds.set n d) (vs.set n v)
  | [], _, d, v, n, h, k => by rw [show _ = [] from h]; rfl
  | c :: ds, _, d, v, 0, ⟨w, r, h1, h2, h3⟩, k => by
    subst h1
    exact ⟨v, r, rfl, k, h3⟩
  | c :: ds, _, d, v, n + 1, ⟨w, r, h1, h2, h3⟩, k => by
    subst h1
    exact ⟨w, r.set n v, rfl, h2, Rs.set n h3 k⟩
theorem Rs.ints : ∀ {ns : List Int} {vs : List V}, Rs K U (ns.map D.int) vs → vs = ns.map V.int
  | [], _, h => h
  | n :: ns, _, ⟨v, r, h1, h2, h3⟩ => by
    rw [h1, Rs.ints h3, show v = V.int n from h2]
    rfl
theorem Rs.bls : ∀ {ns : List Bool} {vs : List V}, Rs K U (ns.map D.bl) vs → vs = ns.map V.bl
  | [], _, h => h
  | n :: ns, _, ⟨v, r, h1, h2, h3⟩ => by
    rw [h1, Rs.bls h3, show v = V.bl n from h2]
    rfl
end
inductive AV where
  | fz (d : D) | ol (ds : List D) | ok (ks : List Key) (ds : List D) | ot (ks : List (List Key)) (ds : List D) | dr
  /-- a list of things of one's own; an instance with such fields -/
  | on (ws : List V) (as : List AV) | ob (C dx : Addr) (ns : List Str) (ws : List V) (as : List AV)
  /-- a tuple of such things; what is not told -/
  | ut (ws : List V) (as : List AV) | un
abbrev Env := List (Option AV)
def AV.kind : AV → Nat
  | .fz _ => 0
  | .ol _ => 1
  | .ok _ _ => 2
  | .ot _ _ => 3
  | .dr => 4
  | .on _ _ => 5
  | .ob _ _ _ _ _ => 6
  | .ut _ _ => 7
  | .un => 8
def AV.isOwn : AV → Bool
  | .fz _ => false
  | _ => true
/-- what is seen of a thing within another -/
def seen : AV → V → D
  | .fz d, _ => d
  | _, .ref p => .adr p
  | _, _ => .non
def seens : List AV → List V → List D
  | a :: as, v :: vs => seen a v :: seens as vs
  | _, _ => []
/-- what is read of it, its items never changing -/
def AV.sh : AV → Option D
  | .fz d => some d
  | .ol ds => some (.lst ds)
  | .ok ks ds => some (.dK ks ds)
  | .ot ks ds => some (.dT ks ds)
  | .on ws as => some (.lst (seens as ws))
  | .ut ws as => some (.tup (seens as ws))
  | .ob C _ ns ws as => some (.obj C ns (seens as ws))
  | _ => none
mutual
def AV.frz : AV → Option D
  | .fz d => some d
  | .ol ds => some (.lst ds)
  | .ok ks ds => some (.dK ks ds)
  | .ot ks ds => some (.dT ks ds)
  | .dr => none
  | .on _ as => (frzs as).map .lst
  | .ob C _ ns _ as => (frzs as).map (.obj C ns)
  | .ut _ as => (frzs as).map .tup
  | .un => none
def frzs : List AV → Option (List D)
  | [] => some []
  | a :: as => match a.frz, frzs as with
    | some d, some ds => some (d :: ds)
    | _, _ => none
end
mutual
def RepA (K : PySem.W.Frag) (U H : Hp) : AV → V → Prop
  | .fz d, v => R K U d v
  | .ol ds, v => ∃ p xs, v = .ref p ∧ H p = some (.lst xs) ∧ Rs K U ds xs
  | .ok ks ds, v => ∃ p xs, v = .ref p ∧ H p = some (.dK (ks.zip xs)) ∧ ks.length = xs.length ∧ Rs K U ds xs
  | .ot ks ds, v => ∃ p xs, v = .ref p ∧ H p = some (.dT (ks.zip xs)) ∧ ks.length = xs.length ∧ Rs K U ds xs
  | .dr, v => ∃ s, v = .ref s ∧ Dr U H s
  | .on ws as, v => ∃ p, v = .ref p ∧ H p = some (.lst ws) ∧ RepAs K U H as ws
  | .ob C dx ns ws as, v => ∃ p, v = .ref p ∧ H p = some (.ins C dx (ns.zip ws)) ∧ ns.length = ws.length ∧ RepAs K U H as ws
  | .ut ws as, v => ∃ p, v = .ref p ∧ SqT K U p ws ∧ RepAs K U H as ws
  | .un, v => ∃ p, v = .ref p
def RepAs (K : PySem.W.Frag) (U H : Hp) : List AV → List V → Prop
  | [], vs => vs = []
  | a :: as, vs => ∃ v r, vs = v :: r ∧ RepA K U H a v ∧ RepAs K U H as r
end
mutual
def own : AV → V → List Addr
  | .ol _, .ref p => [p]
  | .ok _ _, .ref p => [p]
  | .ot _ _, .ref p => [p]
  | .dr, .ref p => [p]
  | .on ws as, .ref p => p :: ownAs as ws
  | .ob _ _ _ ws as, .ref p => p :: ownAs as ws
  | .ut ws as, .ref p => ownAs as ws
  | _, _ => []
def ownAs : List AV → List V → List Addr
  | a :: as, v :: vs => own a v ++ ownAs as vs
  | _, _ => []
end
theorem seen_r {K : PySem.W.Frag} {U H : Hp} {a : AV} {v : V} (h : RepA K U H a v) : R K U (seen a v) v := by
  cases a with
  | fz d => exact h
  | ol ds => obtain ⟨p, xs, rfl, _⟩ := h; exact rfl
  | ok ks ds => obtain ⟨p, xs, rfl, _⟩ := h; exact rfl
  | ot ks ds => obtain ⟨p, xs, rfl, _⟩ := h; exact rfl
  | dr => obtain ⟨p, rfl, _⟩ := h; exact rfl
  | on ws as => obtain ⟨p, rfl, _⟩ := h; exact rfl
  | ob C dx ns ws as => obtain ⟨p, rfl, _⟩ := h; exact rfl
  | ut ws as => obtain ⟨p, rfl, _⟩ := h; exact rfl
  | un => obtain ⟨p, rfl⟩ := h; exact rfl
theorem seens_r {K : PySem.W.Frag} {U H : Hp} : ∀ {as : List AV} {vs : List V}, RepAs K U H as vs → Rs K U (seens as vs) vs
  | [], _, h => by
    rw [show _ = [] from h]
    exact rfl
  | a :: as, _, ⟨v, r, e, h1, h2⟩ => by
    subst e
    exact ⟨v, r, rfl, seen_r h1, seens_r h2⟩
def RepS (K : PySem.W.Frag) (U H : Hp) : Option AV → Option V → Prop
  | none, _ => True
  | some av, some v => RepA K U H av v
  | some _, none => False
def ownS : Option AV → Option V → List Addr
  | some av, some v => own av v
  | _, _ => []
def owns : Env → L2.St → List Addr
  | a :: ρ, v :: σ => ownS a v ++ owns ρ σ
  | _, _ => []
section
variable {K : PySem.W.Frag} {U H U' H' : Hp}
mutual
theorem own_pl : ∀ (av : AV) (v : V), RepA K U H av v → ∀ p ∈ own av v, Pl H p
  | .fz _, v, _, p, hp => by cases hp
  | .ol _, _, ⟨q, xs, e, h, _⟩, p, hp => by
    subst e
    rw [List.mem_singleton.mp hp]
    exact .of h rfl
  | .ok _ _, _, ⟨q, xs, e, h, _⟩, p, hp => by
    subst e
    rw [List.mem_singleton.mp hp]
    exact .of h rfl
  | .ot _ _, _, ⟨q, xs, e, h, _⟩, p, hp => by
    subst e
    rw [List.mem_singleton.mp hp]
    exact .of h rfl
  | .dr, _, ⟨q, e, h⟩, p, hp => by
    subst e
    rw [List.mem_singleton.mp hp]
    exact h.pl
  | .on ws as, _, ⟨q, e, h, k⟩, p, hp => by
    subst e
    rcases List.mem_cons.mp hp with z | z
    · rw [z]
      exact .of h rfl
    · exact ownAs_pl as ws k p z
  | .ob _ _ _ ws as, _, ⟨q, e, h, _, k⟩, p, hp => by
    subst e
    rcases List.mem_cons.mp hp with z | z
    · rw [z]
      exact .of h rfl
    · exact ownAs_pl as ws k p z
  | .ut ws as, _, ⟨q, e, h, k⟩, p, hp => by
    subst e
    exact ownAs_pl as ws k p hp
  | .un, v, _, p, hp => by cases hp
theorem ownAs_pl : ∀ (as : List AV) (vs : List V), RepAs K U H as vs → ∀ p ∈ ownAs as vs, Pl H p
  | [], vs, _, p, hp => by cases vs <;> cases hp
  | a :: as, _, ⟨v, r, e, h1, h2⟩, p, hp => by
    subst e
    rcases List.mem_append.mp hp with z | z
    · exact own_pl a v h1 p z
    · exact ownAs_pl as r h2 p z
end
theorem own_some (av : AV) (v : V) (h : RepA K U H av v) (p : Addr) (hp : p ∈ own av v) : H p ≠ none := (own_pl av v h p hp).ne
mutual
/-- what is one's own stands on where its own places stand as they did -/
theorem RepA.keep (s : Same U U') : ∀ (av : AV) (v : V), (∀ p ∈ own av v, H' p = H p ∧ U' p = none) → RepA K U H av v → RepA K U' H' av v
  | .fz d, v, _, h => R.mono s d v h
  | .ol ds, _, n, ⟨q, xs, e, h, r⟩ => by
    subst e
    exact ⟨q, xs, rfl, (n q (List.mem_singleton.mpr rfl)).1.trans h, Rs.mono s _ _ r⟩
  | .ok ks ds, _, n, ⟨q, xs, e, h, l, r⟩ => by
    subst e
    exact ⟨q, xs, rfl, (n q (List.mem_singleton.mpr rfl)).1.trans h, l, Rs.mono s _ _ r⟩
  | .ot ks ds, _, n, ⟨q, xs, e, h, l, r⟩ => by
    subst e
    exact ⟨q, xs, rfl, (n q (List.mem_singleton.mpr rfl)).1.trans h, l, Rs.mono s _ _ r⟩
  | .dr, _, n, ⟨q, e, h⟩ => by
    subst e
    exact ⟨q, rfl, h.mono s (n q (List.mem_singleton.mpr rfl)).1 (n q (List.mem_singleton.mpr rfl)).2⟩
  | .on ws as, _, n, ⟨q, e, h, k⟩ => by
    subst e
    exact ⟨q, rfl, (n q List.mem_cons_self).1.trans h, RepAs.keep s as ws (fun p hp => n p (List.mem_cons_of_mem _ hp)) k⟩
  | .ob C dx ns ws as, _, n, ⟨q, e, h, l, k⟩ => by
    subst e
    exact ⟨q, rfl, (n q List.mem_cons_self).1.trans h, l, RepAs.keep s as ws (fun p hp => n p (List.mem_cons_of_mem _ hp)) k⟩
  | .ut ws as, _, n, ⟨q, e, h, k⟩ => by
    subst e
    exact ⟨q, rfl, Same.tup s h, RepAs.keep s as ws n k⟩
  | .un, _, _, h => h
theorem RepAs.keep (s : Same U U') : ∀ (as : List AV) (vs : List V), (∀ p ∈ ownAs as vs, H' p = H p ∧ U' p = none) → RepAs K U H as vs → RepAs K U' H' as vs
  | [], _, _, h => h
  | a :: as, _, n, ⟨v, r, e, h1, h2⟩ => by
    subst e
    exact ⟨v, r, rfl, RepA.keep s a v (fun p hp => n p (List.mem_append_left _ hp)) h1, RepAs.keep s as r (fun p hp => n p (List.mem_append_right _ hp)) h2⟩
end
theorem RepAs.len : ∀ {as : List AV} {vs : List V}, RepAs K U H as vs → as.length = vs.length
  | [], _, h => by rw [show _ = [] from h]; rfl
  | a :: as, _, ⟨v, r, e, _, h2⟩ => by rw [e, List.length_cons, List.length_cons, RepAs.len h2]
theorem RepAs.paired : ∀ {as : List AV} {vs : List V}, RepAs K U H as vs → Paired (RepA K U H) as vs
  | [], _, h => by rw [show _ = [] from h]; exact .nil
  | a :: as, _, ⟨v, r, e, h1, h2⟩ => by rw [e]; exact .cons h1 (RepAs.paired h2)
theorem RepAs.of : ∀ {as : List AV} {vs : List V}, Paired (RepA K U H) as vs → RepAs K U H as vs
  | _, _, .nil => rfl
  | _, _, .cons h t => ⟨_, _, rfl, h, RepAs.of t⟩
end
structure Exn where
  C : Addr
  ns : List Str
  ds : List D
def XRep (K : PySem.W.Frag) (U H : Hp) (x : Exn) (cls : Value) (o : Option Addr) : Prop :=
  cls = .ref x.C ∧ ((x.ns = [] ∧ o = none) ∨ ∃ d xs, o = some d ∧ U d = some (.xd (x.ns.zip xs)) ∧ x.ns.length = xs.length ∧ Rs K U x.ds xs)
/-- the marked ones of a row -/
def selM {α : Type} : List Bool → List α → List α
  | true :: ks, a :: r => a :: selM ks r
  | false :: ks, _ :: r => selM ks r
  | _, _ => []
/-- each one's places are those it had, or new -/
def PerO (H0 : Hp) : List AV → List V → List (List Addr) → Prop
  | a :: as, v :: vs, o :: os => (∀ p ∈ own a v, p ∈ o ∨ H0 p = none) ∧ PerO H0 as vs os
  | [], [], _ => True
  | _, _, _ => False
structure DC where
  K : PySem.W.Frag
  /-- which parameters are one's own (the law's draws among them), their kinds, their values -/
  ks : List Bool
  pk : List Nat
  pv : List V
  /-- the places that were each slot's own at the beginning -/
  O : List (List Addr)
  M : List Addr
  U0 : Hp
  H0 : Hp
  X : Exn → List (Option AV) → Prop
  /-- what is wished of an exception that leaves, at the slots as they stand -/
  E : L2.St → XK
  /-- the tables of codes that stand, and their codes' names -/
  tb : List Addr
/-- the tables stand; the view has none -/
def TbOk (tb : List Addr) (U H : Hp) : Prop := (∀ p ∈ tb, LamX.TabS H p (QN.qn p)) ∧ NT U
theorem TbOk.gr {tb : List Addr} {M : List Addr} {U H U' H' : Hp} (h : TbOk tb U H) (g : Gr M U H U' H') : TbOk tb U' H' := ⟨fun p hp => g.tb _ (h.1 p hp), g.nt h.2⟩
/-- what the marked parameters hold -/
structure ParRep (c : DC) (U H : Hp) (as : List (Option AV)) : Prop where
  ex : ∃ avs : List AV, as = avs.map some ∧ RepAs c.K U H avs c.pv ∧ avs.map AV.kind = c.pk ∧ (ownAs avs c.pv).Nodup ∧ (∀ p ∈ ownAs avs c.pv, U p = none) ∧ PerO c.H0 avs c.pv (selM c.ks c.O)
structure DC.Ok (c : DC) : Prop where
  x : ∀ U H σ as x cls o, selM c.ks σ = c.pv.map some → σ.length = c.O.length → Gr c.M c.U0 c.H0 U H → ParRep c U H as → XRep c.K U H x cls o → c.X x as → c.E σ cls o H
  tb : TbOk c.tb c.U0 c.H0
def DC.x (c : DC) (ρ : Env) : Exn → Prop := fun x => c.X x (selM c.ks ρ)
def noPar (c : DC) (i : Nat) : Bool := !(c.ks.getD i false)
theorem sel_set {α : Type} : ∀ (ks : List Bool) (r : List α) (i : Nat) (x : α), ks.getD i false = false → selM ks (r.set i x) = selM ks r
  | [], r, i, x, _ => by cases r <;> cases i <;> rfl
  | k :: ks, [], i, x, _ => rfl
  | true :: ks, a :: r, 0, x, h => by cases h
  | false :: ks, a :: r, 0, x, h => rfl
  | true :: ks, a :: r, i + 1, x, h => congrArg (a :: ·) (sel_set ks r i x h)
  | false :: ks, a :: r, i + 1, x, h => sel_set ks r i x h
structure DI (c : DC) (U H : Hp) (σ : L2.St) (ρ : Env) : Prop where
  gr : Gr c.M c.U0 c.H0 U H
  rep : Paired (RepS c.K U H) ρ σ
  nd : (owns ρ σ).Nodup
  out : ∀ p ∈ owns ρ σ, U p = none ∧ (p ∈ c.M ∨ c.H0 p = none)
  par : selM c.ks σ = c.pv.map some ∧ ∃ avs : List AV, selM c.ks ρ = avs.map some ∧ avs.map AV.kind = c.pk
  ko : c.Ok
  ow : ∀ (i : Nat) (av : AV) (v : V), ρ[i]? = some (some av) → σ[i]? = some (some v) → ∀ p ∈ own av v, p ∈ c.O.getD i [] ∨ c.H0 p = none
  on : c.O.length = σ.length ∧ ∀ i, noPar c i = true → c.O.getD i [] = []
section
variable {K : PySem.W.Frag} {c : DC} {U H U' H' : Hp} {σ : L2.St} {ρ : Env}
theorem DI.vh (h : DI c U H σ ρ) : Same U H := h.gr.vh
theorem DI.nw (h : DI c U H σ ρ) (i : Nat) (av : AV) (v : V) (hi : noPar c i = true) (e1 : ρ[i]? = some (some av)) (e2 : σ[i]? = some (some v)) : ∀ p ∈ own av v, c.H0 p = none := fun p hp => by
  rcases h.ow i av v e1 e2 p hp with z | z
  · rw [h.on.2 i hi] at z
    cases z
  · exact z
theorem noPar_of {i : Nat} (h : noPar c i = true) : c.ks.getD i false = false := by
  unfold noPar at h
  rwa [Bool.not_eq_true'] at h
theorem DC.x_set {i : Nat} {a : Option AV} (h : noPar c i = true) : c.x (ρ.set i a) = c.x ρ := by
  unfold DC.x
  rw [sel_set _ _ _ _ (noPar_of h)]
theorem owns_pl : ∀ {ρ : Env} {σ : L2.St}, Paired (RepS K U H) ρ σ → ∀ p ∈ owns ρ σ, Pl H p
  | _, _, .nil, p, hp => by cases hp
  | _, _, .cons (a := a) (b := b) h t, p, hp => by
    rcases List.mem_append.mp hp with hp | hp
    · cases a with
      | none => cases hp
      | some av =>
        cases b with
        | none => cases hp
        | some v => exact own_pl av v h p hp
    · exact owns_pl t p hp
theorem owns_some {ρ : Env} {σ : L2.St} (h : Paired (RepS K U H) ρ σ) (p : Addr) (hp : p ∈ owns ρ σ) : H p ≠ none := (owns_pl h p hp).ne
theorem DI.pl (h : DI c U H σ ρ) : ∀ p ∈ owns ρ σ, Pl H p := owns_pl h.rep
theorem DI.ex (h : DI c U H σ ρ) : ∀ p ∈ owns ρ σ, H p ≠ none := owns_some h.rep
theorem DI.tbs (h : DI c U H σ ρ) : TbOk c.tb U H := h.ko.tb.gr h.gr
theorem DI.ne (h : DI c U H σ ρ) {q : Addr} (n : H q = none) : ∀ p ∈ owns ρ σ, p ≠ q := fun p hp z => by
  subst z
  exact h.ex p hp n
theorem keep_at {M : List Addr} (g : Gr M U H U' H') {p : Addr} (n : Pl H p) (m : p ∉ M) : H' p = H p := g.at m n
theorem RepA.gr {av : AV} {v : V} (g : Gr [] U H U' H') (nu : ∀ p ∈ own av v, U p = none) (h : RepA K U H av v) : RepA K U' H' av v :=
  RepA.keep g.vv av v (fun p hp => ⟨keep_at g (own_pl av v h p hp) (by simp), g.fr p (nu p hp) (own_some av v h p hp)⟩) h
/-- the slots' things stand on where their own places do -/
theorem reps_keep (s : Same U U') : ∀ {ρ : Env} {σ : L2.St}, (∀ p ∈ owns ρ σ, H' p = H p ∧ U' p = none) → Paired (RepS K U H) ρ σ → Paired (RepS K U' H') ρ σ
  | _, _, _, .nil => .nil
  | x :: _, y :: _, n, .cons h t => by
    refine .cons ?_ (reps_keep s (fun p hp => n p (List.mem_append_right _ hp)) t)
    cases x with
    | none => trivial
    | some av =>
      cases y with
      | none => exact h.elim
      | some v => exact RepA.keep s av v (fun p hp => n p (List.mem_append_left _ hp)) h
theorem DI.grow (h : DI c U H σ ρ) (g : Gr [] U H U' H') : DI c U' H' σ ρ :=
  have u : ∀ p ∈ owns ρ σ, U' p = none := fun p hp => g.fr p (h.out p hp).1 (h.ex p hp)
  ⟨h.gr.trans g.any, reps_keep g.vv (fun p hp => ⟨keep_at g (h.pl p hp) (by simp), u p hp⟩) h.rep, h.nd, fun p hp => ⟨u p hp, (h.out p hp).2⟩, h.par, h.ko, h.ow, h.on⟩
theorem rep_at : ∀ {ρ : Env} {σ : L2.St}, Paired (RepS K U H) ρ σ → ∀ (i : Nat) (av : AV), ρ[i]? = some (some av) → ∃ v, σ[i]? = some (some v) ∧ RepA K U H av v ∧ ∀ p ∈ own av v, p ∈ owns ρ σ
  | _, _, .nil, i, av, e => by simp at e
  | _, _, .cons (a := a) (b := b) h t, 0, av, e => by
    have e' := Option.some.inj e
    subst e'
    cases b with
    | none => exact h.elim
    | some v => exact ⟨v, rfl, h, fun p hp => List.mem_append_left _ hp⟩
  | _, _, .cons (a := a) (b := b) h t, i + 1, av, e => by
    obtain ⟨v, h1, h2, h3⟩ := rep_at t i av e
    exact ⟨v, h1, h2, fun p hp => List.mem_append_right _ (h3 p hp)⟩
theorem mem_owns : ∀ {ρ : Env} {σ : L2.St} {i : Nat} {av : AV} {v : V}, ρ[i]? = some (some av) → σ[i]? = some (some v) → ∀ p ∈ own av v, p ∈ owns ρ σ
  | [], _, i, av, v, h, k, p, hp => by simp at h
  | _ :: _, [], i, av, v, h, k, p, hp => by simp at k
  | x :: ρ, y :: σ, 0, av, v, h, k, p, hp => by
    have h' := Option.some.inj h
    have k' := Option.some.inj k
    subst h' k'
    exact List.mem_append_left _ hp
  | x :: ρ, y :: σ, i + 1, av, v, h, k, p, hp => List.mem_append_right _ (mem_owns (ρ := ρ) (σ := σ) h k p hp)
theorem owns_set_sub : ∀ (ρ : Env) (σ : L2.St) (i : Nat) (a : Option AV) (v : Option V), ownS a v = [] → (owns (ρ.set i a) (σ.set i v)).Sublist (owns ρ σ)
  | [], _, _, _, _, _ => by simp [owns]
  | _ :: _, [], i, a, v, _ => by cases i <;> simp [owns]
  | b :: ρ, w :: σ, 0, a, v, h => by
    show (ownS a v ++ owns ρ σ).Sublist (ownS b w ++ owns ρ σ)
    rw [h]
    exact List.sublist_append_right _ _
  | b :: ρ, w :: σ, i + 1, a, v, h => by
    show (ownS b w ++ owns (ρ.set i a) (σ.set i v)).Sublist (ownS b w ++ owns ρ σ)
    exact List.Sublist.append_left (owns_set_sub ρ σ i a v h) _
theorem owns_set_mem : ∀ (ρ : Env) (σ : L2.St) (i : Nat) (a : Option AV) (v : Option V), ∀ p ∈ owns (ρ.set i a) (σ.set i v), p ∈ owns ρ σ ∨ p ∈ ownS a v
  | [], _, _, _, _, p, hp => by simp [owns] at hp
  | _ :: _, [], i, a, v, p, hp => by cases i <;> simp [owns] at hp
  | b :: ρ, w :: σ, 0, a, v, p, hp => by
    rcases List.mem_append.mp hp with h | h
    · exact .inr h
    · exact .inl (List.mem_append_right _ h)
  | b :: ρ, w :: σ, i + 1, a, v, p, hp => by
    rcases List.mem_append.mp hp with h | h
    · exact .inl (List.mem_append_left _ h)
    · exact (owns_set_mem ρ σ i a v p h).imp (List.mem_append_right _) id
theorem owns_set_nd : ∀ (ρ : Env) (σ : L2.St) (i : Nat) (a : Option AV) (v : Option V), (owns ρ σ).Nodup → (ownS a v).Nodup → (∀ p ∈ ownS a v, p ∉ owns ρ σ) → (owns (ρ.set i a) (σ.set i v)).Nodup
  | [], _, _, _, _, _, _, _ => by simp [owns]
  | _ :: _, [], i, a, v, _, _, _ => by cases i <;> simp [owns]
  | b :: ρ, w :: σ, 0, a, v, h, k, n => by
    show (ownS a v ++ owns ρ σ).Nodup
    refine List.nodup_append.mpr ⟨k, (List.nodup_append.mp h).2.1, fun x hx y hy z => ?_⟩
    subst z
    exact n x hx (List.mem_append_right _ hy)
  | b :: ρ, w :: σ, i + 1, a, v, h, k, n => by
    show (ownS b w ++ owns (ρ.set i a) (σ.set i v)).Nodup
    obtain ⟨h1, h2, h3⟩ := List.nodup_append.mp h
    refine List.nodup_append.mpr ⟨h1, owns_set_nd ρ σ i a v h2 k fun p hp q => n p hp (List.mem_append_right _ q), fun x hx y hy z => ?_⟩
    subst z
    rcases owns_set_mem ρ σ i a v x hy with q | q
    · exact h3 x hx x q rfl
    · exact n x q (List.mem_append_left _ hx)
/-- what the marked parameters hold -/
theorem sel_owns : ∀ (ks : List Bool) (ρ : Env) (σ : L2.St) (avs : List AV) (vs : List V), Paired (RepS K U H) ρ σ → selM ks ρ = avs.map some → selM ks σ = vs.map some → RepAs K U H avs vs ∧ (ownAs avs vs).Sublist (owns ρ σ)
  | [], ρ, σ, avs, vs, _, e1, e2 => by
    have a1 : avs = [] := by cases avs with
      | nil => rfl
      | cons a as => cases ρ <;> cases e1
    have a2 : vs = [] := by cases vs with
      | nil => rfl
      | cons a as => cases σ <;> cases e2
    subst a1 a2
    exact ⟨rfl, List.nil_sublist _⟩
  | k :: ks, _, _, avs, vs, .nil, e1, e2 => by
    have a1 : avs = [] := by cases avs with
      | nil => rfl
      | cons a as => cases k <;> cases e1
    have a2 : vs = [] := by cases vs with
      | nil => rfl
      | cons a as => cases k <;> cases e2
    subst a1 a2
    exact ⟨rfl, List.nil_sublist _⟩
  | true :: ks, x :: ρ, y :: σ, avs, vs, .cons h t, e1, e2 => by
    cases avs with
    | nil => cases e1
    | cons a avs =>
      cases vs with
      | nil => cases e2
      | cons v vs =>
        have f1 := List.cons.inj e1
        have f2 := List.cons.inj e2
        obtain ⟨g1, g2⟩ := f1
        obtain ⟨g3, g4⟩ := f2
        subst g1 g3
        obtain ⟨k1, k2⟩ := sel_owns ks ρ σ avs vs t g2 g4
        exact ⟨⟨v, vs, rfl, h, k1⟩, List.Sublist.append_left k2 _⟩
  | false :: ks, x :: ρ, y :: σ, avs, vs, .cons h t, e1, e2 => by
    obtain ⟨k1, k2⟩ := sel_owns ks ρ σ avs vs t e1 e2
    exact ⟨k1, k2.trans (List.sublist_append_right _ _)⟩
theorem sel_per {H0 : Hp} : ∀ (ks : List Bool) (ρ : Env) (σ : L2.St) (O : List (List Addr)) (avs : List AV) (vs : List V), ρ.length = σ.length → O.length = σ.length → (∀ (i : Nat) (av : AV) (v : V), ρ[i]? = some (some av) → σ[i]? = some (some v) → ∀ p ∈ own av v, p ∈ O.getD i [] ∨ H0 p = none) → selM ks ρ = avs.map some → selM ks σ = vs.map some → PerO H0 avs vs (selM ks O)
  | [], ρ, σ, O, avs, vs, _, _, _, e1, e2 => by
    have a1 : avs = [] := by cases avs with
      | nil => rfl
      | cons a as => cases ρ <;> cases e1
    have a2 : vs = [] := by cases vs with
      | nil => rfl
      | cons a as => cases σ <;> cases e2
    subst a1 a2
    exact trivial
  | k :: ks, [], [], O, avs, vs, _, _, _, e1, e2 => by
    have a1 : avs = [] := by cases avs with
      | nil => rfl
      | cons a as => cases k <;> cases e1
    have a2 : vs = [] := by cases vs with
      | nil => rfl
      | cons a as => cases k <;> cases e2
    subst a1 a2
    exact trivial
  | true :: ks, x :: ρ, y :: σ, [], avs, vs, _, lo, _, e1, e2 => by cases lo
  | false :: ks, x :: ρ, y :: σ, [], avs, vs, _, lo, _, e1, e2 => by cases lo
  | true :: ks, x :: ρ, y :: σ, o :: O, avs, vs, l1, lo, h, e1, e2 => by
    cases avs with
    | nil => cases e1
    | cons a avs =>
      cases vs with
      | nil => cases e2
      | cons v vs =>
        obtain ⟨g1, g2⟩ := List.cons.inj e1
        obtain ⟨g3, g4⟩ := List.cons.inj e2
        subst g1 g3
        exact ⟨fun p hp => h 0 a v rfl rfl p hp, sel_per ks ρ σ O avs vs (Nat.succ.inj l1) (Nat.succ.inj lo) (fun i av w f1 f2 => h (i + 1) av w f1 f2) g2 g4⟩
  | false :: ks, x :: ρ, y :: σ, o :: O, avs, vs, l1, lo, h, e1, e2 => sel_per ks ρ σ O avs vs (Nat.succ.inj l1) (Nat.succ.inj lo) (fun i av w f1 f2 => h (i + 1) av w f1 f2) e1 e2
theorem DI.pars (h : DI c U H σ ρ) : ParRep c U H (selM c.ks ρ) := by
  obtain ⟨e1, avs, e2, e3⟩ := h.par
  obtain ⟨k1, k2⟩ := sel_owns c.ks ρ σ avs c.pv h.rep e2 e1
  exact ⟨avs, e2, k1, e3, k2.nodup h.nd, fun p hp => (h.out p (k2.mem hp)).1, sel_per c.ks ρ σ c.O avs c.pv h.rep.length h.on.1 h.ow e2 e1⟩
theorem DI.raise {x : Exn} {cls : Value} {o : Option Addr} (h : DI c U H σ ρ) (xr : XRep c.K U H x cls o) (z : c.x ρ x) : c.E σ cls o H := h.ko.x U H σ _ x cls o h.par.1 h.on.1.symm h.gr h.pars xr z
theorem par_set {ρ' : Env} {σ' : L2.St} (e1 : selM c.ks σ' = selM c.ks σ) (e2 : selM c.ks ρ' = selM c.ks ρ) (h : selM c.ks σ = c.pv.map some ∧ ∃ avs : List AV, selM c.ks ρ = avs.map some ∧ avs.map AV.kind = c.pk) :
    selM c.ks σ' = c.pv.map some ∧ ∃ avs : List AV, selM c.ks ρ' = avs.map some ∧ avs.map AV.kind = c.pk := by rw [e1, e2]; exact h
/-- a slot is written: with what never changes -/
theorem DI.setF (h : DI c U H σ ρ) {i : Nat} {d : D} {v : V} (r : R c.K U d v) (hi : noPar c i = true) : DI c U H (σ.set i (some v)) (ρ.set i (some (.fz d))) := by
  have hn := noPar_of hi
  refine ⟨h.gr, Paired.setAt (F := RepS c.K U H) (show RepS c.K U H (some (.fz d)) (some v) from r) i h.rep, (owns_set_sub ρ σ i _ _ rfl).nodup h.nd, fun p hp => h.out p ((owns_set_sub ρ σ i _ _ rfl).mem hp), par_set (sel_set _ _ _ _ hn) (sel_set _ _ _ _ hn) h.par, h.ko, fun k av w e1 e2 p hp => ?_, by rw [List.length_set]; exact h.on⟩
  by_cases z : i = k
  · subst z
    rw [List.getElem?_set] at e1
    simp at e1
    rw [← e1.2] at hp
    cases hp
  · rw [List.getElem?_set_ne z] at e1 e2
    exact h.ow k av w e1 e2 p hp
/-- with a new thing of one's own -/
theorem DI.setO (h : DI c U H σ ρ) {i : Nat} {av : AV} {v : V} (r : RepA c.K U H av v) (ndo : (own av v).Nodup) (n : ∀ p ∈ own av v, U p = none ∧ c.H0 p = none ∧ p ∉ owns ρ σ) (hi : noPar c i = true) : DI c U H (σ.set i (some v)) (ρ.set i (some av)) := by
  have hn := noPar_of hi
  refine ⟨h.gr, Paired.setAt (F := RepS c.K U H) (show RepS c.K U H (some av) (some v) from r) i h.rep, owns_set_nd ρ σ i (some av) (some v) h.nd ndo fun p hp => (n p hp).2.2, fun p hp => ?_, par_set (sel_set _ _ _ _ hn) (sel_set _ _ _ _ hn) h.par, h.ko, fun k av' w e1 e2 p hp => ?_, by rw [List.length_set]; exact h.on⟩
  · rcases owns_set_mem ρ σ i (some av) (some v) p hp with q | q
    · exact h.out p q
    · exact ⟨(n p q).1, .inr (n p q).2.1⟩
  · by_cases z : i = k
    · subst z
      rw [List.getElem?_set] at e1 e2
      simp at e1 e2
      rw [← e1.2, ← e2.2] at hp
      exact .inr (n p hp).2.1
    · rw [List.getElem?_set_ne z] at e1 e2
      exact h.ow k av' w e1 e2 p hp
end
abbrev AE := Env → (D → Prop) → (Exn → Prop) → Prop
abbrev AO := Env → (AV → Prop) → (Exn → Prop) → Prop
abbrev AT := Env → (Bool → Prop) → (Exn → Prop) → Prop
abbrev AL := Env → (List D → Prop) → (Exn → Prop) → Prop
inductive Arg where
  | val (d : D) | slot (i : Nat)
abbrev AA := Env → (List Arg → Prop) → (Exn → Prop) → Prop
structure AEnds where
  nx : Env → Prop
  rt : AV → Env → Prop
  bk : Env → Prop
  ct : Env → Prop
  ex : Exn → Env → Prop
abbrev AS := AEnds → Env → Prop
def drS : Option AV → Option V → List Addr
  | some .dr, some (.ref p) => [p]
  | _, _ => []
def drs : Env → L2.St → List Addr
  | a :: ρ, v :: σ => drS a v ++ drs ρ σ
  | _, _ => []
theorem drs_sub : ∀ {ρ : Env} {σ : L2.St}, ∀ p ∈ drs ρ σ, p ∈ owns ρ σ
  | [], _, p, hp => by simp [drs] at hp
  | _ :: _, [], p, hp => by simp [drs] at hp
  | a :: ρ, v :: σ, p, hp => by
    rcases List.mem_append.mp hp with h | h
    · refine List.mem_append_left _ ?_
      unfold drS at h
      split at h
      · exact h
      · cases h
    · exact List.mem_append_right _ (drs_sub p h)
/-- a slot's thing that stands now, or what never changes -/
inductive Within : AV → V → AV → V → Prop
  | here {a : AV} {v : V} : Within a v a v
  | on {ws : List V} {as : List AV} {v : V} {k : Nat} {a b : AV} {w u : V} : as[k]? = some a → ws[k]? = some w → Within a w b u → Within (.on ws as) v b u
  | ob {C dx : Addr} {ns : List Str} {ws : List V} {as : List AV} {v : V} {k : Nat} {a b : AV} {w u : V} : as[k]? = some a → ws[k]? = some w → Within a w b u → Within (.ob C dx ns ws as) v b u
  | ut {ws : List V} {as : List AV} {v : V} {k : Nat} {a b : AV} {w u : V} : as[k]? = some a → ws[k]? = some w → Within a w b u → Within (.ut ws as) v b u
theorem RepAs.at {K : PySem.W.Frag} {U H : Hp} : ∀ {as : List AV} {vs : List V}, RepAs K U H as vs → ∀ (k : Nat) (a : AV) (v : V), as[k]? = some a → vs[k]? = some v → RepA K U H a v
  | [], _, _, k, a, v, e, _ => by simp at e
  | b :: as, _, ⟨w, r, e1, h1, h2⟩, 0, a, v, e, f => by
    subst e1
    cases e
    cases f
    exact h1
  | b :: as, _, ⟨w, r, e1, h1, h2⟩, k + 1, a, v, e, f => by
    subst e1
    exact RepAs.at h2 k a v e f
theorem Within.rep {K : PySem.W.Frag} {U H : Hp} {a b : AV} {v w : V} (h : Within a v b w) : RepA K U H a v → RepA K U H b w := by
  induction h with
  | here => exact id
  | on h1 h2 _ ih => exact fun ⟨p, _, _, k⟩ => ih (RepAs.at k _ _ _ h1 h2)
  | ob h1 h2 _ ih => exact fun ⟨p, _, _, _, k⟩ => ih (RepAs.at k _ _ _ h1 h2)
  | ut h1 h2 _ ih => exact fun ⟨p, _, _, k⟩ => ih (RepAs.at k _ _ _ h1 h2)
theorem ownAs_at : ∀ {as : List AV} {vs : List V} {k : Nat} {a : AV} {v : V}, as[k]? = some a → vs[k]? = some v → ∀ p ∈ own a v, p ∈ ownAs as vs
  | [], _, k, a, v, e, _, p, _ => by simp at e
  | _ :: _, [], k, a, v, _, e, p, _ => by simp at e
  | b :: as, w :: vs, 0, a, v, e, f, p, hp => by
    cases e
    cases f
    exact List.mem_append_left _ hp
  | b :: as, w :: vs, k + 1, a, v, e, f, p, hp => List.mem_append_right _ (ownAs_at (as := as) (vs := vs) e f p hp)
theorem Within.own {K : PySem.W.Frag} {U H : Hp} {a b : AV} {v w : V} (h : Within a v b w) : RepA K U H a v → ∀ p ∈ own b w, p ∈ SW.own a v := by
  induction h with
  | here => exact fun _ p hp => hp
  | on h1 h2 _ ih =>
    rintro ⟨q, rfl, _, k⟩ p hp
    exact List.mem_cons_of_mem _ (ownAs_at h1 h2 p (ih (RepAs.at k _ _ _ h1 h2) p hp))
  | ob h1 h2 _ ih =>
    rintro ⟨q, rfl, _, _, k⟩ p hp
    exact List.mem_cons_of_mem _ (ownAs_at h1 h2 p (ih (RepAs.at k _ _ _ h1 h2) p hp))
  | ut h1 h2 _ ih =>
    rintro ⟨q, rfl, _, k⟩ p hp
    exact ownAs_at h1 h2 p (ih (RepAs.at k _ _ _ h1 h2) p hp)
theorem Within.dr {b : AV} {v w : V} (h : Within .dr v b w) : b = .dr := by cases h; rfl
def Wk (K : PySem.W.Frag) (U : Hp) (σ : L2.St) (ρ : Env) (d : D) (v : V) : Prop := R K U d v ∨ ∃ (i : Nat) (av : AV) (v0 : V) (b : AV), ρ[i]? = some (some av) ∧ σ[i]? = some (some v0) ∧ Within av v0 b v ∧ b.sh = some d
def CR (K : PySem.W.Frag) (U H : Hp) (d : D) (v : V) : Prop := ∃ av : AV, RepA K U H av v ∧ av.sh = some d
section
variable {K : PySem.W.Frag} {c : DC} {U H U' H' : Hp} {σ : L2.St} {ρ : Env} {d : D} {v : V}
theorem CR.of (h : R K U d v) : CR K U H d v := ⟨.fz d, h, rfl⟩
theorem Wk.cr (h : Wk c.K U σ ρ d v) (i : DI c U H σ ρ) : CR c.K U H d v := by
  rcases h with h | ⟨k, av, v0, b, h1, h2, h4, h3⟩
  · exact .of h
  · obtain ⟨w, e1, e2, _⟩ := rep_at i.rep k av h1
    rw [h2] at e1
    have e := Option.some.inj (Option.some.inj e1)
    subst e
    exact ⟨b, h4.rep e2, h3⟩
theorem Wk.mono (e : Same U U') (h : Wk K U σ ρ d v) : Wk K U' σ ρ d v := h.imp (R.mono e d v) id
theorem CR.int {i : Int} (h : CR K U H (.int i) v) : v = .int i := by
  obtain ⟨av, h1, h2⟩ := h
  cases av <;> first | (cases h2; exact h1) | cases h2
theorem CR.bl {b : Bool} (h : CR K U H (.bl b) v) : v = .bl b := by
  obtain ⟨av, h1, h2⟩ := h
  cases av <;> first | (cases h2; exact h1) | cases h2
theorem CR.str {x : Str} (h : CR K U H (.str x) v) : v = .str x := by
  obtain ⟨av, h1, h2⟩ := h
  cases av <;> first | (cases h2; exact h1) | cases h2
theorem CR.non (h : CR K U H .non v) : v = .non := by
  obtain ⟨av, h1, h2⟩ := h
  cases av <;> first | (cases h2; exact h1) | cases h2
theorem CR.ty {n : String} (h : CR K U H (.ty n) v) : v = .ty n := by
  obtain ⟨av, h1, h2⟩ := h
  cases av <;> first | (cases h2; exact h1) | cases h2
theorem CR.adr {a : Addr} (h : CR K U H (.adr a) v) : v = .ref a := by
  obtain ⟨av, h1, h2⟩ := h
  cases av <;> first | (cases h2; exact h1) | cases h2
theorem CR.exn {a C : Addr} {o : Option Addr} {ns : List Str} {ds : List D} (h : CR K U H (.exn a C o ns ds) v) : v = .ref a := by
  obtain ⟨av, h1, h2⟩ := h
  cases av <;> first | (cases h2; exact h1.1) | cases h2
theorem CR.ktR {k : List Key} (h : CR K U H (.kt k) v) : R K U (.kt k) v := by
  obtain ⟨av, h1, h2⟩ := h
  cases av <;> first | (cases h2; exact h1) | cases h2
theorem CR.kt {k : List Key} (h : CR K U H (.kt k) v) (s : Same U H) : ∃ a, v = .ref a ∧ H a = some (.tup (k.map kV)) := by
  obtain ⟨a, e1, e2⟩ := h.ktR
  exact ⟨a, e1, s _ _ e2⟩
theorem CR.tupR {ds : List D} (h : CR K U H (.tup ds) v) : R K U (.tup ds) v := by
  obtain ⟨av, h1, h2⟩ := h
  cases av <;> cases h2
  · exact h1
  · obtain ⟨p, e1, e2, e3⟩ := h1
    exact ⟨p, _, e1, e2, seens_r e3⟩
theorem CR.tup {ds : List D} (h : CR K U H (.tup ds) v) (s : Same U H) : ∃ a xs, v = .ref a ∧ SqT K H a xs ∧ Rs K U ds xs := by
  obtain ⟨a, xs, e1, e2, e3⟩ := h.tupR
  exact ⟨a, xs, e1, Same.tup s e2, e3⟩
theorem CR.lst {ds : List D} (h : CR K U H (.lst ds) v) (s : Same U H) : ∃ a xs, v = .ref a ∧ H a = some (.lst xs) ∧ Rs K U ds xs := by
  obtain ⟨av, h1, h2⟩ := h
  cases av <;> cases h2
  · obtain ⟨a, xs, e1, e2, e3⟩ := h1
    exact ⟨a, xs, e1, s _ _ e2, e3⟩
  · obtain ⟨a, xs, e1, e2, e3⟩ := h1
    exact ⟨a, xs, e1, e2, e3⟩
  · obtain ⟨a, e1, e2, e3⟩ := h1
    exact ⟨a, _, e1, e2, seens_r e3⟩
theorem CR.dK {ks : List Key} {ds : List D} (h : CR K U H (.dK ks ds) v) (s : Same U H) : ∃ a xs, v = .ref a ∧ H a = some (.dK (ks.zip xs)) ∧ ks.length = xs.length ∧ Rs K U ds xs := by
  obtain ⟨av, h1, h2⟩ := h
  cases av <;> cases h2
  · obtain ⟨a, xs, e1, e2, e3⟩ := h1
    exact ⟨a, xs, e1, s _ _ e2, e3⟩
  · obtain ⟨a, xs, e1, e2, e3⟩ := h1
    exact ⟨a, xs, e1, e2, e3⟩
theorem CR.dT {ks : List (List Key)} {ds : List D} (h : CR K U H (.dT ks ds) v) (s : Same U H) : ∃ a xs, v = .ref a ∧ H a = some (.dT (ks.zip xs)) ∧ ks.length = xs.length ∧ Rs K U ds xs := by
  obtain ⟨av, h1, h2⟩ := h
  cases av <;> cases h2
  · obtain ⟨a, xs, e1, e2, e3⟩ := h1
    exact ⟨a, xs, e1, s _ _ e2, e3⟩
  · obtain ⟨a, xs, e1, e2, e3⟩ := h1
    exact ⟨a, xs, e1, e2, e3⟩
theorem CR.obj {C : Addr} {ns : List Str} {ds : List D} (h : CR K U H (.obj C ns ds) v) (s : Same U H) : ∃ a dx xs, v = .ref a ∧ H a = some (.ins C dx (ns.zip xs)) ∧ ns.length = xs.length ∧ Rs K U ds xs := by
  obtain ⟨av, h1, h2⟩ := h
  cases av <;> cases h2
  · obtain ⟨a, dx, xs, e1, e2, e3⟩ := h1
    exact ⟨a, dx, xs, e1, s _ _ e2, e3⟩
  · obtain ⟨a, e1, e2, e3, e4⟩ := h1
    exact ⟨a, _, _, e1, e2, e3, seens_r e4⟩
end
/-- a new thing of one's own -/
structure Fresh (U' H : Hp) (av : AV) (v : V) : Prop where
  nd : (own av v).Nodup
  out : ∀ p ∈ own av v, U' p = none ∧ H p = none
theorem Fresh.back {U' H H1 : Hp} {av : AV} {v : V} (f : Fresh U' H1 av v) (h : ∀ p, H1 p = none → H p = none) : Fresh U' H av v := ⟨f.nd, fun p hp => ⟨(f.out p hp).1, h p (f.out p hp).2⟩⟩
theorem Fresh.one {U' H : Hp} {av : AV} {p : Addr} (e : own av (.ref p) = [p]) (h1 : U' p = none) (h2 : H p = none) : Fresh U' H av (.ref p) := ⟨by rw [e]; simp, fun q hq => by rw [e] at hq; rw [List.mem_singleton.mp hq]; exact ⟨h1, h2⟩⟩
theorem Fresh.fz {U' H : Hp} {d : D} {v : V} : Fresh U' H (.fz d) v := ⟨by cases v <;> exact List.nodup_nil, fun p hp => by cases v <;> cases hp⟩
def SimE (c : DC) (t : TE) (e : AE) : Prop := ∀ (U H : Hp) (σ : L2.St) (ρ : Env) (Q : D → Prop) (q : VK), DI c U H σ ρ → e ρ Q (c.x ρ) →
  (∀ U' H' d v, Gr (drs ρ σ) U H U' H' → DI c U' H' σ ρ → R c.K U' d v → Q d → q v H') → t σ H q
def SimW (c : DC) (t : TE) (e : AE) : Prop := ∀ (U H : Hp) (σ : L2.St) (ρ : Env) (Q : D → Prop) (q : VK), DI c U H σ ρ → e ρ Q (c.x ρ) →
  (∀ U' H' d v, Gr (drs ρ σ) U H U' H' → DI c U' H' σ ρ → Wk c.K U' σ ρ d v → Q d → q v H') → t σ H q
def SimO (c : DC) (t : TE) (e : AO) : Prop := ∀ (U H : Hp) (σ : L2.St) (ρ : Env) (Q : AV → Prop) (q : VK), DI c U H σ ρ → e ρ Q (c.x ρ) →
  (∀ U' H' av v, Gr (drs ρ σ) U H U' H' → DI c U' H' σ ρ → RepA c.K U' H' av v → Fresh U' H av v → Q av → q v H') → t σ H q
def SimT (c : DC) (t : TT) (e : AT) : Prop := ∀ (U H : Hp) (σ : L2.St) (ρ : Env) (Q : Bool → Prop) (q : Bool → Hp → Prop), DI c U H σ ρ → e ρ Q (c.x ρ) →
  (∀ U' H' b, Gr (drs ρ σ) U H U' H' → DI c U' H' σ ρ → Q b → q b H') → t σ H q
def SimL (c : DC) (t : TA) (e : AL) : Prop := ∀ (U H : Hp) (σ : L2.St) (ρ : Env) (Q : List D → Prop) (q : List V → Hp → Prop), DI c U H σ ρ → e ρ Q (c.x ρ) →
  (∀ U' H' ds vs, Gr (drs ρ σ) U H U' H' → DI c U' H' σ ρ → Rs c.K U' ds vs → Q ds → q vs H') → t σ H q
/-- arguments that are read alone -/
def SimLW (c : DC) (t : TA) (e : AL) : Prop := ∀ (U H : Hp) (σ : L2.St) (ρ : Env) (Q : List D → Prop) (q : List V → Hp → Prop), DI c U H σ ρ → e ρ Q (c.x ρ) →
  (∀ U' H' ds vs, Gr (drs ρ σ) U H U' H' → DI c U' H' σ ρ → Paired (Wk c.K U' σ ρ) ds vs → Q ds → q vs H') → t σ H q
def ArgR (K : PySem.W.Frag) (U : Hp) (σ : L2.St) : Arg → V → Prop
  | .val d, v => R K U d v
  | .slot i, v => σ[i]? = some (some v)
def SimA (c : DC) (t : TA) (e : AA) : Prop := ∀ (U H : Hp) (σ : L2.St) (ρ : Env) (Q : List Arg → Prop) (q : List V → Hp → Prop), DI c U H σ ρ → e ρ Q (c.x ρ) →
  (∀ U' H' as vs, Gr (drs ρ σ) U H U' H' → DI c U' H' σ ρ → Paired (ArgR c.K U' σ) as vs → Q as → q vs H') → t σ H q
structure Post (c : DC) (V : Hp) (N : AEnds) (n : L2.Ends) : Prop where
  nx : ∀ U H σ ρ, Same V U → DI c U H σ ρ → N.nx ρ → n.nx σ H
  rt : ∀ U H σ ρ av v, DI c U H σ ρ → RepA c.K U H av v → (own av v).Nodup → (∀ p ∈ own av v, U p = none ∧ c.H0 p = none ∧ p ∉ owns ρ σ) → N.rt av ρ → n.rt v H
  bk : ∀ U H σ ρ, Same V U → DI c U H σ ρ → N.bk ρ → n.bk σ H
  ct : ∀ U H σ ρ, Same V U → DI c U H σ ρ → N.ct ρ → n.ct σ H
theorem Post.mono {c : DC} {V V' : Hp} {N : AEnds} {n : L2.Ends} (s : Same V V') (P : Post c V N n) : Post c V' N n :=
  ⟨fun U H σ ρ e => P.nx U H σ ρ (s.trans e), P.rt, fun U H σ ρ e => P.bk U H σ ρ (s.trans e), fun U H σ ρ e => P.ct U H σ ρ (s.trans e)⟩
def SimS (c : DC) (t : TS) (a : AS) : Prop := ∀ (U H : Hp) (σ : L2.St) (ρ : Env) (N : AEnds) (n : L2.Ends), N.ex = (fun x ρ => c.x ρ x) → DI c U H σ ρ → a N ρ → Post c U N n → t n σ H
/-- a target: slots are written, the heap stays -/
abbrev AG := D → Env → (Env → Prop) → Prop
structure Put (js : List Nat) (σ σ' : L2.St) (ρ ρ' : Env) : Prop where
  len : σ'.length = σ.length
  at' : ∀ k, k ∉ js → σ'[k]? = σ[k]?
  dr : ∀ p ∈ drs ρ' σ', p ∈ drs ρ σ
  rat : ∀ k, k ∉ js → ρ'[k]? = ρ[k]?
  ow : ∀ p ∈ owns ρ' σ', p ∈ owns ρ σ
theorem sel_at {α : Type} : ∀ (ks : List Bool) (r r' : List α), (∀ k, ks.getD k false = true → r'[k]? = r[k]?) → selM ks r' = selM ks r
  | [], r, r', _ => by cases r <;> cases r' <;> rfl
  | true :: ks, [], [], _ => rfl
  | true :: ks, [], b :: r', h => by have := h 0 rfl; cases this
  | true :: ks, a :: r, [], h => by have := h 0 rfl; cases this
  | true :: ks, a :: r, b :: r', h => by
    have e := Option.some.inj (h 0 rfl)
    subst e
    exact congrArg (_ :: ·) (sel_at ks r r' fun k hk => h (k + 1) hk)
  | false :: ks, [], [], _ => rfl
  | false :: ks, [], b :: r', h => by
    have := sel_at ks [] r' fun k hk => by have := h (k + 1) hk; simpa using this
    show selM ks r' = []
    rw [this]
    cases ks with
    | nil => rfl
    | cons k ks => cases k <;> rfl
  | false :: ks, a :: r, [], h => by
    have := sel_at ks r [] fun k hk => by have := h (k + 1) hk; simpa using this
    show [] = selM ks r
    rw [← this]
    cases ks with
    | nil => rfl
    | cons k ks => cases k <;> rfl
  | false :: ks, a :: r, b :: r', h => sel_at ks r r' fun k hk => h (k + 1) hk
theorem Put.ex {c : DC} {js vs : List Nat} {σ σ' : L2.St} {ρ ρ' : Env} (p : Put js σ σ' ρ ρ') (hv : (vs.all fun i => noPar c i) = true) (h : ∀ j ∈ js, j ∈ vs) : c.x ρ' = c.x ρ := by
  unfold DC.x
  rw [sel_at c.ks ρ ρ' fun k hk => p.rat k fun z => by
    have := noPar_of (List.all_eq_true.mp hv k (h k z))
    rw [this] at hk
    cases hk]
def SimG (c : DC) (js : List Nat) (g : TG) (a : AG) : Prop := ∀ (U H : Hp) (σ : L2.St) (ρ : Env) (d : D) (v : V) (Q : Env → Prop) (q : L2.St → Hp → Prop), DI c U H σ ρ → R c.K U d v → a d ρ Q →
  (∀ σ' ρ', DI c U H σ' ρ' → Put js σ σ' ρ ρ' → Q ρ' → q σ' H) → g v σ H q
/-- what is walked: the items -/
def Walks (K : PySem.W.Frag) (U : Hp) (J : It) (ds : List D) (G : Hp → Prop) : Prop := ∃ Y, Walk J ds.length G Y ∧ ∀ (i : Nat) (H : Hp) (x : V) (H' : Hp) (d : D) (U2 : Hp), Same U U2 → Same U2 H → Y i H x H' → ds[i]? = some d → ∃ U3, Gr [] U2 H U3 H' ∧ R K U3 d x
def SimI (c : DC) (wi : TI) (a : AL) : Prop := ∀ (U H : Hp) (σ : L2.St) (ρ : Env) (Q : List D → Prop) (q : It → Hp → Prop), DI c U H σ ρ → a ρ Q (c.x ρ) →
  (∀ U' H' J ds, Gr (drs ρ σ) U H U' H' → DI c U' H' σ ρ → Walks c.K U' J ds (fun H'' => Same U' H'') → Q ds → q J H') → wi σ H q
def SimIW (c : DC) (wi : TI) (a : AL) : Prop := ∀ (U H : Hp) (σ : L2.St) (ρ : Env) (Q : List D → Prop) (q : It → Hp → Prop), DI c U H σ ρ → a ρ Q (c.x ρ) →
  (∀ U' H' J ds, Gr (drs ρ σ) U H U' H' → DI c U' H' σ ρ → Walks c.K U' J ds (fun H'' => ∃ U'', Gr (drs ρ σ) U' H' U'' H'') → Q ds → q J H') → wi σ H q
end SW
namespace SW
open PySem PySem.Spec PyProof.Rows L2
variable [QN]
section
variable {c : DC} {U H U' H' : Hp} {σ : L2.St} {ρ : Env} {t u ta tb tc : TE} {e a b : AE} {i j : Nat} {d : D} {v : V}
theorem SimE.w (h : SimE c t e) : SimW c t e := fun U H σ ρ Q q I he k => h U H σ ρ Q q I he fun U' H' d v g I' r z => k U' H' d v g I' (.inl r) z
def aVar (i : Nat) : AE := fun ρ Q _ => match ρ[i]? with
  | some (some (.fz d)) => Q d
  | _ => False
theorem sim_var : SimE c (tVar i) (aVar i) := fun U H σ ρ Q q I h k => by
  unfold aVar at h
  split at h
  · rename_i d e
    obtain ⟨v, e1, r, _⟩ := rep_at I.rep i _ e
    exact ⟨v, e1, k U H d v (Gr.refl I.vh) I r h⟩
  · exact h.elim
def aVarW (i : Nat) : AE := fun ρ Q _ => match ρ[i]? with
  | some (some (.fz d)) => Q d
  | some (some (.ol ds)) => Q (.lst ds)
  | some (some (.ok ks ds)) => Q (.dK ks ds)
  | some (some (.ot ks ds)) => Q (.dT ks ds)
  | some (some (.on ws as)) => Q (.lst (seens as ws))
  | some (some (.ut ws as)) => Q (.tup (seens as ws))
  | some (some (.ob C _ ns ws as)) => Q (.obj C ns (seens as ws))
  | _ => False
theorem sim_varW : SimW c (tVar i) (aVarW i) := fun U H σ ρ Q q I h k => by
  have go : ∀ (av : AV) (d : D), ρ[i]? = some (some av) → av.sh = some d → Q d → tVar i σ H q := fun av d e f z => by
    obtain ⟨v, e1, r, _⟩ := rep_at I.rep i _ e
    exact ⟨v, e1, k U H d v (Gr.refl I.vh) I (.inr ⟨i, av, v, av, e, e1, .here, f⟩) z⟩
  unfold aVarW at h
  split at h
  · exact go _ _ (by assumption) rfl h
  · exact go _ _ (by assumption) rfl h
  · exact go _ _ (by assumption) rfl h
  · exact go _ _ (by assumption) rfl h
  · exact go _ _ (by assumption) rfl h
  · exact go _ _ (by assumption) rfl h
  · exact go _ _ (by assumption) rfl h
  · exact h.elim
def aC (d : D) : AE := fun _ Q _ => Q d
theorem sim_c (h : ∀ U, R c.K U d v) : SimE c (tC v) (aC d) := fun U H σ ρ Q q I z k => k U H d v (Gr.refl I.vh) I (h U) z
theorem sim_int {n : Int} : SimE c (tC (.int n)) (aC (.int n)) := sim_c fun _ => rfl
theorem sim_bl {n : Bool} : SimE c (tC (.bl n)) (aC (.bl n)) := sim_c fun _ => rfl
theorem sim_non : SimE c (tC .non) (aC .non) := sim_c fun _ => rfl
theorem sim_ty {n : String} : SimE c (tC (.ty n)) (aC (.ty n)) := sim_c fun _ => rfl
/-- an operator on what is read -/
def OpD (K : PySem.W.Frag) (r : R2) (f : D → D → (D → Prop) → Prop) : Prop := ∀ (U H : Hp) (v w : V) (d e : D) (Q : D → Prop) (q : VK), Same U H → CR K U H d v → CR K U H e w → f d e Q →
  (∀ U' H' z u, Gr [] U H U' H' → R K U' z u → Q z → q u H') → r v w H q
def UnD (K : PySem.W.Frag) (r : V → Hp → VK → Prop) (f : D → (D → Prop) → Prop) : Prop := ∀ (U H : Hp) (v : V) (d : D) (Q : D → Prop) (q : VK), Same U H → CR K U H d v → f d Q →
  (∀ U' H' z u, Gr [] U H U' H' → R K U' z u → Q z → q u H') → r v H q
def BuD (K : PySem.W.Frag) (r : List V → Hp → VK → Prop) (f : List D → (D → Prop) → Prop) : Prop := ∀ (U H : Hp) (vs : List V) (ds : List D) (Q : D → Prop) (q : VK), Same U H → Paired (CR K U H) ds vs → f ds Q →
  (∀ U' H' z u, Gr [] U H U' H' → R K U' z u → Q z → q u H') → r vs H q
/-- the same with a new thing of one's own -/
def OpO (K : PySem.W.Frag) (r : R2) (f : D → D → (AV → Prop) → Prop) : Prop := ∀ (U H : Hp) (v w : V) (d e : D) (Q : AV → Prop) (q : VK), Same U H → CR K U H d v → CR K U H e w → f d e Q →
  (∀ U' H' av u, Gr [] U H U' H' → RepA K U' H' av u → Fresh U' H av u → Q av → q u H') → r v w H q
def BuO (K : PySem.W.Frag) (r : List V → Hp → VK → Prop) (f : List D → (AV → Prop) → Prop) : Prop := ∀ (U H : Hp) (vs : List V) (ds : List D) (Q : AV → Prop) (q : VK), Same U H → Paired (CR K U H) ds vs → f ds Q →
  (∀ U' H' av u, Gr [] U H U' H' → RepA K U' H' av u → Fresh U' H av u → Q av → q u H') → r vs H q
def aOp (f : D → D → (D → Prop) → Prop) (a b : AE) : AE := fun ρ Q X => a ρ (fun d => b ρ (fun e => f d e Q) X) X
def aOpO (f : D → D → (AV → Prop) → Prop) (a b : AE) : AO := fun ρ Q X => a ρ (fun d => b ρ (fun e => f d e Q) X) X
def aUn (f : D → (D → Prop) → Prop) (a : AE) : AE := fun ρ Q X => a ρ (fun d => f d Q) X
theorem sim_op {r : R2} {f : D → D → (D → Prop) → Prop} (h : OpD c.K r f) (ha : SimW c ta a) (hb : SimW c tb b) : SimE c (tOp r ta tb) (aOp f a b) := fun U H σ ρ Q q I z k =>
  ha U H σ ρ _ _ I z fun U1 H1 d v g1 I1 w1 z1 => hb U1 H1 σ ρ _ _ I1 z1 fun U2 H2 e w g2 I2 w2 z2 =>
    h U2 H2 v w d e Q q I2.vh ((w1.mono g2.vv).cr I2) (w2.cr I2) z2 fun U3 H3 y u' g3 r3 z3 => k U3 H3 y u' ((g1.trans g2).trans g3.any) (I2.grow g3) r3 z3
theorem sim_opO {r : R2} {f : D → D → (AV → Prop) → Prop} (h : OpO c.K r f) (ha : SimW c ta a) (hb : SimW c tb b) : SimO c (tOp r ta tb) (aOpO f a b) := fun U H σ ρ Q q I z k =>
  ha U H σ ρ _ _ I z fun U1 H1 d v g1 I1 w1 z1 => hb U1 H1 σ ρ _ _ I1 z1 fun U2 H2 e w g2 I2 w2 z2 =>
    h U2 H2 v w d e Q q I2.vh ((w1.mono g2.vv).cr I2) (w2.cr I2) z2 fun U3 H3 y u' g3 r3 n3 z3 => k U3 H3 y u' ((g1.trans g2).trans g3.any) (I2.grow g3) r3 (n3.back fun _ h => (g1.trans g2).fresh h) z3
theorem sim_un {r : V → Hp → VK → Prop} {f : D → (D → Prop) → Prop} (h : UnD c.K r f) (ha : SimW c ta a) : SimE c (tUn r ta) (aUn f a) := fun U H σ ρ Q q I z k =>
  ha U H σ ρ _ _ I z fun U1 H1 d v g1 I1 w1 z1 => h U1 H1 v d Q q I1.vh (w1.cr I1) z1 fun U3 H3 y u' g3 r3 z3 => k U3 H3 y u' (g1.trans g3.any) (I1.grow g3) r3 z3
def aNil : AL := fun _ Q _ => Q []
def aCons (a : AE) (r : AL) : AL := fun ρ Q X => a ρ (fun d => r ρ (fun ds => Q (d :: ds)) X) X
theorem sim_nil : SimL c tNil aNil := fun U H σ ρ Q q I z k => k U H [] [] (Gr.refl I.vh) I rfl z
theorem sim_cons {tr : TA} {r : AL} (ha : SimE c ta a) (hr : SimL c tr r) : SimL c (tCons ta tr) (aCons a r) := fun U H σ ρ Q q I z k =>
  ha U H σ ρ _ _ I z fun U1 H1 d v g1 I1 r1 z1 => hr U1 H1 σ ρ _ _ I1 z1 fun U2 H2 ds vs g2 I2 r2 z2 => k U2 H2 (d :: ds) (v :: vs) (g1.trans g2) I2 ⟨v, vs, rfl, R.mono g2.vv d v r1, r2⟩ z2
theorem sim_nilW : SimLW c tNil aNil := fun U H σ ρ Q q I z k => k U H [] [] (Gr.refl I.vh) I .nil z
theorem sim_consW {tr : TA} {r : AL} (ha : SimW c ta a) (hr : SimLW c tr r) : SimLW c (tCons ta tr) (aCons a r) := fun U H σ ρ Q q I z k =>
  ha U H σ ρ _ _ I z fun U1 H1 d v g1 I1 r1 z1 => hr U1 H1 σ ρ _ _ I1 z1 fun U2 H2 ds vs g2 I2 r2 z2 => k U2 H2 (d :: ds) (v :: vs) (g1.trans g2) I2 (.cons (r1.mono g2.vv) r2) z2
def aArg (a : AE) (r : AA) : AA := fun ρ Q X => a ρ (fun d => r ρ (fun ds => Q (.val d :: ds)) X) X
def aSlot (i : Nat) (r : AA) : AA := fun ρ Q X => match ρ[i]? with
  | some (some .dr) => r ρ (fun ds => Q (.slot i :: ds)) X
  | _ => False
def aArgs : AA := fun _ Q _ => Q []
theorem sim_args : SimA c tNil aArgs := fun U H σ ρ Q q I z k => k U H [] [] (Gr.refl I.vh) I .nil z
theorem sim_arg {tr : TA} {r : AA} (ha : SimE c ta a) (hr : SimA c tr r) : SimA c (tCons ta tr) (aArg a r) := fun U H σ ρ Q q I z k =>
  ha U H σ ρ _ _ I z fun U1 H1 d v g1 I1 r1 z1 => hr U1 H1 σ ρ _ _ I1 z1 fun U2 H2 ds vs g2 I2 r2 z2 => k U2 H2 (.val d :: ds) (v :: vs) (g1.trans g2) I2 (.cons (R.mono g2.vv d v r1) r2) z2
theorem sim_slot {tr : TA} {r : AA} (hr : SimA c tr r) : SimA c (tCons (tVar i) tr) (aSlot i r) := fun U H σ ρ Q q I z k => by
  unfold aSlot at z
  split at z
  · rename_i e0
    obtain ⟨v, e, _⟩ := rep_at I.rep i _ e0
    exact ⟨v, e, hr U H σ ρ _ _ I z fun U2 H2 ds vs g2 I2 r2 z2 => k U2 H2 (.slot i :: ds) (v :: vs) g2 I2 (.cons e r2) z2⟩
  · exact z.elim
theorem R.tup {K : PySem.W.Frag} {p : Addr} {xs : List V} {ds : List D} (h : U p = some (.tup xs)) (r : Rs K U ds xs) : R K U (.tup ds) (.ref p) := ⟨p, xs, rfl, SqT.of h, r⟩
theorem R.lst {K : PySem.W.Frag} {p : Addr} {xs : List V} {ds : List D} (h : U p = some (.lst xs)) (r : Rs K U ds xs) : R K U (.lst ds) (.ref p) := ⟨p, xs, rfl, h, r⟩
theorem le_size {n : Nat} (h : n ≤ 1000000) : n ≤ sizeLine := Nat.le_trans h (by decide)
theorem lt_size {n : Nat} (h : n < 1000000) : n < sizeLine := Nat.lt_of_lt_of_le h (by decide)
def aTup (r : AL) : AE := fun ρ Q X => r ρ (fun ds => ds.length ≤ 1000000 ∧ Q (.tup ds)) X
def aLst (r : AL) : AO := fun ρ Q X => r ρ (fun ds => ds.length ≤ 1000000 ∧ Q (.ol ds)) X
theorem sim_lst {tr : TA} {r : AL} (hr : SimL c tr r) : SimO c (tLst tr) (aLst r) := fun U H σ ρ Q q I z k =>
  hr U H σ ρ _ _ I z fun U1 H1 ds vs g1 I1 r1 z1 => ⟨le_size (by rw [← r1.len]; exact z1.1), fun p np => by
    have g2 : Gr [] U1 H1 U1 (upd H1 p (.lst vs)) := (Gr.refl I1.vh).newM np
    exact k _ _ (.ol ds) (.ref p) (g1.trans g2.any) (I1.grow g2) ⟨p, vs, rfl, upd_same, r1⟩ (.one rfl (I1.vh.free np) (g1.fresh np)) z1.2⟩
def sealU (U H : Hp) (as : List Addr) : Hp := fun a => if a ∈ as then H a else U a
theorem seal_in {as : List Addr} {p : Addr} (h : p ∈ as) : sealU U H as p = H p := if_pos h
theorem seal_out {as : List Addr} {p : Addr} (h : p ∉ as) : sealU U H as p = U p := if_neg h
theorem seal_same {as : List Addr} (h : ∀ p ∈ as, U p = none) : Same U (sealU U H as) := fun a o e => by
  rw [seal_out fun z => by rw [h a z] at e; cases e]
  exact e
theorem seal_vh {as : List Addr} (s : Same U H) : Same (sealU U H as) H := fun a o e => by
  by_cases z : a ∈ as
  · rw [seal_in z] at e
    exact e
  · rw [seal_out z] at e
    exact s a o e
theorem seal_nt {as : List Addr} (n : NT U) (pl : ∀ p ∈ as, Pl H p) : NT (sealU U H as) := fun a ps e => by
  by_cases z : a ∈ as
  · rw [seal_in z] at e
    obtain ⟨o, e1, e2⟩ := pl a z
    rw [e1] at e
    exact ntb e2 ps (Option.some.inj e)
  · rw [seal_out z] at e
    exact n a ps e
theorem Gr.sealL {M : List Addr} {U0 H0 : Hp} {as : List Addr} (g : Gr M U0 H0 U H) (h : ∀ p ∈ as, U p = none ∧ H0 p = none) (pl : ∀ p ∈ as, Pl H p) : Gr M U0 H0 (sealU U H as) H :=
  ⟨g.vv.trans (seal_same fun p hp => (h p hp).1), seal_vh g.vh, g.hh, g.dom, fun a e k => by
    rw [seal_out fun z => k (h a z).2]
    exact g.fr a e k, g.tb, fun n => seal_nt (g.nt n) pl⟩
theorem DI.sealL {as : List Addr} (I : DI c U H σ ρ) (h : ∀ p ∈ as, U p = none ∧ c.H0 p = none ∧ p ∉ owns ρ σ) (pl : ∀ p ∈ as, Pl H p) : DI c (sealU U H as) H σ ρ := by
  have out : ∀ q ∈ owns ρ σ, sealU U H as q = none := fun q hq => by
    rw [seal_out fun z => (h q z).2.2 hq]
    exact (I.out q hq).1
  exact ⟨I.gr.sealL (fun p hp => ⟨(h p hp).1, (h p hp).2.1⟩) pl, reps_keep (seal_same fun p hp => (h p hp).1) (fun q hq => ⟨rfl, out q hq⟩) I.rep, I.nd, fun q hq => ⟨out q hq, (I.out q hq).2⟩, I.par, I.ko, I.ow, I.on⟩
mutual
theorem RepA.frozen {K : PySem.W.Frag} {as : List Addr} (n : ∀ p ∈ as, U p = none) : ∀ (av : AV) (v : V) (d : D), RepA K U H av v → av.frz = some d → (∀ p ∈ own av v, p ∈ as) → R K (sealU U H as) d v
  | .fz d', v, d, h, e, _ => by
    cases e
    exact R.mono (seal_same n) d' v h
  | .ol ds, _, d, ⟨p, xs, e1, h, r⟩, e, k => by
    cases e
    subst e1
    exact ⟨p, xs, rfl, by rw [seal_in (k p (List.mem_singleton.mpr rfl))]; exact h, Rs.mono (seal_same n) _ _ r⟩
  | .ok ks ds, _, d, ⟨p, xs, e1, h, l, r⟩, e, k => by
    cases e
    subst e1
    exact ⟨p, xs, rfl, by rw [seal_in (k p (List.mem_singleton.mpr rfl))]; exact h, l, Rs.mono (seal_same n) _ _ r⟩
  | .ot ks ds, _, d, ⟨p, xs, e1, h, l, r⟩, e, k => by
    cases e
    subst e1
    exact ⟨p, xs, rfl, by rw [seal_in (k p (List.mem_singleton.mpr rfl))]; exact h, l, Rs.mono (seal_same n) _ _ r⟩
  | .dr, _, d, _, e, _ => by cases e
  | .on ws bs, _, d, ⟨p, e1, h, r⟩, e, k => by
    subst e1
    unfold AV.frz at e
    cases eb : frzs bs with
    | none => rw [eb] at e; cases e
    | some ds =>
      rw [eb] at e
      cases e
      exact ⟨p, ws, rfl, by rw [seal_in (k p List.mem_cons_self)]; exact h, RepAs.frozen n bs ws ds r eb fun q hq => k q (List.mem_cons_of_mem _ hq)⟩
  | .ob C dx ns ws bs, _, d, ⟨p, e1, h, l, r⟩, e, k => by
    subst e1
    unfold AV.frz at e
    cases eb : frzs bs with
    | none => rw [eb] at e; cases e
    | some ds =>
      rw [eb] at e
      cases e
      exact ⟨p, dx, ws, rfl, by rw [seal_in (k p List.mem_cons_self)]; exact h, l, RepAs.frozen n bs ws ds r eb fun q hq => k q (List.mem_cons_of_mem _ hq)⟩
  | .ut ws bs, _, d, ⟨p, e1, h, r⟩, e, k => by
    subst e1
    unfold AV.frz at e
    cases eb : frzs bs with
    | none => rw [eb] at e; cases e
    | some ds =>
      rw [eb] at e
      cases e
      exact ⟨p, ws, rfl, Same.tup (seal_same n) h, RepAs.frozen n bs ws ds r eb k⟩
  | .un, _, d, _, e, _ => by cases e
theorem RepAs.frozen {K : PySem.W.Frag} {as : List Addr} (n : ∀ p ∈ as, U p = none) : ∀ (bs : List AV) (vs : List V) (ds : List D), RepAs K U H bs vs → frzs bs = some ds → (∀ p ∈ ownAs bs vs, p ∈ as) → Rs K (sealU U H as) ds vs
  | [], vs, ds, h, e, _ => by
    cases e
    exact h
  | b :: bs, _, ds, ⟨v, r, e1, h1, h2⟩, e, k => by
    subst e1
    unfold frzs at e
    cases ea : b.frz with
    | none => rw [ea] at e; cases e
    | some d =>
      rw [ea] at e
      cases eb : frzs bs with
      | none => rw [eb] at e; cases e
      | some es =>
        rw [eb] at e
        cases e
        exact ⟨v, r, rfl, RepA.frozen n b v d h1 ea fun q hq => k q (List.mem_append_left _ hq), RepAs.frozen n bs r es h2 eb fun q hq => k q (List.mem_append_right _ hq)⟩
end
theorem freeze {M : List Addr} {av : AV} {d : D} {V H0' : Hp} (I0 : DI c V H0' σ ρ) (g : Gr M V H0' U H) (I : DI c U H σ ρ) (r : RepA c.K U H av v) (n : Fresh U H0' av v) (f : av.frz = some d) :
    ∃ U', Gr M V H0' U' H ∧ DI c U' H σ ρ ∧ R c.K U' d v ∧ Same U U' :=
  ⟨sealU U H (own av v), g.sealL n.out (own_pl av v r), I.sealL (fun p hp => ⟨(n.out p hp).1, I0.gr.fresh (n.out p hp).2, fun z => I0.ex p z (n.out p hp).2⟩) (own_pl av v r), RepA.frozen (fun p hp => (n.out p hp).1) av v d r f fun _ h => h, seal_same fun p hp => (n.out p hp).1⟩
def frzQ (Q : D → Prop) : AV → Prop
  | .fz d => Q d
  | .ol ds => Q (.lst ds)
  | .ok ks ds => Q (.dK ks ds)
  | .ot ks ds => Q (.dT ks ds)
  | .dr => False
  | .on ws as => ∃ ds, frzs as = some ds ∧ Q (.lst ds)
  | .ob C _ ns _ as => ∃ ds, frzs as = some ds ∧ Q (.obj C ns ds)
  | .ut _ as => ∃ ds, frzs as = some ds ∧ Q (.tup ds)
  | .un => False
theorem frzQ_some {Q : D → Prop} {av : AV} (h : frzQ Q av) : ∃ d, av.frz = some d ∧ Q d := by
  cases av with
  | on ws as =>
    obtain ⟨ds, e, q⟩ := h
    exact ⟨.lst ds, by unfold AV.frz; rw [e]; rfl, q⟩
  | ob C dx ns ws as =>
    obtain ⟨ds, e, q⟩ := h
    exact ⟨.obj C ns ds, by unfold AV.frz; rw [e]; rfl, q⟩
  | ut ws as =>
    obtain ⟨ds, e, q⟩ := h
    exact ⟨.tup ds, by unfold AV.frz; rw [e]; rfl, q⟩
  | _ => first | exact ⟨_, rfl, h⟩ | exact h.elim
def aFz (e : AO) : AE := fun ρ Q X => e ρ (frzQ Q) X
theorem sim_fz {e : AO} (h : SimO c t e) : SimE c t (aFz e) := fun U H σ ρ Q q I z k =>
  h U H σ ρ _ _ I z fun U1 H1 av v g1 I1 r1 n1 z1 => by
    obtain ⟨d, f, z2⟩ := frzQ_some z1
    obtain ⟨U2, g2, I2, r2, _⟩ := freeze I g1 I1 r1 n1 f
    exact k U2 H1 d v g2 I2 r2 z2
def aUp (e : AE) : AO := fun ρ Q X => e ρ (fun d => Q (.fz d)) X
theorem sim_up (h : SimE c t e) : SimO c t (aUp e) := fun U H σ ρ Q q I z k =>
  h U H σ ρ _ _ I z fun U1 H1 d v g1 I1 r1 z1 => k U1 H1 (.fz d) v g1 I1 r1 .fz z1
def blQ (Q : Bool → Prop) : D → Prop
  | .bl b => Q b
  | _ => False
theorem blQ_of {Q : Bool → Prop} {d : D} (h : blQ Q d) : ∃ b, d = .bl b ∧ Q b := by
  cases d <;> first | exact ⟨_, rfl, h⟩ | exact h.elim
def aTest (e : AE) : AT := fun ρ Q X => e ρ (blQ Q) X
theorem sim_test (h : SimW c t e) : SimT c (tTest t) (aTest e) := fun U H σ ρ Q q I z k =>
  h U H σ ρ _ _ I z fun U1 H1 d v g1 I1 r1 z1 => by
    obtain ⟨b, rfl, z2⟩ := blQ_of z1
    exact ⟨b, (r1.cr I1).bl, k U1 H1 b g1 I1 z2⟩
def aNot (e : AT) : AT := fun ρ Q X => e ρ (fun b => Q (!b)) X
def aAnd (a b : AT) : AT := fun ρ Q X => a ρ (fun x => cond x (b ρ Q X) (Q false)) X
def aOr (a b : AT) : AT := fun ρ Q X => a ρ (fun x => cond x (Q true) (b ρ Q X)) X
theorem sim_not {t : TT} {e : AT} (h : SimT c t e) : SimT c (tNot t) (aNot e) := fun U H σ ρ Q q I z k => h U H σ ρ _ _ I z fun U1 H1 b g1 I1 z1 => k U1 H1 _ g1 I1 z1
theorem sim_and {t u : TT} {e f : AT} (h : SimT c t e) (h2 : SimT c u f) : SimT c (tAnd t u) (aAnd e f) := fun U H σ ρ Q q I z k =>
  h U H σ ρ _ _ I z fun U1 H1 b g1 I1 z1 => by
    cases b with
    | true => exact i_itT (h2 U1 H1 σ ρ _ _ I1 z1 fun U2 H2 b' g2 I2 z2 => k U2 H2 b' (g1.trans g2) I2 z2)
    | false => exact i_itF (k U1 H1 false g1 I1 z1)
theorem sim_or {t u : TT} {e f : AT} (h : SimT c t e) (h2 : SimT c u f) : SimT c (tOr t u) (aOr e f) := fun U H σ ρ Q q I z k =>
  h U H σ ρ _ _ I z fun U1 H1 b g1 I1 z1 => by
    cases b with
    | false => exact i_itF (h2 U1 H1 σ ρ _ _ I1 z1 fun U2 H2 b' g2 I2 z2 => k U2 H2 b' (g1.trans g2) I2 z2)
    | true => exact i_itT (k U1 H1 true g1 I1 z1)
def aAndV (a b : AE) : AE := fun ρ Q X => a ρ (blQ fun x => cond x (b ρ Q X) (Q (.bl false))) X
def aOrV (a b : AE) : AE := fun ρ Q X => a ρ (blQ fun x => cond x (Q (.bl true)) (b ρ Q X)) X
def aNotV (a : AE) : AE := fun ρ Q X => a ρ (blQ fun x => Q (.bl (!x))) X
def aIfE (t : AT) (a b : AE) : AE := fun ρ Q X => t ρ (fun x => cond x (a ρ Q X) (b ρ Q X)) X
theorem sim_andV (ha : SimW c ta a) (hb : SimE c tb b) : SimE c (tAndV ta tb) (aAndV a b) := fun U H σ ρ Q q I z k =>
  ha U H σ ρ _ _ I z fun U1 H1 d v g1 I1 r1 z1 => by
    obtain ⟨x, rfl, z2⟩ := blQ_of z1
    refine ⟨x, (r1.cr I1).bl, ?_⟩
    cases x with
    | true => exact i_itT (hb U1 H1 σ ρ _ _ I1 z2 fun U2 H2 d' v' g2 I2 r2 z3 => k U2 H2 d' v' (g1.trans g2) I2 r2 z3)
    | false => exact i_itF (k U1 H1 (.bl false) _ g1 I1 rfl z2)
theorem sim_orV (ha : SimW c ta a) (hb : SimE c tb b) : SimE c (tOrV ta tb) (aOrV a b) := fun U H σ ρ Q q I z k =>
  ha U H σ ρ _ _ I z fun U1 H1 d v g1 I1 r1 z1 => by
    obtain ⟨x, rfl, z2⟩ := blQ_of z1
    refine ⟨x, (r1.cr I1).bl, ?_⟩
    cases x with
    | false => exact i_itF (hb U1 H1 σ ρ _ _ I1 z2 fun U2 H2 d' v' g2 I2 r2 z3 => k U2 H2 d' v' (g1.trans g2) I2 r2 z3)
    | true => exact i_itT (k U1 H1 (.bl true) _ g1 I1 rfl z2)
theorem sim_notV (ha : SimW c ta a) : SimE c (tNotV ta) (aNotV a) := fun U H σ ρ Q q I z k =>
  ha U H σ ρ _ _ I z fun U1 H1 d v g1 I1 r1 z1 => by
    obtain ⟨x, rfl, z2⟩ := blQ_of z1
    exact ⟨x, (r1.cr I1).bl, k U1 H1 (.bl (!x)) _ g1 I1 rfl z2⟩
theorem sim_ifE {t : TT} {e : AT} (h : SimT c t e) (ha : SimE c ta a) (hb : SimE c tb b) : SimE c (tIf t ta tb) (aIfE e a b) := fun U H σ ρ Q q I z k =>
  h U H σ ρ _ _ I z fun U1 H1 x g1 I1 z1 => by
    cases x with
    | true => exact i_itT (ha U1 H1 σ ρ _ _ I1 z1 fun U2 H2 d' v' g2 I2 r2 z3 => k U2 H2 d' v' (g1.trans g2) I2 r2 z3)
    | false => exact i_itF (hb U1 H1 σ ρ _ _ I1 z1 fun U2 H2 d' v' g2 I2 r2 z3 => k U2 H2 d' v' (g1.trans g2) I2 r2 z3)
def aChain (f g : D → D → (D → Prop) → Prop) (a b e : AE) : AE := fun ρ Q X => a ρ (fun x => b ρ (fun y => f x y (blQ fun k => cond k (e ρ (fun z => g y z Q) X) (Q (.bl false)))) X) X
theorem sim_chain {r r' : R2} {f g : D → D → (D → Prop) → Prop} {ae : AE} (hf : OpD c.K r f) (hg : OpD c.K r' g) (ha : SimW c ta a) (hb : SimW c tb b) (hc : SimW c tc ae) : SimE c (tChain r r' ta tb tc) (aChain f g a b ae) := fun U H σ ρ Q q I z k =>
  ha U H σ ρ _ _ I z fun U1 H1 d v g1 I1 w1 z1 => hb U1 H1 σ ρ _ _ I1 z1 fun U2 H2 e w g2 I2 w2 z2 =>
    hf U2 H2 v w d e _ _ I2.vh ((w1.mono g2.vv).cr I2) (w2.cr I2) z2 fun U3 H3 y u' g3 r3 z3 => by
      obtain ⟨x, rfl, z4⟩ := blQ_of z3
      have I3 := I2.grow g3
      refine ⟨x, r3, ?_⟩
      cases x with
      | true => exact i_itT (hc U3 H3 σ ρ _ _ I3 z4 fun U4 H4 m n g4 I4 w4 z5 => hg U4 H4 w n e m Q q I4.vh ((w2.mono (g3.vv.trans g4.vv)).cr I4) (w4.cr I4) z5 fun U5 H5 y2 u2 g5 r5 z6 => k U5 H5 y2 u2 ((((g1.trans g2).trans g3.any).trans g4).trans g5.any) (I4.grow g5) r5 z6)
      | false => exact i_itF (k U3 H3 (.bl false) _ ((g1.trans g2).trans g3.any) I3 rfl z4)
def aCB (f : List D → (D → Prop) → Prop) (r : AL) : AE := fun ρ Q X => r ρ (fun ds => f ds Q) X
def aCBO (f : List D → (AV → Prop) → Prop) (r : AL) : AO := fun ρ Q X => r ρ (fun ds => f ds Q) X
theorem wks_cr {ds : List D} {vs : List V} (I : DI c U H σ ρ) (h : Paired (Wk c.K U σ ρ) ds vs) : Paired (CR c.K U H) ds vs := Paired.imp (fun _ _ w => Wk.cr w I) h
theorem sim_cb {r : List V → Hp → VK → Prop} {f : List D → (D → Prop) → Prop} {tr : TA} {al : AL} (h : BuD c.K r f) (hr : SimLW c tr al) : SimE c (tCB r tr) (aCB f al) := fun U H σ ρ Q q I z k =>
  hr U H σ ρ _ _ I z fun U1 H1 ds vs g1 I1 w1 z1 => h U1 H1 vs ds Q q I1.vh (wks_cr I1 w1) z1 fun U3 H3 y u' g3 r3 z3 => k U3 H3 y u' (g1.trans g3.any) (I1.grow g3) r3 z3
theorem sim_cbO {r : List V → Hp → VK → Prop} {f : List D → (AV → Prop) → Prop} {tr : TA} {al : AL} (h : BuO c.K r f) (hr : SimLW c tr al) : SimO c (tCB r tr) (aCBO f al) := fun U H σ ρ Q q I z k =>
  hr U H σ ρ _ _ I z fun U1 H1 ds vs g1 I1 w1 z1 => h U1 H1 vs ds Q q I1.vh (wks_cr I1 w1) z1 fun U3 H3 y u' g3 r3 n3 z3 => k U3 H3 y u' (g1.trans g3.any) (I1.grow g3) r3 (n3.back fun _ h => g1.fresh h) z3
def lookD (f : Str) : List Str → List D → Option D
  | n :: ns, d :: ds => if f == n then some d else lookD f ns ds
  | _, _ => none
theorem look_of {K : PySem.W.Frag} {f : Str} : ∀ {ns : List Str} {ds : List D} {xs : List V} {d : D}, Rs K U ds xs → ns.length = xs.length → lookD f ns ds = some d → ∃ v, (ns.zip xs).lookup f = some v ∧ R K U d v
  | [], ds, xs, d, h, l, e => by simp [lookD] at e
  | n :: ns, [], xs, d, h, l, e => by simp [lookD] at e
  | n :: ns, y :: ds, _, d, ⟨v, r, h1, h2, h3⟩, l, e => by
    subst h1
    unfold lookD at e
    rw [List.zip_cons_cons, List.lookup_cons]
    cases hb : f == n with
    | true =>
      rw [hb, if_pos rfl] at e
      cases e
      exact ⟨v, rfl, h2⟩
    | false =>
      rw [hb, if_neg Bool.false_ne_true] at e
      exact look_of h3 (Nat.succ.inj l) e
def fldQ (C : Addr) (f : Str) (Q : D → Prop) : D → Prop
  | .obj C' ns ds => C' = C ∧ (match lookD f ns ds with | some d => Q d | none => False)
  | _ => False
theorem fldQ_of {C : Addr} {f : Str} {Q : D → Prop} {d : D} (h : fldQ C f Q d) : ∃ ns ds z, d = .obj C ns ds ∧ lookD f ns ds = some z ∧ Q z := by
  cases d with
  | obj C' ns ds =>
    obtain ⟨rfl, h⟩ := h
    cases e : lookD f ns ds with
    | none => rw [e] at h; exact h.elim
    | some z => rw [e] at h; exact ⟨ns, ds, z, rfl, e, h⟩
  | _ => exact h.elim
def aFld (C : Addr) (f : Str) (a : AE) : AE := fun ρ Q X => a ρ (fldQ C f Q) X
theorem sim_fld {C : Addr} {f : Str} (hc : Cls c.K C) (hn : NoAttr c.K C f) (ha : SimW c ta a) : SimE c (tFld c.K ta f) (aFld C f a) := fun U H σ ρ Q q I z k =>
  ha U H σ ρ _ _ I z fun U1 H1 d v g1 I1 w1 z1 => by
    obtain ⟨ns, ds, y, rfl, e, z2⟩ := fldQ_of z1
    obtain ⟨p, dx, xs, rfl, hp, hl, hrs⟩ := (w1.cr I1).obj I1.vh
    obtain ⟨w, e1, r1⟩ := look_of hrs hl e
    exact ⟨p, C, dx, _, w, rfl, hp, hc, hn, e1, k U1 H1 y w g1 I1 r1 z2⟩
end
end SW
namespace SW
open PySem PySem.Spec PyProof.Rows L2
variable [QN]
theorem reps_step {K : PySem.W.Frag} {M : List Addr} {U H U' H' : Hp} (g : Gr M U H U' H') : ∀ {ρ : Env} {σ : L2.St}, Paired (RepS K U H) ρ σ → (owns ρ σ).Nodup → (∀ p ∈ owns ρ σ, U p = none) → (∀ p ∈ M, p ∈ owns ρ σ → p ∈ drs ρ σ ∧ Dr U' H' p) → Paired (RepS K U' H') ρ σ
  | _, _, .nil, _, _, _ => .nil
  | x :: ρ, y :: σ, .cons h t, nd, hu, hM => by
    have nd' : (ownS x y ++ owns ρ σ).Nodup := nd
    obtain ⟨n1, n2, n3⟩ := List.nodup_append.mp nd'
    refine .cons ?_ (reps_step g t n2 (fun p hp => hu p (List.mem_append_right _ hp)) fun p hp ho => ?_)
    · cases x with
      | none => trivial
      | some av =>
        cases y with
        | none => exact h.elim
        | some v =>
          by_cases hdr : drS (some av) (some v) = []
          · refine RepA.keep g.vv av v (fun p hp => ⟨keep_at g (own_pl av v h p hp) (fun hpM => ?_), g.fr p (hu p (List.mem_append_left _ hp)) (own_some av v h p hp)⟩) h
            have k := (hM p hpM (List.mem_append_left _ hp)).1
            have k' : p ∈ drS (some av) (some v) ++ drs ρ σ := k
            rw [hdr, List.nil_append] at k'
            exact n3 p hp p (drs_sub p k') rfl
          · cases av with
            | dr =>
              obtain ⟨s, rfl, e⟩ := h
              by_cases hs : s ∈ M
              · exact ⟨s, rfl, (hM s hs (List.mem_append_left _ (List.mem_singleton.mpr rfl))).2⟩
              · exact ⟨s, rfl, e.gr g hs⟩
            | _ => exact absurd rfl hdr
    · obtain ⟨k, k2⟩ := hM p hp (List.mem_append_right _ ho)
      have k' : p ∈ drS x y ++ drs ρ σ := k
      rcases List.mem_append.mp k' with z | z
      · refine absurd rfl (n3 p ?_ p ho)
        unfold drS at z
        split at z
        · exact z
        · cases z
      · exact ⟨z, k2⟩
section
variable {c : DC} {U H U' H' : Hp} {σ : L2.St} {ρ : Env} {t u ta tb tc : TE} {e a b : AE} {i j : Nat} {d : D} {v : V}
theorem DI.step {M : List Addr} (I : DI c U H σ ρ) (g : Gr M U H U' H') (hM : ∀ p ∈ M, p ∈ drs ρ σ ∧ Dr U' H' p) : DI c U' H' σ ρ := by
  refine ⟨⟨I.gr.vv.trans g.vv, g.vh, fun x o m nn h => ?_, fun x h => g.dom x (I.gr.dom x h), fun x h k => g.fr x (I.gr.fr x h k) (I.gr.dom x k), fun P h => g.tb P (I.gr.tb P h), fun h => g.nt (I.gr.nt h)⟩, reps_step g I.rep I.nd (fun p hp => (I.out p hp).1) fun p hp _ => hM p hp, I.nd, fun p hp => ⟨g.fr p (I.out p hp).1 (I.ex p hp), (I.out p hp).2⟩, I.par, I.ko, I.ow, I.on⟩
  refine g.hh x o (fun z => ?_) nn (I.gr.hh x o m nn h)
  rcases (I.out x (drs_sub x (hM x z).1)).2 with k | k
  · exact m k
  · rw [k] at h
    cases h
abbrev AF := List AV → (AV → Prop) → (Exn → Prop) → Prop
/-- the promise of a def that changes nothing but the law's draws -/
def spD (K : PySem.W.Frag) (tb : List Addr) (A : AF) : Sp := fun vs H Q E => ∃ (U : Hp) (avs : List AV) (q : AV → Prop) (x : Exn → Prop), Same U H ∧ TbOk tb U H ∧ Paired (RepA K U H) avs vs ∧ (∀ a ∈ avs, a = .dr ∨ ∃ d, a = .fz d) ∧ (ownAs avs vs).length ≤ 1 ∧ A avs q x ∧
  (∀ U' H' av v, Gr (ownAs avs vs) U H U' H' → RepA K U' H' av v → Fresh U' H av v → (∀ p ∈ ownAs avs vs, Dr U' H' p) → q av → Q v H') ∧
  (∀ U' H' ex cls o, Gr (ownAs avs vs) U H U' H' → XRep K U' H' ex cls o → (∀ p ∈ ownAs avs vs, Dr U' H' p) → x ex → E cls o H')
def argAV (ρ : Env) : Arg → Option AV
  | .val d => some (.fz d)
  | .slot i => match ρ[i]? with
    | some (some .dr) => some .dr
    | _ => none
def argsAV (ρ : Env) : List Arg → Option (List AV)
  | [] => some []
  | a :: as => match argAV ρ a, argsAV ρ as with
    | some x, some xs => some (x :: xs)
    | _, _ => none
def slots : List Arg → Nat
  | [] => 0
  | .slot _ :: as => slots as + 1
  | _ :: as => slots as
theorem mem_drs : ∀ {ρ : Env} {σ : L2.St} {i : Nat} {p : Addr}, ρ[i]? = some (some .dr) → σ[i]? = some (some (.ref p)) → p ∈ drs ρ σ
  | [], _, i, p, h, k => by simp at h
  | _ :: _, [], i, p, h, k => by simp at k
  | x :: ρ, y :: σ, 0, p, h, k => by
    have h' := Option.some.inj h
    have k' := Option.some.inj k
    subst h' k'
    exact List.mem_append_left _ (List.mem_singleton.mpr rfl)
  | x :: ρ, y :: σ, i + 1, p, h, k => List.mem_append_right _ (mem_drs (ρ := ρ) (σ := σ) h k)
theorem args_rep (I : DI c U H σ ρ) : ∀ {as : List Arg} {vs : List V} {avs : List AV}, Paired (ArgR c.K U σ) as vs → argsAV ρ as = some avs → Paired (RepA c.K U H) avs vs ∧ (∀ p ∈ ownAs avs vs, p ∈ drs ρ σ) ∧ (ownAs avs vs).length = slots as
  | _, _, avs, .nil, e => by
    cases e
    exact ⟨.nil, fun p hp => (by cases hp), rfl⟩
  | a :: as, v :: vs, avs, .cons h t, e => by
    unfold argsAV at e
    cases ea : argAV ρ a with
    | none => rw [ea] at e; cases e
    | some x =>
      rw [ea] at e
      cases es : argsAV ρ as with
      | none => rw [es] at e; cases e
      | some xs =>
        rw [es] at e
        cases e
        obtain ⟨k1, k2, k3⟩ := args_rep I t es
        cases a with
        | val d =>
          cases ea
          exact ⟨.cons h k1, k2, k3⟩
        | slot i =>
          unfold argAV at ea
          dsimp only at ea
          split at ea
          · rename_i hρ
            cases ea
            obtain ⟨w, e1, e2, _⟩ := rep_at I.rep i _ hρ
            have hσ : σ[i]? = some (some v) := h
            rw [hσ] at e1
            have e' := Option.some.inj (Option.some.inj e1)
            subst e'
            obtain ⟨s, rfl, hd⟩ := id e2
            refine ⟨.cons e2 k1, fun p hp => ?_, ?_⟩
            · rcases List.mem_append.mp hp with z | z
              · rw [List.mem_singleton.mp z]
                exact mem_drs hρ hσ
              · exact k2 p z
            · show (own .dr (.ref s) ++ ownAs xs vs).length = slots as + 1
              rw [List.length_append, k3]
              show 1 + _ = _
              omega
          · cases ea
theorem dr_args {K : PySem.W.Frag} : ∀ {avs : List AV} {vs : List V}, Paired (RepA K U H) avs vs → (∀ a ∈ avs, a = .dr ∨ ∃ d, a = .fz d) → ∀ p ∈ ownAs avs vs, Dr U H p
  | _, _, .nil, _, p, hp => by cases hp
  | a :: as, v :: vs, .cons h t, k, p, hp => by
    rcases List.mem_append.mp hp with z | z
    · rcases k a List.mem_cons_self with rfl | ⟨d, rfl⟩
      · obtain ⟨s, rfl, hd⟩ := h
        rw [List.mem_singleton.mp z]
        exact hd
      · cases z
    · exact dr_args t (fun x hx => k x (List.mem_cons_of_mem _ hx)) p z
theorem args_kind : ∀ {as : List Arg} {avs : List AV}, argsAV ρ as = some avs → ∀ a ∈ avs, a = .dr ∨ ∃ d, a = .fz d
  | [], avs, e, a, ha => by cases e; cases ha
  | y :: as, avs, e, a, ha => by
    unfold argsAV at e
    cases ea : argAV ρ y with
    | none => rw [ea] at e; cases e
    | some x =>
      rw [ea] at e
      cases es : argsAV ρ as with
      | none => rw [es] at e; cases e
      | some xs =>
        rw [es] at e
        cases e
        rcases List.mem_cons.mp ha with rfl | ha
        · cases y with
          | val d => cases ea; exact .inr ⟨d, rfl⟩
          | slot i =>
            unfold argAV at ea
            dsimp only at ea
            split at ea
            · cases ea; exact .inl rfl
            · cases ea
        · exact args_kind es a ha
def callQ (A : AF) (ρ : Env) (Q : AV → Prop) (X : Exn → Prop) (as : List Arg) : Prop := slots as ≤ 1 ∧ match argsAV ρ as with
  | some avs => A avs Q X
  | none => False
theorem callQ_of {A : AF} {Q : AV → Prop} {X : Exn → Prop} {as : List Arg} (h : callQ A ρ Q X as) : slots as ≤ 1 ∧ ∃ avs, argsAV ρ as = some avs ∧ A avs Q X := by
  obtain ⟨h1, h2⟩ := h
  refine ⟨h1, ?_⟩
  cases e : argsAV ρ as with
  | none => rw [e] at h2; exact h2.elim
  | some avs => rw [e] at h2; exact ⟨avs, rfl, h2⟩
/-- the promise of a def, called where DI stands -/
theorem run_spD {A : AF} {as : List Arg} {vs : List V} {Q : AV → Prop} {q : VK} {E : XK} {X : Exn → Prop} (I : DI c U H σ ρ) (r : Paired (ArgR c.K U σ) as vs) (h : callQ A ρ Q X as)
    (k : ∀ U' H' av v, Gr (drs ρ σ) U H U' H' → DI c U' H' σ ρ → RepA c.K U' H' av v → Fresh U' H av v → Q av → q v H')
    (kx : ∀ U' H' x cls o, DI c U' H' σ ρ → XRep c.K U' H' x cls o → X x → E cls o H') : spD c.K c.tb A vs H q E := by
  obtain ⟨h1, avs, h2, h3⟩ := callQ_of h
  obtain ⟨k1, k2, k3⟩ := args_rep I r h2
  have kd := args_kind h2
  refine ⟨U, avs, Q, X, I.vh, I.tbs, k1, kd, by omega, h3, fun U' H' av v g r' n hd z => ?_, fun U' H' x cls o g xr hd z => ?_⟩
  · exact k U' H' av v (g.weak k2) (I.step g fun p hp => ⟨k2 p hp, hd p hp⟩) r' n z
  · exact kx U' H' x cls o (I.step g fun p hp => ⟨k2 p hp, hd p hp⟩) xr z
def aCall (A : AF) (r : AA) : AO := fun ρ Q X => r ρ (callQ A ρ Q X) X
def aCall0 (A : AF) (r : AA) : AO := fun ρ Q X => r ρ (callQ A ρ Q fun _ => False) X
section
variable {A : AF} {tr tk : TA} {r rk : AA}
theorem sim_call {E : XK} (hr : SimA c tr r) : SimO c (tCall (spD c.K c.tb A) [] E tr) (aCall0 A r) := fun U H σ ρ Q q I z k =>
  hr U H σ ρ _ _ I z fun U1 H1 as vs g1 I1 r1 z1 => by
    rw [List.append_nil]
    exact run_spD I1 r1 z1 (fun U2 H2 av v g2 I2 r2 n2 z2 => k U2 H2 av v (g1.trans g2) I2 r2 (n2.back fun _ h => g1.fresh h) z2) (fun _ _ _ _ _ _ _ z => z.elim)
theorem sim_callS {E : L2.St → XK} (hE : ∀ σ, E σ = c.E σ) (hr : SimA c tr r) : SimO c (tCallS (spD c.K c.tb A) E tr) (aCall A r) := fun U H σ ρ Q q I z k =>
  hr U H σ ρ _ _ I z fun U1 H1 as vs g1 I1 r1 z1 =>
    run_spD I1 r1 z1 (fun U2 H2 av v g2 I2 r2 n2 z2 => k U2 H2 av v (g1.trans g2) I2 r2 (n2.back fun _ h => g1.fresh h) z2) (fun U2 H2 x cls o I2 xr z => by rw [hE]; exact I2.raise xr z)
end
section
variable {st su : TS} {sa sb : AS} {tt : TT} {at' : AT} {o : AO}
def aNext : AS := fun N ρ => N.nx ρ
def aSeq (a b : AS) : AS := fun N ρ => a ⟨fun ρ' => b N ρ', N.rt, N.bk, N.ct, N.ex⟩ ρ
def aSet (i : Nat) (e : AE) : AS := fun N ρ => e ρ (fun d => N.nx (ρ.set i (some (.fz d)))) (fun x => N.ex x ρ)
def aSetO (i : Nat) (e : AO) : AS := fun N ρ => e ρ (fun av => N.nx (ρ.set i (some av))) (fun x => N.ex x ρ)
def aDrop (e : AE) : AS := fun N ρ => e ρ (fun _ => N.nx ρ) (fun x => N.ex x ρ)
def aRet (e : AE) : AS := fun N ρ => e ρ (fun d => N.rt (.fz d) ρ) (fun x => N.ex x ρ)
def aRetO (e : AO) : AS := fun N ρ => e ρ (fun av => N.rt av ρ) (fun x => N.ex x ρ)
def aRetN : AS := fun N ρ => N.rt (.fz .non) ρ
def aRetV (i : Nat) : AS := fun N ρ => match ρ[i]? with
  | some (some .dr) => False
  | some (some av) => N.rt av (ρ.set i none)
  | _ => False
def aIf (t : AT) (a b : AS) : AS := fun N ρ => t ρ (fun x => cond x (a N ρ) (b N ρ)) (fun x => N.ex x ρ)
def aBrk : AS := fun N ρ => N.bk ρ
def aCnt : AS := fun N ρ => N.ct ρ
def aRaise (C : Addr) : AS := fun N ρ => N.ex ⟨C, [], []⟩ ρ
theorem sim_next : SimS c tNext aNext := fun U H σ ρ N n hx I h P => P.nx U H σ ρ (Same.refl U) I h
theorem sim_seq (ha : SimS c st sa) (hb : SimS c su sb) : SimS c (tSeq st su) (aSeq sa sb) := fun U H σ ρ N n hx I h P =>
  ha U H σ ρ ⟨fun ρ' => sb N ρ', N.rt, N.bk, N.ct, N.ex⟩ _ hx I h ⟨fun U' H' σ' ρ' s I' h' => hb U' H' σ' ρ' N n hx I' h' (P.mono s), P.rt, P.bk, P.ct⟩
theorem sim_set (hi : noPar c i = true) (h : SimE c t e) : SimS c (tAsg t (gName i)) (aSet i e) := fun U H σ ρ N n hx I z P => by
  unfold aSet at z
  rw [hx] at z
  exact h U H σ ρ _ _ I z fun U1 H1 d v g1 I1 r1 z1 => P.nx U1 H1 _ _ g1.vv (I1.setF r1 hi) z1
theorem sim_setO (hi : noPar c i = true) (h : SimO c t o) : SimS c (tAsg t (gName i)) (aSetO i o) := fun U H σ ρ N n hx I z P => by
  unfold aSetO at z
  rw [hx] at z
  exact h U H σ ρ _ _ I z fun U1 H1 av v g1 I1 r1 n1 z1 => P.nx U1 H1 _ _ g1.vv (I1.setO r1 n1.nd (fun p hp => ⟨(n1.out p hp).1, I.gr.fresh (n1.out p hp).2, fun z => I.ex p z (n1.out p hp).2⟩) hi) z1
theorem sim_drop (h : SimE c t e) : SimS c (tDrop t) (aDrop e) := fun U H σ ρ N n hx I z P => by
  unfold aDrop at z
  rw [hx] at z
  exact h U H σ ρ _ _ I z fun U1 H1 d v g1 I1 r1 z1 => P.nx U1 H1 _ _ g1.vv I1 z1
theorem sim_ret (h : SimE c t e) : SimS c (tRet t) (aRet e) := fun U H σ ρ N n hx I z P => by
  unfold aRet at z
  rw [hx] at z
  exact h U H σ ρ _ _ I z fun U1 H1 d v g1 I1 r1 z1 => P.rt U1 H1 σ ρ (.fz d) v I1 r1 (Fresh.fz (U' := U1) (H := H1)).nd (fun p hp => by cases v <;> cases hp) z1
theorem sim_retO (h : SimO c t o) : SimS c (tRet t) (aRetO o) := fun U H σ ρ N n hx I z P => by
  unfold aRetO at z
  rw [hx] at z
  exact h U H σ ρ _ _ I z fun U1 H1 av v g1 I1 r1 n1 z1 => P.rt U1 H1 σ ρ av v I1 r1 n1.nd (fun p hp => ⟨(n1.out p hp).1, I.gr.fresh (n1.out p hp).2, fun z => I.ex p z (n1.out p hp).2⟩) z1
theorem sim_if (ht : SimT c tt at') (ha : SimS c st sa) (hb : SimS c su sb) : SimS c (tIfS tt st su) (aIf at' sa sb) := fun U H σ ρ N n hx I z P => by
  unfold aIf at z
  rw [hx] at z
  refine ht U H σ ρ _ _ I z fun U1 H1 x g1 I1 z1 => ?_
  cases x with
  | true => exact i_itT (ha U1 H1 σ ρ N n hx I1 z1 (P.mono g1.vv))
  | false => exact i_itF (hb U1 H1 σ ρ N n hx I1 z1 (P.mono g1.vv))
def tRaise0 (C : Addr) (E : XK) : TS := fun _ _ H => E (.ref C) none H
theorem sim_raise {C : Addr} {E : XK} (hE : ∀ σ, E = c.E σ) : SimS c (tRaise0 C E) (aRaise C) := fun U H σ ρ N n hx I z P => by
  have z' : N.ex ⟨C, [], []⟩ ρ := z
  rw [hx] at z'
  show E (.ref C) none H
  rw [hE σ]
  exact I.raise (x := ⟨C, [], []⟩) ⟨rfl, .inl ⟨rfl, rfl⟩⟩ z'
/-- a slot is let go -/
theorem DI.unset (I : DI c U H σ ρ) (i : Nat) (hi : noPar c i = true) : DI c U H σ (ρ.set i none) := by
  have e : ∀ (ρ : Env) (σ : L2.St) (i : Nat), Paired (RepS c.K U H) ρ σ → Paired (RepS c.K U H) (ρ.set i none) σ ∧ (owns (ρ.set i none) σ).Sublist (owns ρ σ) := by
    intro ρ
    induction ρ with
    | nil => intro σ i h; exact ⟨h, List.Sublist.refl _⟩
    | cons x ρ ih =>
      intro σ i h
      cases h with
      | @cons _ y _ σ h t =>
        cases i with
        | zero =>
          refine ⟨.cons trivial t, ?_⟩
          show (ownS none y ++ owns ρ σ).Sublist (ownS x y ++ owns ρ σ)
          exact List.sublist_append_right _ _
        | succ i =>
          obtain ⟨k1, k2⟩ := ih σ i t
          refine ⟨.cons h k1, ?_⟩
          show (ownS x y ++ owns (ρ.set i none) σ).Sublist (ownS x y ++ owns ρ σ)
          exact List.Sublist.append_left k2 _
  obtain ⟨k1, k2⟩ := e ρ σ i I.rep
  exact ⟨I.gr, k1, k2.nodup I.nd, fun p hp => I.out p (k2.mem hp), par_set rfl (sel_set _ _ _ _ (noPar_of hi)) I.par, I.ko, fun k av w e1 e2 p hp => I.ow k av w (by
    rw [List.getElem?_set] at e1
    split at e1
    · split at e1 <;> simp at e1
    · exact e1) e2 p hp, I.on⟩
/-- it is in no other slot -/
theorem own_unset : ∀ {ρ : Env} {σ : L2.St} {i : Nat} {av : AV} {v : V}, (owns ρ σ).Nodup → ρ[i]? = some (some av) → σ[i]? = some (some v) → ∀ p ∈ own av v, p ∉ owns (ρ.set i none) σ
  | [], _, i, av, v, nd, h, k, p, hp => by simp at h
  | _ :: _, [], i, av, v, nd, h, k, p, hp => by simp at k
  | x :: ρ, y :: σ, 0, av, v, nd, h, k, p, hp => by
    have h' := Option.some.inj h
    have k' := Option.some.inj k
    subst h' k'
    intro z
    have z' : p ∈ ([] : List Addr) ++ owns ρ σ := z
    have nd' : (own av v ++ owns ρ σ).Nodup := nd
    exact (List.nodup_append.mp nd').2.2 p hp p z' rfl
  | x :: ρ, y :: σ, i + 1, av, v, nd, h, k, p, hp => by
    intro z
    have nd' : (ownS x y ++ owns ρ σ).Nodup := nd
    obtain ⟨n1, n2, n3⟩ := List.nodup_append.mp nd'
    have z' : p ∈ ownS x y ++ owns (ρ.set i none) σ := z
    rcases List.mem_append.mp z' with z' | z'
    · exact n3 p z' p (mem_owns (ρ := ρ) (σ := σ) h k p hp) rfl
    · exact own_unset n2 h k p hp z'
theorem own_nd : ∀ {ρ : Env} {σ : L2.St} {i : Nat} {av : AV} {v : V}, (owns ρ σ).Nodup → ρ[i]? = some (some av) → σ[i]? = some (some v) → (own av v).Nodup
  | [], _, i, av, v, nd, h, k => by simp at h
  | _ :: _, [], i, av, v, nd, h, k => by simp at k
  | x :: ρ, y :: σ, 0, av, v, nd, h, k => by
    have h' := Option.some.inj h
    have k' := Option.some.inj k
    subst h' k'
    exact (List.nodup_append.mp (show (own av v ++ owns ρ σ).Nodup from nd)).1
  | x :: ρ, y :: σ, i + 1, av, v, nd, h, k => own_nd (List.nodup_append.mp (show (ownS x y ++ owns ρ σ).Nodup from nd)).2.1 h k
theorem sim_retV (hi : noPar c i = true) : SimS c (tRet (tVar i)) (aRetV i) := fun U H σ ρ N n hx I z P => by
  unfold aRetV at z
  split at z
  · exact z.elim
  · rename_i av _ e
    obtain ⟨v, e1, r, m⟩ := rep_at I.rep i av e
    exact ⟨v, e1, P.rt U H σ (ρ.set i none) av v (I.unset i hi) r (own_nd I.nd e e1) (fun p hp => ⟨(I.out p (m p hp)).1, I.nw i av v hi e e1 p hp, own_unset I.nd e e1 p hp⟩) z⟩
  · exact z.elim
theorem reps_mut {K : PySem.W.Frag} {p : Addr} {o : HO} {ρ : Env} {σ : L2.St} (hu : ∀ q ∈ owns ρ σ, U q = none) (np : p ∉ owns ρ σ) (h : Paired (RepS K U H) ρ σ) : Paired (RepS K U (upd H p o)) ρ σ :=
  reps_keep (Same.refl U) (fun q hq => ⟨upd_ne (fun z => np (z ▸ hq)), hu q hq⟩) h
theorem set_same : ∀ {σ : L2.St} {i : Nat} {x : Option V}, σ[i]? = some x → σ.set i x = σ
  | [], _, _, h => by simp at h
  | y :: σ, 0, x, h => by rw [← Option.some.inj h]; rfl
  | y :: σ, i + 1, x, h => congrArg (y :: ·) (set_same (σ := σ) h)
/-- the thing in slot i becomes another of its kind: its places are those it had, or new -/
theorem DI.mutA {av av' : AV} {v : V} {H' : Hp} (I : DI c U H σ ρ) (h : ρ[i]? = some (some av)) (hs : σ[i]? = some (some v)) (kd : av'.kind = av.kind) (g : Gr (own av v) U H U H') (r : RepA c.K U H' av' v) (nd : (own av' v).Nodup) (ho : ∀ p ∈ own av' v, p ∈ own av v ∨ (H p = none ∧ U p = none)) :
    DI c U H' σ (ρ.set i (some av')) := by
  have m := mem_owns (ρ := ρ) (σ := σ) h hs
  have nu := own_unset I.nd h hs
  have hu : ∀ p ∈ own av' v, U p = none ∧ (p ∈ c.M ∨ c.H0 p = none) := fun p hp => by
    rcases ho p hp with z | z
    · exact I.out p (m p z)
    · exact ⟨z.2, .inr (I.gr.fresh z.1)⟩
  have sub : ∀ q ∈ owns (ρ.set i none) σ, q ∈ owns ρ σ := fun q hq => by
    have := owns_set_mem ρ σ i none (some v) q
    rw [set_same hs] at this
    rcases this hq with z | z
    · exact z
    · cases z
  have nd0 : (owns (ρ.set i none) σ).Nodup := by
    have := (owns_set_sub ρ σ i none (some v) rfl).nodup I.nd
    rwa [set_same hs] at this
  have rp0 : Paired (RepS c.K U H') (ρ.set i none) σ := by
    have k0 := Paired.setAt (F := RepS c.K U H) (show RepS c.K U H none (some v) from trivial) i I.rep
    rw [set_same hs] at k0
    exact reps_keep (Same.refl U) (fun q hq => ⟨keep_at g (I.pl q (sub q hq)) (fun z => nu q z hq), (I.out q (sub q hq)).1⟩) k0
  have hr : Paired (RepS c.K U H') (ρ.set i (some av')) σ := by
    have k := Paired.setAt (F := RepS c.K U H') (show RepS c.K U H' (some av') (some v) from r) i rp0
    rwa [List.set_set, set_same hs] at k
  have np : ∀ q ∈ own av' v, q ∉ owns (ρ.set i none) σ := fun q hq z => by
    rcases ho q hq with y | y
    · exact nu q y z
    · exact I.ex q (sub q z) y.1
  have hn : (owns (ρ.set i (some av')) σ).Nodup := by
    have k := owns_set_nd (ρ.set i none) σ i (some av') (some v) nd0 nd np
    rwa [List.set_set, set_same hs] at k
  refine ⟨⟨I.gr.vv, g.vh, fun a o ma nn ha => ?_, fun a ha => g.dom a (I.gr.dom a ha), I.gr.fr, fun P h => g.tb P (I.gr.tb P h), I.gr.nt⟩, hr, hn, fun q hq => ?_, ?_, I.ko, fun k av'' w e1 e2 q hq => ?_, I.on⟩
  · refine g.hh a o (fun z => ?_) nn (I.gr.hh a o ma nn ha)
    rcases (I.out a (m a z)).2 with y | y
    · exact ma y
    · rw [y] at ha
      cases ha
  · have k := owns_set_mem (ρ.set i none) σ i (some av') (some v) q
    rw [List.set_set, set_same hs] at k
    rcases k hq with k | k
    · exact I.out q (sub q k)
    · exact hu q k
  · obtain ⟨p1, avs, p2, p3⟩ := I.par
    refine ⟨p1, ?_⟩
    have go : ∀ (ks : List Bool) (ρ : Env) (i : Nat) (avs : List AV), ρ[i]? = some (some av) → selM ks ρ = avs.map some → ∃ bs : List AV, selM ks (ρ.set i (some av')) = bs.map some ∧ bs.map AV.kind = avs.map AV.kind := by
      intro ks
      induction ks with
      | nil =>
        intro ρ i avs _ e
        refine ⟨avs, ?_, rfl⟩
        rw [← e]
        cases ρ <;> cases i <;> rfl
      | cons b ks ih =>
        intro ρ i avs h e
        cases ρ with
        | nil => simp at h
        | cons a ρ =>
          cases i with
          | zero =>
            have h' := Option.some.inj h
            subst h'
            cases b with
            | false => exact ⟨avs, e, rfl⟩
            | true =>
              cases avs with
              | nil => cases e
              | cons a0 avs =>
                have e' := List.cons.inj e
                obtain ⟨g1, g2⟩ := e'
                cases g1
                exact ⟨av' :: avs, by rw [List.map_cons, ← g2]; rfl, by rw [List.map_cons, List.map_cons, kd]⟩
          | succ i =>
            cases b with
            | false => exact ih ρ i avs h e
            | true =>
              cases avs with
              | nil => cases e
              | cons a0 avs =>
                have e' := List.cons.inj e
                obtain ⟨g1, g2⟩ := e'
                obtain ⟨bs, k1, k2⟩ := ih ρ i avs h g2
                exact ⟨a0 :: bs, by show a :: selM ks (ρ.set i (some av')) = _; rw [k1, g1]; rfl, by rw [List.map_cons, List.map_cons, k2]⟩
    obtain ⟨bs, k1, k2⟩ := go c.ks ρ i avs h p2
    exact ⟨bs, k1, k2.trans p3⟩
  · by_cases z : i = k
    · subst z
      rw [hs] at e2
      have e' := Option.some.inj (Option.some.inj e2)
      subst e'
      rw [List.getElem?_set] at e1
      simp at e1
      rw [← e1.2] at hq
      rcases ho q hq with y | y
      · exact I.ow i av _ h hs q y
      · exact .inr (I.gr.fresh y.1)
    · rw [List.getElem?_set_ne z] at e1
      exact I.ow k av'' w e1 e2 q hq
theorem gr_upd {p : Addr} {o : HO} {as : List Addr} (s : Same U H) (hu : U p = none) (hp : p ∈ as) (pl : Pl H p) : Gr as U H U (upd H p o) :=
  (Gr.refl s).mut hu (.inl hp) pl
theorem DI.mut {av av' : AV} {p : Addr} {o : HO} (I : DI c U H σ ρ) (h : ρ[i]? = some (some av)) (kd : av'.kind = av.kind) (hs : σ[i]? = some (some (.ref p))) (ho : own av (.ref p) = [p]) (ho' : own av' (.ref p) = [p]) (r : RepA c.K U (upd H p o) av' (.ref p)) :
    DI c U (upd H p o) σ (ρ.set i (some av')) := by
  have mp : p ∈ own av (.ref p) := by rw [ho]; exact List.mem_singleton.mpr rfl
  exact I.mutA h hs kd (gr_upd I.vh (I.out p (mem_owns h hs p mp)).1 mp (I.pl p (mem_owns h hs p mp))) r (by rw [ho']; simp) (fun q hq => by rw [ho'] at hq; rw [List.mem_singleton.mp hq]; exact .inl mp)
end
end
end SW
namespace SW
open PySem PySem.Spec PyProof.Rows L2
variable [QN]
section
variable {c : DC} {U H U' H' : Hp} {σ : L2.St} {ρ : Env} {t u ta tb tc te ti : TE} {e a b ai : AE} {i j : Nat} {d : D} {v : V} {st su : TS} {sa sb : AS} {tt : TT} {at' : AT} {o : AO}
def olQ (ρ : Env) (i : Nat) (Q : List D → Prop) : Prop := match ρ[i]? with
  | some (some (.ol ds)) => Q ds
  | _ => False
theorem olQ_of {Q : List D → Prop} (h : olQ ρ i Q) : ∃ ds, ρ[i]? = some (some (.ol ds)) ∧ Q ds := by
  unfold olQ at h
  split at h
  · exact ⟨_, by assumption, h⟩
  · exact h.elim
theorem ol_at {ds : List D} (I : DI c U H σ ρ) (h : ρ[i]? = some (some (.ol ds))) : ∃ p xs, σ[i]? = some (some (.ref p)) ∧ H p = some (.lst xs) ∧ Rs c.K U ds xs := by
  obtain ⟨v, e1, ⟨p, xs, rfl, e2, e3⟩, _⟩ := rep_at I.rep i _ h
  exact ⟨p, xs, e1, e2, e3⟩
theorem DI.mutL {ds ds' : List D} {p : Addr} {xs' : List V} (I : DI c U H σ ρ) (h : ρ[i]? = some (some (.ol ds))) (hs : σ[i]? = some (some (.ref p))) (r : Rs c.K U ds' xs') : DI c U (upd H p (.lst xs')) σ (ρ.set i (some (.ol ds'))) :=
  I.mut h rfl hs rfl rfl ⟨p, xs', rfl, upd_same, r⟩
def aApp (i : Nat) (e : AE) : AS := fun N ρ => olQ ρ i fun _ => e ρ (fun d => olQ ρ i fun ds => ds.length < 1000000 ∧ N.nx (ρ.set i (some (.ol (ds ++ [d]))))) (fun x => N.ex x ρ)
theorem sim_app (he : SimE c te e) : SimS c (tDrop (tBM c.K "list" rAppend (tVar i) (tCons te tNil))) (aApp i e) := fun U H σ ρ N n hx I z P => by
  obtain ⟨ds0, e0, z⟩ := olQ_of z
  rw [hx] at z
  obtain ⟨p, xs, hs, hp, hr⟩ := ol_at I e0
  refine ⟨.ref p, hs, .inl ⟨rfl, xs, SqL.of hp⟩, he U H σ ρ _ _ I z fun U1 H1 d v g1 I1 r1 z1 => ?_⟩
  obtain ⟨ds, e1, z2, z3⟩ := olQ_of z1
  obtain ⟨p', xs', hs', hp', hr'⟩ := ol_at I1 e1
  rw [hs] at hs'
  have e' := V.ref.inj (Option.some.inj (Option.some.inj hs'))
  subst e'
  exact ⟨p, xs', v, rfl, rfl, hp', lt_size (by rw [← hr'.len]; exact z2), P.nx U1 _ σ _ g1.vv (I1.mutL e1 hs (hr'.snoc r1)) z3⟩
def ixQ (n : Nat) (Q : Nat → Prop) : D → Prop
  | .int z => match ixN n z with
    | some j => Q j
    | none => False
  | _ => False
theorem ixQ_of {n : Nat} {Q : Nat → Prop} {d : D} (h : ixQ n Q d) : ∃ z j, d = .int z ∧ ixN n z = some j ∧ Q j := by
  cases d with
  | int z =>
    simp only [ixQ] at h
    cases e : ixN n z with
    | none => rw [e] at h; exact h.elim
    | some j => rw [e] at h; exact ⟨z, j, rfl, e, h⟩
  | _ => exact h.elim
/-- x[k] = e -/
def aPut (i : Nat) (ai e : AE) : AS := fun N ρ => olQ ρ i fun _ => e ρ (fun d => ai ρ (fun k => olQ ρ i fun ds => ixQ ds.length (fun j => N.nx (ρ.set i (some (.ol (ds.set j d))))) k) (fun x => N.ex x ρ)) (fun x => N.ex x ρ)
theorem sim_put (he : SimE c te e) (hi : SimW c ti ai) : SimS c (tAsg te (gSub (tVar i) ti rSetL)) (aPut i ai e) := fun U H σ ρ N n hx I z P => by
  obtain ⟨ds0, e0, z⟩ := olQ_of z
  rw [hx] at z
  obtain ⟨p, xs, hs, hp, hr⟩ := ol_at I e0
  refine he U H σ ρ _ _ I z fun U1 H1 d v g1 I1 r1 z1 => ?_
  refine ⟨.ref p, hs, hi U1 H1 σ ρ _ _ I1 z1 fun U2 H2 k w g2 I2 r2 z2 => ?_⟩
  obtain ⟨ds, e1, z3⟩ := olQ_of z2
  obtain ⟨y, m, rfl, e2, z4⟩ := ixQ_of z3
  obtain ⟨p', xs', hs', hp', hr'⟩ := ol_at I2 e1
  rw [hs] at hs'
  have e' := V.ref.inj (Option.some.inj (Option.some.inj hs'))
  subst e'
  exact ⟨p, xs', y, m, rfl, (r2.cr I2).int, hp', by rw [← hr'.len]; exact e2, P.nx U2 _ σ _ (g1.vv.trans g2.vv) (I2.mutL e1 hs (hr'.set m (R.mono g2.vv d v r1))) z4⟩
def lstQ (Q : List D → Prop) : D → Prop
  | .lst ds => Q ds
  | _ => False
theorem lstQ_of {Q : List D → Prop} {d : D} (h : lstQ Q d) : ∃ ds, d = .lst ds ∧ Q ds := by
  cases d <;> first | exact ⟨_, rfl, h⟩ | exact h.elim
def tupQ (Q : List D → Prop) : D → Prop
  | .tup ds => Q ds
  | _ => False
/-- x += e of lists -/
def aExt (i : Nat) (e : AE) : AS := fun N ρ => olQ ρ i fun _ => e ρ (lstQ fun es => olQ ρ i fun ds => ds.length + es.length ≤ 1000000 ∧ N.nx (ρ.set i (some (.ol (ds ++ es))))) (fun x => N.ex x ρ)
def gN (i : Nat) : AG := fun d ρ Q => Q (ρ.set i (some (.fz d)))
theorem drs_set : ∀ (ρ : Env) (σ : L2.St) (i : Nat) (x : Option AV) (y : Option V), drS x y = [] → ∀ p ∈ drs (ρ.set i x) (σ.set i y), p ∈ drs ρ σ
  | [], _, _, _, _, _, p, hp => by simp [drs] at hp
  | _ :: _, [], i, _, _, _, p, hp => by cases i <;> simp [drs] at hp
  | a :: ρ, b :: σ, 0, x, y, h, p, hp => by
    have hp' : p ∈ drS x y ++ drs ρ σ := hp
    rw [h] at hp'
    exact List.mem_append_right _ hp'
  | a :: ρ, b :: σ, i + 1, x, y, h, p, hp => by
    have hp' : p ∈ drS a b ++ drs (ρ.set i x) (σ.set i y) := hp
    rcases List.mem_append.mp hp' with z | z
    · exact List.mem_append_left _ z
    · exact List.mem_append_right _ (drs_set ρ σ i x y h p z)
theorem put_set {i : Nat} {d : D} {v : V} : Put [i] σ (σ.set i (some v)) ρ (ρ.set i (some (.fz d))) :=
  ⟨List.length_set, fun k hk => List.getElem?_set_ne (fun z => hk (by rw [z]; exact List.mem_singleton.mpr rfl)), drs_set ρ σ i _ _ rfl, fun k hk => List.getElem?_set_ne (fun z => hk (by rw [z]; exact List.mem_singleton.mpr rfl)), fun p hp => (owns_set_sub ρ σ i _ _ rfl).mem hp⟩
theorem Put.trans {js ks : List Nat} {σ1 σ2 σ3 : L2.St} {ρ1 ρ2 ρ3 : Env} (a : Put js σ1 σ2 ρ1 ρ2) (b : Put ks σ2 σ3 ρ2 ρ3) : Put (js ++ ks) σ1 σ3 ρ1 ρ3 :=
  ⟨b.len.trans a.len, fun k hk => (b.at' k fun z => hk (List.mem_append_right _ z)).trans (a.at' k fun z => hk (List.mem_append_left _ z)), fun p hp => a.dr p (b.dr p hp), fun k hk => (b.rat k fun z => hk (List.mem_append_right _ z)).trans (a.rat k fun z => hk (List.mem_append_left _ z)), fun p hp => a.ow p (b.ow p hp)⟩
theorem sim_gN (hi : noPar c i = true) : SimG c [i] (gName i) (gN i) := fun U H σ ρ d v Q q I r z k => k _ _ (I.setF r hi) put_set z
abbrev AGs := List D → Env → (Env → Prop) → Prop
def SimGs (c : DC) (js : List Nat) (g : TGs) (a : AGs) : Prop := ∀ (U H : Hp) (σ : L2.St) (ρ : Env) (ds : List D) (vs : List V) (Q : Env → Prop) (q : L2.St → Hp → Prop), DI c U H σ ρ → Rs c.K U ds vs → a ds ρ Q →
  (∀ σ' ρ', DI c U H σ' ρ' → Put js σ σ' ρ ρ' → Q ρ' → q σ' H) → g vs σ H q
def gsNil : AGs := fun ds ρ Q => match ds with | [] => Q ρ | _ => False
def gsCons (g : AG) (r : AGs) : AGs := fun ds ρ Q => match ds with | d :: ds => g d ρ (fun ρ' => r ds ρ' Q) | [] => False
def gT (n : Nat) (r : AGs) : AG := fun d ρ Q => match d with | .tup ds => ds.length = n ∧ r ds ρ Q | _ => False
theorem sim_gsNil : SimGs c [] gNil gsNil := fun U H σ ρ ds vs Q q I r z k => by
  cases ds with
  | nil => exact ⟨r, k σ ρ I ⟨rfl, fun _ _ => rfl, fun _ h => h, fun _ _ => rfl, fun _ h => h⟩ z⟩
  | cons d ds => exact z.elim
theorem sim_gsCons {js ks : List Nat} {g : TG} {gs : TGs} {ag : AG} {ags : AGs} (h : SimG c js g ag) (hs : SimGs c ks gs ags) : SimGs c (js ++ ks) (gCons g gs) (gsCons ag ags) := fun U H σ ρ ds vs Q q I r z k => by
  cases ds with
  | nil => exact z.elim
  | cons d ds =>
    obtain ⟨v, vs', rfl, r1, r2⟩ := r
    exact ⟨v, vs', rfl, h U H σ ρ d v _ _ I r1 z fun σ1 ρ1 I1 p1 z1 => hs U H σ1 ρ1 ds vs' Q q I1 r2 z1 fun σ2 ρ2 I2 p2 z2 => k σ2 ρ2 I2 (p1.trans p2) z2⟩
theorem sim_gT {js : List Nat} {n : Nat} {gs : TGs} {ags : AGs} (hs : SimGs c js gs ags) : SimG c js (gTup c.K n gs) (gT n ags) := fun U H σ ρ d v Q q I r z k => by
  cases d with
  | tup ds =>
    obtain ⟨a, xs, rfl, h1, h2⟩ := r
    obtain ⟨z1, z2⟩ : ds.length = n ∧ ags ds ρ Q := z
    exact ⟨a, xs, rfl, Same.tup I.vh h1, by rw [← h2.len]; exact z1, hs U H σ ρ ds xs Q q I h2 z2 k⟩
  | _ => exact (show False from z).elim
def aAsg (e : AE) (g : AG) : AS := fun N ρ => e ρ (fun d => g d ρ N.nx) (fun x => N.ex x ρ)
/-- a, b = e, f -/
def twoQ (Q : D → D → Prop) : List D → Prop
  | [d, e] => Q d e
  | _ => False
theorem twoQ_of {Q : D → D → Prop} {ds : List D} (h : twoQ Q ds) : ∃ d e, ds = [d, e] ∧ Q d e := by
  unfold twoQ at h
  split at h
  · exact ⟨_, _, rfl, h⟩
  · exact h.elim
def aPar (i j : Nat) (r : AL) : AS := fun N ρ => r ρ (twoQ fun d e => N.nx ((ρ.set i (some (.fz d))).set j (some (.fz e)))) (fun x => N.ex x ρ)
def aAug (i : Nat) (f : D → D → (D → Prop) → Prop) (e : AE) : AS := fun N ρ => match ρ[i]? with
  | some (some (.fz x)) => e ρ (fun y => f x y fun z => N.nx (ρ.set i (some (.fz z)))) (fun x => N.ex x ρ)
  | _ => False
def aLoop (g : AG) (b : AS) (N : AEnds) : List D → Env → Prop
  | [], ρ => N.nx ρ
  | d :: r, ρ => g d ρ (fun ρ2 => b ⟨aLoop g b N r, N.rt, N.nx, aLoop g b N r, N.ex⟩ ρ2)
def aFor (it : AL) (g : AG) (b : AS) : AS := fun N ρ => it ρ (fun ds => aLoop g b N ds ρ) (fun x => N.ex x ρ)
theorem drop_at {α : Type} {xs : List α} {i : Nat} {x : α} (h : xs[i]? = some x) : xs.drop i = x :: xs.drop (i + 1) := by
  obtain ⟨hi, e⟩ := List.getElem?_eq_some_iff.mp h
  rw [List.drop_eq_getElem_cons hi, e]
theorem sim_for {js : List Nat} {wi : TI} {it : AL} {g : TG} {ag : AG} (hi : SimI c wi it) (hg : SimG c js g ag) (hb : SimS c st sa) : SimS c (tFor wi g st) (aFor it ag sa) := fun U H σ ρ N n hx I z P => by
  unfold aFor at z
  rw [hx] at z
  refine hi U H σ ρ _ _ I z fun U1 H1 J ds g1 I1 W z1 => ?_
  obtain ⟨Y, w, hY⟩ := W
  refine for_it w (fun k σ' H' => ∃ U' ρ', Same U1 U' ∧ DI c U' H' σ' ρ' ∧ aLoop ag sa N (ds.drop k) ρ') ⟨U1, ρ, Same.refl U1, I1, z1⟩ (fun k σ' H' _ ⟨U', ρ', s, I', _⟩ => s.trans I'.vh) ?_ ?_
  · rintro k x σ' H' H'' hk ⟨U', ρ', s, I', z2⟩ hy
    have ed : ds[k]? = some ds[k] := List.getElem?_eq_getElem hk
    obtain ⟨U3, g3, r3⟩ := hY k H' x H'' _ U' s I'.vh hy ed
    rw [drop_at ed] at z2
    have I3 := I'.grow g3
    have s3 := s.trans g3.vv
    refine hg U3 H'' σ' ρ' _ x _ _ I3 r3 z2 fun σ4 ρ4 I4 _ z4 => ?_
    exact hb U3 H'' σ4 ρ4 ⟨aLoop ag sa N (ds.drop (k + 1)), N.rt, N.nx, aLoop ag sa N (ds.drop (k + 1)), N.ex⟩ _ hx I4 z4
      ⟨fun U5 H5 σ5 ρ5 s5 I5 z5 => ⟨U5, ρ5, s3.trans s5, I5, z5⟩, P.rt, fun U5 H5 σ5 ρ5 s5 I5 z5 => P.nx U5 H5 σ5 ρ5 (g1.vv.trans (s3.trans s5)) I5 z5, fun U5 H5 σ5 ρ5 s5 I5 z5 => ⟨U5, ρ5, s3.trans s5, I5, z5⟩⟩
  · rintro σ' H' ⟨U', ρ', s, I', z2⟩
    rw [List.drop_length] at z2
    exact P.nx U' H' σ' ρ' (g1.vv.trans s) I' z2
end
end SW
namespace SW
open PySem PySem.Spec PyProof.Rows L2
variable [QN]
section
variable {c : DC} {U H U' H' : Hp} {σ : L2.St} {ρ : Env} {t u ta tb tc te ti : TE} {e a b ai : AE} {i j : Nat} {d : D} {v : V} {st su : TS} {sa sb : AS} {tt : TT} {at' : AT} {o : AO}
theorem SimI.w {wi : TI} {it : AL} (h : SimI c wi it) : SimIW c wi it := fun U H σ ρ Q q I z k => h U H σ ρ Q q I z fun U1 H1 J ds g1 I1 W z1 => by
  obtain ⟨Y, w, hY⟩ := W
  exact k U1 H1 J ds g1 I1 ⟨Y, w.mono (fun H'' ⟨U'', g⟩ => g.vv.trans g.vh) (fun _ _ _ _ _ _ y => y), hY⟩ z1
theorem yat {K : PySem.W.Frag} {ds : List D} {xs : List V} (r : Rs K U ds xs) {i : Nat} {H H' U2 : Hp} {x : V} {d : D} (s : Same U U2) (s2 : Same U2 H) (h : YAt xs i H x H') (e : ds[i]? = some d) : ∃ U3, Gr [] U2 H U3 H' ∧ R K U3 d x := by
  obtain ⟨rfl, hx⟩ := h
  obtain ⟨d', e1, r1⟩ := r.at' i x hx
  rw [e] at e1
  have e' := Option.some.inj e1
  subst e'
  exact ⟨U2, Gr.refl s2, R.mono s d x r1⟩
def aItL (e : AE) : AL := fun ρ Q X => e ρ (lstQ Q) X
def aItT (e : AE) : AL := fun ρ Q X => e ρ (tupQ Q) X
/-- it is in no draw -/
theorem own_dr : ∀ {ρ : Env} {σ : L2.St} {i : Nat} {av : AV} {v : V}, (owns ρ σ).Nodup → ρ[i]? = some (some av) → σ[i]? = some (some v) → av ≠ .dr → ∀ p ∈ own av v, p ∉ drs ρ σ
  | [], _, i, av, v, nd, h, k, n, p, hp => by simp at h
  | _ :: _, [], i, av, v, nd, h, k, n, p, hp => by simp at k
  | x :: ρ, y :: σ, 0, av, v, nd, h, k, n, p, hp => by
    have h' := Option.some.inj h
    have k' := Option.some.inj k
    subst h' k'
    intro z
    have z' : p ∈ drS (some av) (some v) ++ drs ρ σ := z
    have nd' : (own av v ++ owns ρ σ).Nodup := nd
    rcases List.mem_append.mp z' with z' | z'
    · unfold drS at z'
      split at z'
      · rename_i e _
        exact n (Option.some.inj e)
      · cases z'
    · exact (List.nodup_append.mp nd').2.2 p hp p (drs_sub p z') rfl
  | x :: ρ, y :: σ, i + 1, av, v, nd, h, k, n, p, hp => by
    intro z
    have nd' : (ownS x y ++ owns ρ σ).Nodup := nd
    obtain ⟨n1, n2, n3⟩ := List.nodup_append.mp nd'
    have z' : p ∈ drS x y ++ drs ρ σ := z
    rcases List.mem_append.mp z' with z' | z'
    · have m1 : p ∈ ownS x y := by
        unfold drS at z'
        split at z'
        · exact z'
        · cases z'
      exact n3 p m1 p (mem_owns (ρ := ρ) (σ := σ) h k p hp) rfl
    · exact own_dr n2 h k n p hp z'
/-- a slot's own list, in a comprehension -/
theorem sim_itLW (h : SimW c te e) : SimIW c (iList c.K te) (aItL e) := fun U H σ ρ Q q I z k => h U H σ ρ _ _ I z fun U1 H1 d v g1 I1 w1 z1 => by
  obtain ⟨ds, rfl, z2⟩ := lstQ_of z1
  rcases w1 with r1 | ⟨k1, av, v0, b, h1, h2, h4, h3⟩
  · obtain ⟨p, xs, rfl, hp, hr⟩ := r1
    refine ⟨p, rfl, ⟨xs, SqL.of (I1.vh _ _ hp)⟩, k U1 H1 _ ds g1 I1 ⟨YAt xs, ?_, fun i H x H' d U2 s s2 y e => yat hr s s2 y e⟩ z2⟩
    rw [hr.len]
    exact walk_list.mono (fun H ⟨U'', g⟩ => SqL.of (g.vh _ _ (g.vv _ _ hp))) (fun _ _ _ _ _ _ y => y)
  · obtain ⟨w, e1, e2, m⟩ := rep_at I1.rep k1 av h1
    rw [h2] at e1
    have e' := Option.some.inj (Option.some.inj e1)
    subst e'
    have nd : av ≠ .dr := fun z => by
      subst z
      rw [h4.dr] at h3
      cases h3
    have key : ∀ p xs, v = .ref p → H1 p = some (.lst xs) → Rs c.K U1 ds xs → p ∉ drs ρ σ → iList c.K (tC v) σ H1 q := fun p xs ev hp hr np => by
      subst ev
      refine ⟨p, rfl, ⟨xs, SqL.of hp⟩, k U1 H1 _ ds g1 I1 ⟨YAt xs, ?_, fun i H x H' d U2 s s2 y e => yat hr s s2 y e⟩ z2⟩
      rw [hr.len]
      exact walk_list.mono (fun H ⟨U'', g⟩ => SqL.of (g.hh _ _ np (ntb rfl) hp)) (fun _ _ _ _ _ _ y => y)
    have np : ∀ p ∈ own b v, p ∉ drs ρ σ := fun p hp => own_dr I1.nd h1 h2 nd p (h4.own e2 p hp)
    have e2 := h4.rep e2
    cases b <;> cases h3
    · obtain ⟨p, xs, e3, e4, e5⟩ := e2
      refine key p xs e3 (I1.vh _ _ e4) e5 ?_
      intro z
      have := (I1.out p (drs_sub p z)).1
      rw [e4] at this
      cases this
    · obtain ⟨p, xs, e3, e4, e5⟩ := e2
      exact key p xs e3 e4 e5 (np p (by rw [e3]; exact List.mem_singleton.mpr rfl))
    · obtain ⟨p, e3, e4, e5⟩ := e2
      exact key p _ e3 e4 (seens_r e5) (np p (by rw [e3]; exact List.mem_cons_self))
def intQ (Q : Int → Prop) : D → Prop
  | .int i => Q i
  | _ => False
theorem intQ_of {Q : Int → Prop} {d : D} (h : intQ Q d) : ∃ i, d = .int i ∧ Q i := by
  cases d <;> first | exact ⟨_, rfl, h⟩ | exact h.elim
def oneQ (Q : D → Prop) : List D → Prop
  | [d] => Q d
  | _ => False
theorem oneQ_of {Q : D → Prop} {ds : List D} (h : oneQ Q ds) : ∃ d, ds = [d] ∧ Q d := by
  unfold oneQ at h
  split at h
  · exact ⟨_, rfl, h⟩
  · exact h.elim
theorem paired1 {α β : Type} {F : α → β → Prop} {x : α} {vs : List β} (h : Paired F [x] vs) : ∃ v, vs = [v] ∧ F x v := by
  cases h with
  | cons h t => cases t; exact ⟨_, rfl, h⟩
theorem paired2 {α β : Type} {F : α → β → Prop} {x y : α} {vs : List β} (h : Paired F [x, y] vs) : ∃ v w, vs = [v, w] ∧ F x v ∧ F y w := by
  cases h with
  | cons h t =>
    obtain ⟨w, rfl, k⟩ := paired1 t
    exact ⟨_, w, rfl, h, k⟩
def rngD (lo : Int) (n : Nat) : List D := (List.range n).map fun i => .int (lo + (i : Nat))
def aRng1 (r : AL) : AL := fun ρ Q X => r ρ (oneQ (intQ fun j => (-(2 ^ 62) ≤ j ∧ j < 2 ^ 62) ∧ Q (rngD 0 j.toNat))) X
def aRng2 (r : AL) : AL := fun ρ Q X => r ρ (twoQ fun d e => intQ (fun i => intQ (fun j => (-(2 ^ 62) ≤ i ∧ i < 2 ^ 62 ∧ -(2 ^ 62) ≤ j ∧ j < 2 ^ 62) ∧ Q (rngD i (j - i).toNat)) e) d) X
theorem walks_rng {K : PySem.W.Frag} {G : Hp → Prop} (lo : Int) (n : Nat) : Walks K U (Itr lo n) (rngD lo n) G := by
  refine ⟨YFn fun i => .int (lo + i), ?_, fun i H x H' d U2 s s2 y e => ?_⟩
  · rw [show (rngD lo n).length = n by unfold rngD; rw [List.length_map, List.length_range]]
    exact walk_range.mono (fun _ _ => trivial) (fun _ _ _ _ _ _ y => y)
  · obtain ⟨rfl, rfl⟩ := y
    refine ⟨U2, Gr.refl s2, ?_⟩
    unfold rngD at e
    rw [List.getElem?_map] at e
    cases e2 : (List.range n)[i]? with
    | none => rw [e2] at e; cases e
    | some k =>
      rw [e2] at e
      obtain ⟨hk, e3⟩ := List.getElem?_eq_some_iff.mp e2
      rw [List.getElem_range] at e3
      subst e3
      cases e
      rfl
theorem sim_rng1 {tr : TA} {r : AL} (h : SimLW c tr r) : SimI c (iRng1 tr) (aRng1 r) := fun U H σ ρ Q q I z k => h U H σ ρ _ _ I z fun U1 H1 ds vs g1 I1 w1 z1 => by
  obtain ⟨d, rfl, z2⟩ := oneQ_of z1
  obtain ⟨j, rfl, z3⟩ := intQ_of z2
  obtain ⟨v, rfl, w⟩ := paired1 w1
  exact ⟨j, by rw [(Wk.cr w I1).int], z3.1.1, z3.1.2, k U1 H1 _ _ g1 I1 (walks_rng 0 j.toNat) z3.2⟩
def zipD (xs ys : List D) : List D := (xs.zip ys).map fun p => .tup [p.1, p.2]
def enumD (xs : List D) : List D := zipD ((List.range xs.length).map fun i => .int (i : Nat)) xs
theorem zipD_at {xs ys : List D} {i : Nat} {d : D} (h : (zipD xs ys)[i]? = some d) : ∃ x y, d = .tup [x, y] ∧ xs[i]? = some x ∧ ys[i]? = some y := by
  unfold zipD at h
  rw [List.getElem?_map] at h
  cases e : (xs.zip ys)[i]? with
  | none => rw [e] at h; cases h
  | some p =>
    rw [e] at h
    obtain ⟨h1, h2⟩ := List.getElem?_zip_eq_some.mp e
    exact ⟨p.1, p.2, (Option.some.inj h).symm, h1, h2⟩
theorem pair_new {K : PySem.W.Frag} {U2 H : Hp} {T : Addr} {x y : V} {d e : D} (s : Same U2 H) (n : H T = none) (r : R K U2 d x) (r' : R K U2 e y) : ∃ U3, Gr [] U2 H U3 (upd H T (.tup [x, y])) ∧ R K U3 (.tup [d, e]) (.ref T) := by
  have g := (Gr.refl (M := []) s).new (o := .tup [x, y]) n
  exact ⟨_, g, R.tup upd_same ⟨x, [y], rfl, R.mono g.vv d x r, y, [], rfl, R.mono g.vv e y r', rfl⟩⟩
def aZip (r : AL) : AL := fun ρ Q X => r ρ (twoQ fun d e => lstQ (fun xs => lstQ (fun ys => Q (zipD xs ys)) e) d) X
def aEnum (r : AL) : AL := fun ρ Q X => r ρ (oneQ (lstQ fun xs => Q (enumD xs))) X
theorem sim_enum {tr : TA} {r : AL} (h : SimL c tr r) : SimI c (iEnum c.K tr) (aEnum r) := fun U H σ ρ Q q I z k => h U H σ ρ _ _ I z fun U1 H1 ds vs g1 I1 r1 z1 => by
  · obtain ⟨d0, rfl, z2⟩ := oneQ_of z1
    obtain ⟨xs, rfl, z1⟩ := lstQ_of z2
    obtain ⟨v, vs', rfl, r2, e0⟩ := r1
    obtain ⟨p, ys, rfl, hp, hr⟩ := r2
    obtain rfl : vs' = [] := e0
    refine ⟨p, ys, rfl, SqL.of (I1.vh _ _ hp), k U1 H1 _ _ g1 I1 ⟨YL (enumL ys), ?_, fun i H x H' d U2 s s2 y e => ?_⟩ z1⟩
    · rw [show (enumD xs).length = (enumL ys).length by unfold enumD zipD; rw [List.length_map, List.length_zip, List.length_map, List.length_range, Nat.min_self, enumL_len, hr.len]]
      exact walk_enumL.mono (fun H s => SqL.of (s _ _ hp)) (fun _ _ _ _ _ _ y => y)
    · obtain ⟨T, x', y', rfl, nT, rfl, ey⟩ := y
      obtain ⟨rfl, ey2⟩ := enumL_at ey
      obtain ⟨a1, b1, rfl, h1, h2⟩ := zipD_at e
      rw [List.getElem?_map] at h1
      obtain ⟨d', e3, r3⟩ := hr.at' i y' ey2
      rw [h2] at e3
      have e' := Option.some.inj e3
      subst e'
      have hi : i < xs.length := (List.getElem?_eq_some_iff.mp h2).1
      rw [List.getElem?_range hi] at h1
      cases h1
      exact pair_new s2 nT rfl (R.mono s _ _ r3)
theorem sim_zip {tr : TA} {r : AL} (h : SimL c tr r) : SimI c (iZip c.K tr) (aZip r) := fun U H σ ρ Q q I z k => h U H σ ρ _ _ I z fun U1 H1 ds vs g1 I1 r1 z1 => by
  · obtain ⟨d0, d1, rfl, z2⟩ := twoQ_of z1
    obtain ⟨xs, rfl, z3⟩ := lstQ_of z2
    obtain ⟨zs, rfl, z1⟩ := lstQ_of z3
    obtain ⟨v, vs', rfl, r2, w, vs'', rfl, r3, e0⟩ := r1
    obtain ⟨p, ys, rfl, hp, hr⟩ := r2
    obtain ⟨p2, ws, rfl, hp2, hr2⟩ := r3
    obtain rfl : vs'' = [] := e0
    refine ⟨p, p2, ys, ws, rfl, SqL.of (I1.vh _ _ hp), SqL.of (I1.vh _ _ hp2), k U1 H1 _ _ g1 I1 ⟨YL (ys.zip ws), ?_, fun i H x H' d U2 s s2 y e => ?_⟩ z1⟩
    · rw [show (zipD xs zs).length = (ys.zip ws).length by unfold zipD; rw [List.length_map, List.length_zip, List.length_zip, hr.len, hr2.len]]
      exact walk_zipL.mono (fun H s => ⟨SqL.of (s _ _ hp), SqL.of (s _ _ hp2)⟩) (fun _ _ _ _ _ _ y => y)
    · obtain ⟨T, x', y', rfl, nT, rfl, ey⟩ := y
      obtain ⟨ex, ey⟩ := List.getElem?_zip_eq_some.mp ey
      obtain ⟨a1, b1, rfl, h1, h2⟩ := zipD_at e
      obtain ⟨d', e3, r3⟩ := hr.at' i x' ex
      obtain ⟨d'', e4, r4⟩ := hr2.at' i y' ey
      rw [h1] at e3
      rw [h2] at e4
      have e' := Option.some.inj e3
      have e'' := Option.some.inj e4
      subst e' e''
      exact pair_new s2 nT (R.mono s _ _ r3) (R.mono s _ _ r4)
def wipeA (ρ : Env) : List Nat → Env
  | [] => ρ
  | v :: vs => (wipeA ρ vs).set v none
def aComp (g : AG) (tt : AT) (te : AE) (ρ : Env) (X : Exn → Prop) : List D → List D → (List D → Prop) → Prop
  | [], acc, Q => Q acc
  | d :: r, acc, Q => g d ρ (fun ρ2 => tt ρ2 (fun b => cond b (te ρ2 (fun y => acc.length < 1000000 ∧ aComp g tt te ρ X r (acc ++ [y]) Q) X) (aComp g tt te ρ X r acc Q)) X)
def aLc (it : AL) (g : AG) (tt : AT) (te : AE) (vs : List Nat) : AO := fun ρ Q X => it ρ (fun ds => aComp g tt te (wipeA ρ vs) X ds [] (fun acc => Q (.ol acc))) X
def aYes : AT := fun _ Q _ => Q true
theorem sim_yes : SimT c tYes aYes := fun U H σ ρ Q q I z k => k U H true (Gr.refl I.vh) I z
theorem DI.setN (h : DI c U H σ ρ) {i : Nat} (hi : noPar c i = true) : DI c U H (σ.set i none) (ρ.set i none) := by
  have hs := owns_set_sub ρ σ i none none rfl
  refine ⟨h.gr, Paired.setAt (F := RepS c.K U H) (show RepS c.K U H none none from trivial) i h.rep, hs.nodup h.nd, fun p hp => h.out p (hs.mem hp), par_set (sel_set _ _ _ _ (noPar_of hi)) (sel_set _ _ _ _ (noPar_of hi)) h.par, h.ko, fun k av w e1 e2 p hp => ?_, by rw [List.length_set]; exact h.on⟩
  by_cases z : i = k
  · subst z
    rw [List.getElem?_set] at e1
    simp at e1
  · rw [List.getElem?_set_ne z] at e1 e2
    exact h.ow k av w e1 e2 p hp
theorem DI.wipe (h : DI c U H σ ρ) : ∀ {vs : List Nat}, (vs.all fun i => noPar c i) = true → DI c U H (L2.wipe σ vs) (wipeA ρ vs) ∧ (∀ p ∈ drs (wipeA ρ vs) (L2.wipe σ vs), p ∈ drs ρ σ) ∧ c.x (wipeA ρ vs) = c.x ρ
  | [], _ => ⟨h, fun _ z => z, rfl⟩
  | v :: vs, k => by
    rw [List.all_cons, Bool.and_eq_true] at k
    obtain ⟨i1, i2, i3⟩ := DI.wipe h (vs := vs) k.2
    exact ⟨i1.setN k.1, fun p hp => i2 p (drs_set _ _ v none none rfl p hp), (DC.x_set k.1).trans i3⟩
theorem wipe_at : ∀ {σ : L2.St} {vs : List Nat} (k : Nat), (wipe σ vs)[k]? = if k ∈ vs then (if k < σ.length then some none else none) else σ[k]?
  | σ, [], k => by simp [wipe]
  | σ, v :: vs, k => by
    unfold wipe
    rw [List.getElem?_set, wipe_length, wipe_at k]
    by_cases h : v = k
    · subst h
      simp
    · have h' : ¬ k = v := fun z => h z.symm
      simp [h, h']
theorem wipe_put {js vs : List Nat} {σ σ' : L2.St} {ρ ρ' : Env} (p : Put js (wipe σ vs) σ' ρ ρ') (h : ∀ j ∈ js, j ∈ vs) : wipe σ' vs = wipe σ vs := by
  refine List.ext_getElem? fun k => ?_
  rw [wipe_at, p.len, wipe_length]
  by_cases hk : k ∈ vs
  · rw [if_pos hk, wipe_at, if_pos hk]
  · rw [if_neg hk, p.at' k fun z => hk (h k z)]
theorem DI.mutFree {p : Addr} {x : HO} (I : DI c U H σ ρ) (nu : U p = none) (n0 : c.H0 p = none) (np : p ∉ owns ρ σ) (pl : Pl H p) : DI c U (upd H p x) σ ρ :=
  ⟨I.gr.mut nu (.inr n0) pl, reps_mut (fun q hq => (I.out q hq).1) np I.rep, I.nd, I.out, I.par, I.ko, I.ow, I.on⟩
/-- behind the walk's beginning -/
theorem lcw {js vs : List Nat} {g : TG} {ag : AG} {U H U1 H1 : Hp} {σ : L2.St} {ρ : Env} {Q : AV → Prop} {q : VK} {J : It} {ds : List D} (hg : SimG c js g ag) (ht : SimT c tt at') (he : SimE c te e) (hj : (js.all fun j => vs.contains j) = true) (hv : (vs.all fun i => noPar c i) = true)
    (g1 : Gr (drs ρ σ) U H U1 H1) (I1 : DI c U1 H1 σ ρ) (W : Walks c.K U1 J ds (fun H'' => ∃ U'', Gr (drs ρ σ) U1 H1 U'' H'')) (z1 : aComp ag at' e (wipeA ρ vs) (c.x ρ) ds [] (fun acc => Q (.ol acc)))
    (k : ∀ U' H' av v, Gr (drs ρ σ) U H U' H' → DI c U' H' σ ρ → RepA c.K U' H' av v → Fresh U' H av v → Q av → q v H') :
    tLc (fun _ H0 R => R J H0) g tt te vs σ H1 q := by
  obtain ⟨Y, w, hY⟩ := W
  intro Da nD
  have nD0 : H Da = none := g1.fresh nD
  have nDo : Da ∉ owns ρ σ := fun h => I1.ex Da h nD
  have nDd : Da ∉ drs ρ σ := fun h => nDo (drs_sub Da h)
  have nDH : c.H0 Da = none := I1.gr.fresh nD
  have hjs : ∀ j ∈ js, j ∈ vs := fun j hj' => by
    have := List.all_eq_true.mp hj j hj'
    exact List.contains_iff_mem.mp this
  refine lc_it (Qd := fun H' => q (.ref Da) H') w (fun n H' => ∃ U' acc accD, Gr (drs ρ σ) U1 H1 U' H' ∧ DI c U' H' σ ρ ∧ H' Da = some (.lst acc) ∧ U' Da = none ∧ Rs c.K U' accD acc ∧ aComp ag at' e (wipeA ρ vs) (c.x ρ) (ds.drop n) accD (fun acc => Q (.ol acc))) ?_ ?_ ?_ ?_
  · have g2 : Gr [] U1 H1 U1 (upd H1 Da (.lst [])) := (Gr.refl I1.vh).newM nD
    exact ⟨U1, [], [], g2.any, I1.grow g2, upd_same, I1.vh.free nD, rfl, z1⟩
  · rintro n H' hn ⟨U', acc, accD, gg, _⟩
    exact ⟨U', gg⟩
  · rintro n x H' H'' hn ⟨U', acc, accD, gg, I', hD, uD, hr, z2⟩ hy
    have ed : ds[n]? = some ds[n] := List.getElem?_eq_getElem hn
    obtain ⟨U3, g3, r3⟩ := hY n H' x H'' _ U' gg.vv I'.vh hy ed
    rw [drop_at ed] at z2
    have I3 := I'.grow g3
    obtain ⟨Iw, hdr, hxw⟩ := I3.wipe hv
    refine hg U3 H'' _ _ _ x _ _ Iw r3 z2 fun σ2 ρ2 I2 p2 z3 => ⟨wipe_put p2 hjs, ?_⟩
    have dr2 : ∀ p ∈ drs ρ2 σ2, p ∈ drs ρ σ := fun p hp => hdr p (p2.dr p hp)
    have hx2 : c.x ρ2 = c.x ρ := (p2.ex hv hjs).trans hxw
    rw [← hx2] at z3
    have uD3 : U3 Da = none := g3.fr Da uD (by rw [hD]; intro z; cases z)
    have hD3 := g3.hh _ _ (by simp) (ntb rfl) hD
    have drOf : ∀ {U5 H5 : Hp}, DI c U5 H5 σ2 ρ2 → ∀ p ∈ drs ρ2 σ2, p ∈ drs ρ σ ∧ Dr U5 H5 p := fun {U5 H5} I5 p hp => ⟨dr2 p hp, by
      have : ∀ {ρ : Env} {σ : L2.St}, Paired (RepS c.K U5 H5) ρ σ → ∀ p ∈ drs ρ σ, Dr U5 H5 p := by
        intro ρ σ h
        induction h with
        | nil => intro p hp; simp [drs] at hp
        | @cons a b ρ σ h t ih =>
          intro p hp
          have hp' : p ∈ drS a b ++ drs ρ σ := hp
          rcases List.mem_append.mp hp' with z | z
          · unfold drS at z
            split at z
            · obtain ⟨s, e1, e2⟩ := h
              have e' := V.ref.inj e1
              subst e'
              rw [List.mem_singleton.mp z]
              exact e2
            · cases z
          · exact ih p z
      exact this I5.rep p hp⟩
    refine ht U3 H'' σ2 ρ2 _ _ I2 z3 fun U5 H5 bo g5 I5 z5 => ?_
    have I5o := I3.step g5 (drOf I5)
    have n5 : Da ∉ drs ρ2 σ2 := fun h => nDd (dr2 Da h)
    have hD5 := g5.hh _ _ n5 (ntb rfl) hD3
    have uD5 : U5 Da = none := g5.fr Da uD3 (by rw [hD3]; intro z; cases z)
    have gg5 : Gr (drs ρ σ) U1 H1 U5 H5 := (gg.trans g3.any).trans (g5.weak dr2)
    cases bo with
    | false => exact i_itF ⟨U5, acc, accD, gg5, I5o, hD5, uD5, Rs.mono (g3.vv.trans g5.vv) _ _ hr, (by rw [← hx2]; exact z5)⟩
    | true =>
      refine i_itT (he U5 H5 σ2 ρ2 _ _ I5 z5 fun U6 H6 y vy g6 I6 r6 z6 => ?_)
      have I6o := I5o.step g6 (drOf I6)
      have hD6 := g6.hh _ _ n5 (ntb rfl) hD5
      have uD6 : U6 Da = none := g6.fr Da uD5 (by rw [hD5]; intro z; cases z)
      have hr6 := Rs.mono ((g3.vv.trans g5.vv).trans g6.vv) _ _ hr
      refine ⟨acc, hD6, lt_size (by rw [← hr.len]; exact z6.1), U6, acc ++ [vy], accD ++ [y], (gg5.trans (g6.weak dr2)).mut uD6 (.inr nD) (.of hD6 rfl), I6o.mutFree uD6 nDH nDo (.of hD6 rfl), upd_same, uD6, hr6.snoc r6, (by rw [← hx2]; exact z6.2)⟩
  · rintro H' ⟨U', acc, accD, gg, I', hD, uD, hr, z2⟩
    rw [List.drop_length] at z2
    exact k U' H' (.ol accD) (.ref Da) (g1.trans gg) I' ⟨Da, acc, rfl, hD, hr⟩ (.one rfl uD nD0) z2
theorem sim_lc {js vs : List Nat} {wi : TI} {it : AL} {g : TG} {ag : AG} (hi : SimIW c wi it) (hg : SimG c js g ag) (ht : SimT c tt at') (he : SimE c te e) (hj : (js.all fun j => vs.contains j) = true) (hv : (vs.all fun i => noPar c i) = true) :
    SimO c (tLc wi g tt te vs) (aLc it ag at' e vs) := fun U H σ ρ Q q I z k =>
  hi U H σ ρ _ _ I z fun U1 H1 J ds g1 I1 W z1 => lcw hg ht he hj hv g1 I1 W z1 k
end
end SW
namespace SW
open PySem PySem.Spec PyProof.Rows L2
variable [QN]
def AV.isDr : AV → Bool
  | .dr => true
  | _ => false
def bodyA (ks : List Bool) (nl : Nat) (a : AS) : AF := fun avs q x => avs.map AV.isDr = ks ∧ a ⟨fun _ => q (.fz .non), fun av _ => q av, fun _ => False, fun _ => False, fun e _ => x e⟩ (avs.map some ++ List.replicate nl none)
theorem owns_nil : ∀ (n m : Nat), owns (List.replicate n none) (List.replicate m none) = []
  | 0, m => rfl
  | n + 1, 0 => rfl
  | n + 1, m + 1 => owns_nil n m
theorem owns_args : ∀ (avs : List AV) (vs : List V) (n m : Nat), avs.length = vs.length → owns (avs.map some ++ List.replicate n none) (vs.map some ++ List.replicate m none) = ownAs avs vs
  | [], [], n, m, _ => owns_nil n m
  | a :: avs, v :: vs, n, m, h => by
    show own a v ++ owns (avs.map some ++ List.replicate n none) (vs.map some ++ List.replicate m none) = own a v ++ ownAs avs vs
    rw [owns_args avs vs n m (Nat.succ.inj h)]
theorem reps_args {K : PySem.W.Frag} {U H : Hp} (n : Nat) : ∀ {avs : List AV} {vs : List V}, Paired (RepA K U H) avs vs → Paired (RepS K U H) (avs.map some ++ List.replicate n none) (vs.map some ++ List.replicate n none)
  | _, _, .nil => by
    induction n with
    | zero => exact .nil
    | succ n ih => exact .cons trivial ih
  | _, _, .cons h t => .cons h (reps_args n t)
/-- the marked ones of a row with more behind it -/
theorem sel_map {α β : Type} (f : α → β) : ∀ (ks : List Bool) (xs : List α) (r : List β), ks.length = xs.length → selM ks (xs.map f ++ r) = (selM ks xs).map f
  | [], [], r, _ => by cases r <;> rfl
  | true :: ks, x :: xs, r, h => congrArg (f x :: ·) (sel_map f ks xs r (Nat.succ.inj h))
  | false :: ks, x :: xs, r, h => sel_map f ks xs r (Nat.succ.inj h)
/-- the marked ones hold all that is one's own -/
theorem sel_all : ∀ (avs : List AV) (vs : List V), avs.length = vs.length → ownAs (selM (avs.map AV.isOwn) avs) (selM (avs.map AV.isOwn) vs) = ownAs avs vs
  | [], [], _ => rfl
  | a :: avs, v :: vs, h => by
    have ih := sel_all avs vs (Nat.succ.inj h)
    cases a with
    | fz d =>
      show ownAs (selM (avs.map AV.isOwn) avs) (selM (avs.map AV.isOwn) vs) = own (.fz d) v ++ ownAs avs vs
      rw [ih]
      cases v <;> rfl
    | _ =>
      show own _ v ++ ownAs (selM (avs.map AV.isOwn) avs) (selM (avs.map AV.isOwn) vs) = own _ v ++ ownAs avs vs
      rw [ih]
/-- parameters that are not marked hold nothing of one's own -/
theorem args_nw {avs : List AV} {nl i : Nat} {av : AV} {v : V} (h : (avs.map AV.isOwn).getD i false = false) (e : (avs.map some ++ List.replicate nl none)[i]? = some (some av)) : own av v = [] := by
  rw [List.getElem?_append, List.length_map] at e
  split at e
  · rw [List.getElem?_map] at e
    cases ea : avs[i]? with
    | none => rw [ea] at e; cases e
    | some a =>
      rw [ea] at e
      cases e
      rw [List.getD, List.getElem?_map, ea] at h
      have h' : av.isOwn = false := h
      cases av with
      | fz d => cases v <;> rfl
      | _ => cases h'
  · rw [List.getElem?_replicate] at e
    split at e <;> cases e
/-- each slot's own places -/
def ownL : Env → L2.St → List (List Addr)
  | a :: ρ, v :: σ => ownS a v :: ownL ρ σ
  | _, _ => []
theorem ownL_len : ∀ {ρ : Env} {σ : L2.St}, ρ.length = σ.length → (ownL ρ σ).length = σ.length
  | [], [], _ => rfl
  | a :: ρ, v :: σ, h => congrArg (· + 1) (ownL_len (Nat.succ.inj h))
theorem ownL_at : ∀ {ρ : Env} {σ : L2.St} {i : Nat} {av : AV} {v : V}, ρ[i]? = some (some av) → σ[i]? = some (some v) → (ownL ρ σ).getD i [] = own av v
  | [], _, i, av, v, h, _ => by simp at h
  | _ :: _, [], i, av, v, _, h => by simp at h
  | a :: ρ, w :: σ, 0, av, v, h1, h2 => by
    have e1 := Option.some.inj h1
    have e2 := Option.some.inj h2
    subst e1 e2
    rfl
  | a :: ρ, w :: σ, i + 1, av, v, h1, h2 => ownL_at (ρ := ρ) (σ := σ) (i := i) h1 h2
theorem ownL_no : ∀ {ρ : Env} {σ : L2.St} {i : Nat}, (ρ[i]? = none ∨ ρ[i]? = some none) → (ownL ρ σ).getD i [] = []
  | [], _, i, _ => by unfold ownL; rfl
  | _ :: _, [], i, _ => by unfold ownL; rfl
  | a :: ρ, w :: σ, 0, h => by
    rcases h with h | h
    · cases h
    · have e1 := Option.some.inj h
      subst e1
      rfl
  | a :: ρ, w :: σ, i + 1, h => ownL_no (ρ := ρ) (σ := σ) (i := i) h
/-- where a def's body begins -/
theorem start_DI {K : PySem.W.Frag} {U H : Hp} {avs : List AV} {vs : List V} {nl : Nat} {X : Exn → List (Option AV) → Prop} {E : XK} {tb : List Addr} (sU : Same U H) (rep : Paired (RepA K U H) avs vs) (nd : (ownAs avs vs).Nodup) (out : ∀ p ∈ ownAs avs vs, U p = none) (ok : DC.Ok ⟨K, avs.map AV.isOwn, (selM (avs.map AV.isOwn) avs).map AV.kind, selM (avs.map AV.isOwn) vs, ownL (avs.map some ++ List.replicate nl none) (vs.map some ++ List.replicate nl none), ownAs avs vs, U, H, X, fun _ => E, tb⟩) :
    DI ⟨K, avs.map AV.isOwn, (selM (avs.map AV.isOwn) avs).map AV.kind, selM (avs.map AV.isOwn) vs, ownL (avs.map some ++ List.replicate nl none) (vs.map some ++ List.replicate nl none), ownAs avs vs, U, H, X, fun _ => E, tb⟩ U H (vs.map some ++ List.replicate nl none) (avs.map some ++ List.replicate nl none) := by
  have lv : avs.length = vs.length := rep.length
  refine ⟨Gr.refl sU, reps_args nl rep, ?_, ?_, ⟨?_, selM (avs.map AV.isOwn) avs, ?_, rfl⟩, ok, fun i av v e1 e2 p hp => .inl (by rw [ownL_at e1 e2]; exact hp), ?_, fun i hn => ?_⟩
  · rw [owns_args avs vs nl nl lv]
    exact nd
  · rw [owns_args avs vs nl nl lv]
    exact fun p hp => ⟨out p hp, .inl hp⟩
  · exact sel_map some _ vs _ (by rw [List.length_map]; exact lv)
  · exact sel_map some _ avs _ (by rw [List.length_map])
  · rw [ownL_len (reps_args nl rep).length]
  · cases e1 : (avs.map some ++ List.replicate nl none)[i]? with
    | none => exact ownL_no (.inl e1)
    | some a =>
      cases a with
      | none => exact ownL_no (.inr e1)
      | some av =>
        obtain ⟨v, e2, _⟩ := rep_at (reps_args nl rep) i av e1
        rw [ownL_at e1 e2]
        exact args_nw (noPar_of hn) e1
theorem isDr_own : ∀ {avs : List AV}, (∀ a ∈ avs, a = .dr ∨ ∃ d, a = .fz d) → avs.map AV.isOwn = avs.map AV.isDr
  | [], _ => rfl
  | a :: avs, h => by
    rw [List.map_cons, List.map_cons, isDr_own fun x hx => h x (List.mem_cons_of_mem _ hx)]
    rcases h a List.mem_cons_self with rfl | ⟨d, rfl⟩ <;> rfl
theorem kind_dr : ∀ {avs bs : List AV}, (∀ a ∈ avs, a = .dr) → bs.map AV.kind = avs.map AV.kind → ∀ b ∈ bs, b = .dr
  | [], [], _, _, b, hb => by cases hb
  | [], b' :: bs, _, e, b, hb => by cases e
  | a :: avs, [], _, e, b, hb => by cases hb
  | a :: avs, b' :: bs, h, e, b, hb => by
    have e' := List.cons.inj e
    obtain ⟨e1, e2⟩ := e'
    rcases List.mem_cons.mp hb with rfl | hb
    · rw [h a List.mem_cons_self] at e1
      cases b <;> first | rfl | cases e1
    · exact kind_dr (fun x hx => h x (List.mem_cons_of_mem _ hx)) e2 b hb
theorem sel_dr : ∀ {avs : List AV}, (∀ a ∈ avs, a = .dr ∨ ∃ d, a = .fz d) → ∀ a ∈ selM (avs.map AV.isOwn) avs, a = .dr
  | [], _, a, ha => by cases ha
  | x :: avs, h, a, ha => by
    have ih := sel_dr (avs := avs) fun y hy => h y (List.mem_cons_of_mem _ hy)
    rcases h x List.mem_cons_self with rfl | ⟨d, rfl⟩
    · rcases List.mem_cons.mp ha with rfl | ha
      · rfl
      · exact ih a ha
    · exact ih a ha
theorem reps_dr {K : PySem.W.Frag} {U H : Hp} : ∀ {bs : List AV} {vs : List V}, RepAs K U H bs vs → (∀ b ∈ bs, b = .dr) → ownAs bs vs = ownAs (bs.map fun _ => .dr) vs ∧ ∀ p ∈ ownAs bs vs, Dr U H p
  | [], _, h, _ => by
    rw [show _ = [] from h]
    exact ⟨rfl, fun p hp => by cases hp⟩
  | b :: bs, _, ⟨v, r, e, h1, h2⟩, k => by
    subst e
    have e1 := k b List.mem_cons_self
    subst e1
    obtain ⟨i1, i2⟩ := reps_dr h2 fun x hx => k x (List.mem_cons_of_mem _ hx)
    refine ⟨by show own .dr v ++ ownAs bs r = own .dr v ++ ownAs (bs.map fun _ => .dr) r; rw [i1], fun p hp => ?_⟩
    rcases List.mem_append.mp hp with z | z
    · obtain ⟨s, rfl, d⟩ := h1
      rw [List.mem_singleton.mp z]
      exact d
    · exact i2 p z
theorem run_body {K : PySem.W.Frag} {ks : List Bool} {nl : Nat} {a : AS} {vs : List V} {H : Hp} {Q : VK} {E : XK} {t : TS} {σ : L2.St} {tb : List Addr} (h : spD K tb (bodyA ks nl a) vs H Q E) (hσ : σ = vs.map some ++ List.replicate nl none) (hs : ∀ pk pv O M U0 H0 X, SimS ⟨K, ks, pk, pv, O, M, U0, H0, X, fun _ => E, tb⟩ t a) :
    t { nx := fun _ H' => Q .non H', rt := Q } σ H := by
  obtain ⟨U, avs, q, x, sU, tbs, rep, kd, l1, ⟨hk, hb⟩, kq, kx⟩ := h
  subst hσ
  have lv : avs.length = vs.length := rep.length
  have dr := dr_args rep kd
  have ek : avs.map AV.isOwn = ks := (isDr_own kd).trans hk
  have nd : (ownAs avs vs).Nodup := by
    match ownAs avs vs, l1 with
    | [], _ => simp
    | [p], _ => simp
  have pdr : ∀ {U' H' : Hp} {as : List (Option AV)}, ParRep ⟨K, avs.map AV.isOwn, (selM (avs.map AV.isOwn) avs).map AV.kind, selM (avs.map AV.isOwn) vs, ownL (avs.map some ++ List.replicate nl none) (vs.map some ++ List.replicate nl none), ownAs avs vs, U, H, fun e _ => x e, fun _ => E, tb⟩ U' H' as → ∀ p ∈ ownAs avs vs, Dr U' H' p := fun {U' H' as} pr => by
    obtain ⟨bs, _, r, k, _⟩ := pr.ex
    have hb := kind_dr (sel_dr kd) k
    obtain ⟨o1, o2⟩ := reps_dr r hb
    have e0 := sel_all avs vs lv
    obtain ⟨o3, _⟩ := reps_dr (K := K) (U := U) (H := H) (bs := selM (avs.map AV.isOwn) avs) (vs := selM (avs.map AV.isOwn) vs) (by
      have go : ∀ (ks : List Bool) {as : List AV} {ws : List V}, Paired (RepA K U H) as ws → RepAs K U H (selM ks as) (selM ks ws) := by
        intro ks
        induction ks with
        | nil => intro as ws h; cases h <;> rfl
        | cons b ks ih =>
          intro as ws h
          cases h with
          | nil => cases b <;> rfl
          | cons h t => cases b with
            | true => exact ⟨_, _, rfl, h, ih t⟩
            | false => exact ih t
      exact go _ rep) (sel_dr kd)
    have len : bs.length = (selM (avs.map AV.isOwn) avs).length := by
      have := congrArg List.length k
      rwa [List.length_map, List.length_map] at this
    have em : bs.map (fun _ => AV.dr) = (selM (avs.map AV.isOwn) avs).map (fun _ => AV.dr) := by
      rw [List.map_const', List.map_const', len]
    intro p hp
    rw [← e0, o3, ← em, ← o1] at hp
    exact o2 p hp
  have I := start_DI (K := K) (nl := nl) (X := fun e _ => x e) (E := E) sU rep nd (fun p hp => (dr p hp).out) ⟨fun U' H' _ as ex cls o _ _ g pr xr z => kx U' H' ex cls o g xr (pdr pr) z, tbs⟩
  have hs' : SimS ⟨K, avs.map AV.isOwn, (selM (avs.map AV.isOwn) avs).map AV.kind, selM (avs.map AV.isOwn) vs, ownL (avs.map some ++ List.replicate nl none) (vs.map some ++ List.replicate nl none), ownAs avs vs, U, H, fun e _ => x e, fun _ => E, tb⟩ t a := by rw [ek]; exact hs _ _ _ _ _ _ _
  refine hs' U H _ _ _ _ rfl I hb ⟨?_, ?_, ?_, ?_⟩
  · exact fun U' H' σ' ρ' _ I z => kq U' H' (.fz .non) .non I.gr rfl .fz (pdr I.pars) z
  · exact fun U' H' σ' ρ' av v I r n1 n z => kq U' H' av v I.gr r ⟨n1, fun p hp => ⟨(n p hp).1, (n p hp).2.1⟩⟩ (pdr I.pars) z
  · exact fun U' H' σ' ρ' _ I z => z.elim
  · exact fun U' H' σ' ρ' _ I z => z.elim
theorem spD_len {K : PySem.W.Frag} {ks : List Bool} {nl : Nat} {a : AS} {vs : List V} {H : Hp} {Q : VK} {E : XK} {tb : List Addr} (h : spD K tb (bodyA ks nl a) vs H Q E) : vs.length = ks.length := by
  obtain ⟨U, avs, q, x, sU, tbs, rep, kd, l1, ⟨hk, hb⟩, kq, kx⟩ := h
  rw [← rep.length, ← hk, List.length_map]
end SW
namespace SW
open PySem PySem.Spec PyProof.Rows L2
variable [QN]
section
variable {K : PySem.W.Frag} {U H U' H' : Hp}
def oI (g : Int → Int → D) : D → D → (D → Prop) → Prop := fun d e Q => intQ (fun i => intQ (fun j => Q (g i j)) e) d
def oIC (C : Int → Int → Prop) (g : Int → Int → D) : D → D → (D → Prop) → Prop := fun d e Q => intQ (fun i => intQ (fun j => C i j ∧ Q (g i j)) e) d
theorem op_i0 {gV : Int → Int → V} {gD : Int → Int → D} (h : ∀ i j U, R K U (gD i j) (gV i j)) : OpD K (rI0 gV) (oI gD) := fun U H v w d e Q q s cd ce z k => by
  obtain ⟨i, rfl, y⟩ := intQ_of z
  obtain ⟨j, rfl, y2⟩ := intQ_of y
  exact ⟨i, j, cd.int, ce.int, k U H _ _ (Gr.refl s) (h i j U) y2⟩
theorem op_ic {C : Int → Int → Prop} {gV : Int → Int → V} {gD : Int → Int → D} (h : ∀ i j U, R K U (gD i j) (gV i j)) : OpD K (rI C gV) (oIC C gD) := fun U H v w d e Q q s cd ce z k => by
  obtain ⟨i, rfl, y⟩ := intQ_of z
  obtain ⟨j, rfl, z1, y2⟩ := intQ_of y
  exact ⟨i, j, cd.int, ce.int, z1, k U H _ _ (Gr.refl s) (h i j U) y2⟩
def oU (g : Int → D) : D → (D → Prop) → Prop := fun d Q => intQ (fun i => Q (g i)) d
theorem un_i {gV : Int → V} {gD : Int → D} (h : ∀ i U, R K U (gD i) (gV i)) : UnD K (rU gV) (oU gD) := fun U H v d Q q s cd z k => by
  obtain ⟨i, rfl, z⟩ := intQ_of z
  exact ⟨i, cd.int, k U H _ _ (Gr.refl s) (h i U) z⟩
abbrev oAdd := oI fun i j => .int (i + j)
abbrev oSub := oI fun i j => .int (i - j)
abbrev oMul := oIC CMul fun i j => .int (i * j)
abbrev oDiv := oIC CDiv fun i j => .int (i / j)
abbrev oPow := oIC CPow fun i j => .int (i ^ j.toNat)
abbrev oLt := oI fun i j => .bl (decide (i < j))
abbrev oLe := oI fun i j => .bl (decide (i ≤ j))
abbrev oGt := oI fun i j => .bl (decide (j < i))
abbrev oNeg := oU fun i => .int (-i)
def eqS : D → D → Option Bool
  | .int a, .int b => some (decide (a = b))
  | .str a, .str b => some (decide (a = b))
  | .bl a, .bl b => some (decide (a = b))
  | .non, .non => some true
  | .non, .int _ => some false
  | .int _, .non => some false
  | .non, .bl _ => some false
  | .bl _, .non => some false
  | .non, .str _ => some false
  | .str _, .non => some false
  | .int _, .str _ => some false
  | .str _, .int _ => some false
  | .bl _, .str _ => some false
  | .str _, .bl _ => some false
  | _, _ => none
def someQ {α : Type} (Q : α → Prop) : Option α → Prop
  | some x => Q x
  | none => False
theorem someQ_of {α : Type} {Q : α → Prop} {o : Option α} (h : someQ Q o) : ∃ x, o = some x ∧ Q x := by
  cases o with
  | none => exact h.elim
  | some x => exact ⟨x, rfl, h⟩
theorem decide_inj {α β : Type} [DecidableEq α] [DecidableEq β] {f : α → β} (hf : ∀ a b, f a = f b → a = b) (a b : α) : decide (f a = f b) = decide (a = b) := by
  by_cases h : a = b
  · rw [decide_eq_true h, decide_eq_true (congrArg f h)]
  · rw [decide_eq_false h, decide_eq_false (fun z => h (hf a b z))]
theorem eqS_of {d e : D} {v w : V} {b : Bool} (cd : CR K U H d v) (ce : CR K U H e w) (h : eqS d e = some b) : scal v w = true ∧ decide (v = w) = b := by
  unfold eqS at h
  split at h <;> first
    | (cases h; rw [cd.int, ce.int]; exact ⟨rfl, decide_inj (fun _ _ => V.int.inj) _ _⟩)
    | (cases h; rw [cd.str, ce.str]; exact ⟨rfl, decide_inj (fun _ _ => V.str.inj) _ _⟩)
    | (cases h; rw [cd.bl, ce.bl]; exact ⟨rfl, decide_inj (fun _ _ => V.bl.inj) _ _⟩)
    | (cases h; rw [cd.non, ce.non]; exact ⟨rfl, rfl⟩)
    | (cases h; rw [cd.non, ce.int]; exact ⟨rfl, rfl⟩)
    | (cases h; rw [cd.int, ce.non]; exact ⟨rfl, rfl⟩)
    | (cases h; rw [cd.non, ce.bl]; exact ⟨rfl, rfl⟩)
    | (cases h; rw [cd.bl, ce.non]; exact ⟨rfl, rfl⟩)
    | (cases h; rw [cd.non, ce.str]; exact ⟨rfl, rfl⟩)
    | (cases h; rw [cd.str, ce.non]; exact ⟨rfl, rfl⟩)
    | (cases h; rw [cd.int, ce.str]; exact ⟨rfl, rfl⟩)
    | (cases h; rw [cd.str, ce.int]; exact ⟨rfl, rfl⟩)
    | (cases h; rw [cd.bl, ce.str]; exact ⟨rfl, rfl⟩)
    | (cases h; rw [cd.str, ce.bl]; exact ⟨rfl, rfl⟩)
    | cases h
def oEq : D → D → (D → Prop) → Prop := fun d e Q => someQ (fun b => Q (.bl b)) (eqS d e)
def oNe : D → D → (D → Prop) → Prop := fun d e Q => someQ (fun b => Q (.bl (!b))) (eqS d e)
theorem op_eqS : OpD K rEq oEq := fun U H v w d e Q q s cd ce z k => by
  obtain ⟨b, h, z⟩ := someQ_of z
  obtain ⟨h1, h2⟩ := eqS_of cd ce h
  refine ⟨h1, ?_⟩
  rw [h2]
  exact k U H (.bl b) _ (Gr.refl s) rfl z
theorem op_neS : OpD K rNe oNe := fun U H v w d e Q q s cd ce z k => by
  obtain ⟨b, h, z⟩ := someQ_of z
  obtain ⟨h1, h2⟩ := eqS_of cd ce h
  refine ⟨h1, ?_⟩
  rw [h2]
  exact k U H (.bl (!b)) _ (Gr.refl s) rfl z
def isNonD : D → Bool
  | .non => true
  | _ => false
theorem isNon_of {d : D} {v : V} (s : Same U H) (cd : CR K U H d v) : decide (v = .non) = isNonD d := by
  cases d with
  | int i => rw [cd.int]; rfl
  | bl b => rw [cd.bl]; rfl
  | str x => rw [cd.str]; rfl
  | non => rw [cd.non]; rfl
  | ty n => rw [cd.ty]; rfl
  | adr a => rw [cd.adr]; rfl
  | tup ds => obtain ⟨a, xs, rfl, _⟩ := cd.tup s; rfl
  | lst ds => obtain ⟨a, xs, rfl, _⟩ := cd.lst s; rfl
  | dK ks ds => obtain ⟨a, xs, rfl, _⟩ := cd.dK s; rfl
  | dT ks ds => obtain ⟨a, xs, rfl, _⟩ := cd.dT s; rfl
  | obj C ns ds => obtain ⟨a, dx, xs, rfl, _⟩ := cd.obj s; rfl
  | exn a C o ns ds => rw [cd.exn]; rfl
  | kt k => obtain ⟨a, rfl, _⟩ := cd.kt s; rfl
def nonQ (P : Prop) : D → Prop
  | .non => P
  | _ => False
theorem nonQ_of {P : Prop} {d : D} (h : nonQ P d) : d = .non ∧ P := by
  cases d <;> first | exact ⟨rfl, h⟩ | exact h.elim
def oIsN : D → D → (D → Prop) → Prop := fun d e Q => nonQ (Q (.bl (isNonD d))) e
def oNotN : D → D → (D → Prop) → Prop := fun d e Q => nonQ (Q (.bl (!isNonD d))) e
theorem op_isND : OpD K (fun x y H Q => y = .non ∧ Q (.bl (decide (x = .non))) H) oIsN := fun U H v w d e Q q s cd ce z k => by
  obtain ⟨rfl, z⟩ := nonQ_of z
  refine ⟨ce.non, ?_⟩
  rw [isNon_of s cd]
  exact k U H (.bl _) _ (Gr.refl s) rfl z
theorem op_notND : OpD K (fun x y H Q => y = .non ∧ Q (.bl (!decide (x = .non))) H) oNotN := fun U H v w d e Q q s cd ce z k => by
  obtain ⟨rfl, z⟩ := nonQ_of z
  refine ⟨ce.non, ?_⟩
  rw [isNon_of s cd]
  exact k U H (.bl _) _ (Gr.refl s) rfl z
def flatD : D → Bool
  | .non => true
  | .bl _ => true
  | .int _ => true
  | .str _ => true
  | _ => false
def eqF : D → D → Bool
  | .non, .non => true
  | .bl a, .bl b => a == b
  | .bl a, .int b => (if a then 1 else 0) == b
  | .int a, .bl b => a == (if b then 1 else 0)
  | .int a, .int b => a == b
  | .str a, .str b => a == b
  | _, _ => false
theorem flat_r {d : D} {v : V} (h : flatD d = true) (r : R K U d v) : flatV v = true := by
  cases d <;> first | (rw [show v = _ from r]; rfl) | cases h
theorem eqF_r {d e : D} {v w : V} (h : flatD d = true) (h' : flatD e = true) (r : R K U d v) (r' : R K U e w) : eqV v w = eqF d e := by
  cases d <;> first | (rw [show v = _ from r]; cases e <;> first | (rw [show w = _ from r']; rfl) | cases h') | cases h
def inF (d : D) (ds : List D) : Bool := ds.any fun y => eqF y d
theorem inF_r {d : D} {v : V} (hd : flatD d = true) (r : R K U d v) : ∀ {ds : List D} {xs : List V}, Rs K U ds xs → ds.all flatD = true → xs.all flatV = true ∧ inV v xs = inF d ds
  | [], _, h, _ => by
    rw [show _ = [] from h]
    exact ⟨rfl, rfl⟩
  | e :: ds, _, ⟨w, ws, h1, h2, h3⟩, hf => by
    subst h1
    rw [List.all_cons, Bool.and_eq_true] at hf
    obtain ⟨k1, k2⟩ := inF_r hd r h3 hf.2
    refine ⟨by rw [List.all_cons, flat_r hf.1 h2, k1]; rfl, ?_⟩
    show (eqV w v || inV v ws) = (eqF e d || inF d ds)
    rw [k2, eqF_r hf.1 hd h2 r]
def seqQ (Q : List D → Prop) : D → Prop
  | .lst ds => Q ds
  | .tup ds => Q ds
  | _ => False
theorem seqQ_of {Q : List D → Prop} {d : D} (h : seqQ Q d) : ∃ ds, (d = .lst ds ∨ d = .tup ds) ∧ Q ds := by
  cases d <;> first | exact ⟨_, .inl rfl, h⟩ | exact ⟨_, .inr rfl, h⟩ | exact h.elim
theorem CR.flat {d : D} {v : V} (h : CR K U H d v) (f : flatD d = true) : R K U d v := by
  obtain ⟨av, h1, h2⟩ := h
  cases av <;> first | (cases h2; exact h1) | (cases h2; cases f) | cases h2
theorem CR.seq {d : D} {v : V} {ds : List D} (h : CR K U H d v) (s : Same U H) (e : d = .lst ds ∨ d = .tup ds) : ∃ a xs, v = .ref a ∧ (SqL K H a xs ∨ SqT K H a xs) ∧ Rs K U ds xs := by
  rcases e with rfl | rfl
  · obtain ⟨a, xs, h1, h2, h3⟩ := h.lst s
    exact ⟨a, xs, h1, .inl (SqL.of h2), h3⟩
  · obtain ⟨a, xs, h1, h2, h3⟩ := h.tup s
    exact ⟨a, xs, h1, .inr h2, h3⟩
def oIn : D → D → (D → Prop) → Prop := fun d e Q => seqQ (fun ds => flatD d = true ∧ ds.all flatD = true ∧ Q (.bl (inF d ds))) e
theorem op_inS' : OpD K (rIn K false) oIn := fun U H v w d e Q q s cd ce z k => by
  obtain ⟨ds, he, z1, z2, z⟩ := seqQ_of z
  obtain ⟨a, xs, rfl, h1, h2⟩ := ce.seq s he
  have r := cd.flat z1
  obtain ⟨k1, k2⟩ := inF_r z1 r h2 z2
  refine ⟨a, xs, rfl, h1, flat_r z1 r, k1, ?_⟩
  rw [k2]
  exact k U H (.bl _) _ (Gr.refl s) rfl z
theorem atI_r {ds : List D} {xs : List V} {k : Int} {d : D} (r : Rs K U ds xs) (h : atI ds k = some d) : ∃ v, atI xs k = some v ∧ R K U d v := by
  unfold atI at h ⊢
  rw [← r.len]
  cases e : ixN ds.length k with
  | none => rw [e] at h; cases h
  | some j =>
    rw [e] at h
    obtain ⟨v, h1, h2⟩ := r.at j d h
    exact ⟨v, h1, h2⟩
def oIxL : D → D → (D → Prop) → Prop := fun d e Q => lstQ (fun ds => intQ (fun k => someQ Q (atI ds k)) e) d
def oIxT : D → D → (D → Prop) → Prop := fun d e Q => tupQ (fun ds => intQ (fun k => someQ Q (atI ds k)) e) d
theorem op_ixL : OpD K (rIxL K) oIxL := fun U H v w d e Q q s cd ce z k => by
  obtain ⟨ds, rfl, z⟩ := lstQ_of z
  obtain ⟨i, rfl, z⟩ := intQ_of z
  obtain ⟨x, h, z⟩ := someQ_of z
  obtain ⟨a, xs, rfl, h1, h2⟩ := cd.lst s
  obtain ⟨u, e1, e2⟩ := atI_r h2 h
  exact ⟨a, xs, i, u, rfl, ce.int, SqL.of h1, e1, k U H x u (Gr.refl s) e2 z⟩
def strQ (Q : Str → Prop) : D → Prop
  | .str x => Q x
  | _ => False
theorem strQ_of {Q : Str → Prop} {d : D} (h : strQ Q d) : ∃ x, d = .str x ∧ Q x := by
  cases d <;> first | exact ⟨_, rfl, h⟩ | exact h.elim
theorem own_new {p : Addr} {xs : List V} {ds : List D} {q : VK} {Q : AV → Prop} (s : Same U H) (n : H p = none) (r : Rs K U ds xs) (z : Q (.ol ds))
    (k : ∀ U' H' av u, Gr [] U H U' H' → RepA K U' H' av u → Fresh U' H av u → Q av → q u H') : q (.ref p) (upd H p (.lst xs)) :=
  k U _ (.ol ds) (.ref p) ((Gr.refl s).newM n) ⟨p, xs, rfl, upd_same, r⟩ (.one rfl (s.free n) n) z
def oCatT : D → D → (D → Prop) → Prop := fun d e Q => tupQ (fun xs => tupQ (fun ys => xs.length + ys.length ≤ 1000000 ∧ Q (.tup (xs ++ ys))) e) d
def repD (ds : List D) (k : Nat) : List D := (List.replicate k ds).flatten
theorem rep_r {ds : List D} {xs : List V} (r : Rs K U ds xs) : ∀ k : Nat, Rs K U (repD ds k) (List.replicate k xs).flatten
  | 0 => rfl
  | k + 1 => by
    unfold repD
    rw [List.replicate_succ, List.flatten_cons, List.replicate_succ, List.flatten_cons]
    exact r.app (rep_r r k)
def oRep : D → D → (AV → Prop) → Prop := fun d e Q => lstQ (fun xs => intQ (fun k => -(2 ^ 63) ≤ k ∧ k < 2 ^ 63 ∧ xs.length * k.toNat ≤ 1000000 ∧ Q (.ol (repD xs k.toNat))) e) d
theorem op_repD : OpO K rRep oRep := fun U H v w d e Q q s cd ce z k => by
  obtain ⟨xs, rfl, z⟩ := lstQ_of z
  obtain ⟨i, rfl, z1, z2, z3, z⟩ := intQ_of z
  obtain ⟨a, us, rfl, h1, h2⟩ := cd.lst s
  exact ⟨a, i, us, rfl, ce.int, h1, z1, z2, le_size (by rw [← h2.len]; exact z3), fun p np => own_new s np (rep_r h2 _) z k⟩
def oLen : List D → (D → Prop) → Prop := oneQ₂ where
  oneQ₂ : List D → (D → Prop) → Prop := fun ds Q => oneQ (seqQ fun xs => Q (.int xs.length)) ds
theorem bu_len : BuD K (rLenK K) oLen := fun U H vs ds Q q s r z k => by
  obtain ⟨d, rfl, z⟩ := oneQ_of z
  obtain ⟨xs, e, z⟩ := seqQ_of z
  obtain ⟨v, rfl, c⟩ := paired1 r
  obtain ⟨a, us, rfl, h1, h2⟩ := c.seq s e
  refine ⟨a, us, rfl, h1, ?_⟩
  rw [← h2.len]
  exact k U H (.int _) _ (Gr.refl s) rfl z
def oList : List D → (AV → Prop) → Prop := fun ds Q => oneQ (seqQ fun xs => Q (.ol xs)) ds
theorem bu_list : BuO K (rListK K) oList := fun U H vs ds Q q s r z k => by
  obtain ⟨d, rfl, z⟩ := oneQ_of z
  obtain ⟨xs, e, z⟩ := seqQ_of z
  obtain ⟨v, rfl, c⟩ := paired1 r
  obtain ⟨a, us, rfl, h1, h2⟩ := c.seq s e
  exact ⟨a, us, rfl, h1, fun p np => own_new s np h2 z k⟩
def oTuple : List D → (D → Prop) → Prop := fun ds Q => oneQ (seqQ fun xs => Q (.tup xs)) ds
def intsOf : List D → Option (List Int)
  | [] => some []
  | .int i :: ds => (intsOf ds).map (i :: ·)
  | _ => none
def blsOf : List D → Option (List Bool)
  | [] => some []
  | .bl i :: ds => (blsOf ds).map (i :: ·)
  | _ => none
def strsOf : List D → Option (List Str)
  | [] => some []
  | .str i :: ds => (strsOf ds).map (i :: ·)
  | _ => none
theorem intsOf_map (ns : List Int) : intsOf (ns.map D.int) = some ns := by
  induction ns with
  | nil => rfl
  | cons n ns ih => show (intsOf (ns.map D.int)).map (n :: ·) = _; rw [ih]; rfl
theorem intsOf_eq : ∀ {ds : List D} {ns : List Int}, intsOf ds = some ns → ds = ns.map D.int
  | [], ns, h => by cases h; rfl
  | d :: ds, ns, h => by
    cases d with
    | int i =>
      have h' : (intsOf ds).map (i :: ·) = some ns := h
      cases e : intsOf ds with
      | none => rw [e] at h'; cases h'
      | some ms => rw [e] at h'; cases h'; rw [intsOf_eq e]; rfl
    | _ => cases h
theorem blsOf_eq : ∀ {ds : List D} {ns : List Bool}, blsOf ds = some ns → ds = ns.map D.bl
  | [], ns, h => by cases h; rfl
  | d :: ds, ns, h => by
    cases d with
    | bl i =>
      have h' : (blsOf ds).map (i :: ·) = some ns := h
      cases e : blsOf ds with
      | none => rw [e] at h'; cases h'
      | some ms => rw [e] at h'; cases h'; rw [blsOf_eq e]; rfl
    | _ => cases h
def oInts (f : List Int → (D → Prop) → Prop) : List D → (D → Prop) → Prop := fun ds Q => oneQ (lstQ fun xs => someQ (fun ns => f ns Q) (intsOf xs)) ds
def oBls (f : List Bool → D) : List D → (D → Prop) → Prop := fun ds Q => oneQ (lstQ fun xs => someQ (fun ns => Q (f ns)) (blsOf xs)) ds
theorem oInts_of {f : List Int → (D → Prop) → Prop} {ds : List D} {vs : List V} {Q : D → Prop} (s : Same U H) (r : Paired (CR K U H) ds vs) (z : oInts f ds Q) : ∃ a ns, vs = [.ref a] ∧ H a = some (.lst (ns.map V.int)) ∧ f ns Q := by
  obtain ⟨d, rfl, z⟩ := oneQ_of z
  obtain ⟨xs, rfl, z⟩ := lstQ_of z
  obtain ⟨ns, e, z⟩ := someQ_of z
  obtain ⟨v, rfl, c⟩ := paired1 r
  obtain ⟨a, us, rfl, h1, h2⟩ := c.lst s
  rw [intsOf_eq e] at h2
  rw [h2.ints] at h1
  exact ⟨a, ns, rfl, h1, z⟩
def mxI (ns : List Int) : Int := ns.foldl max (ns.headD 0)
def mnI (ns : List Int) : Int := ns.foldl min (ns.headD 0)
theorem foldl_max (a : Int) (ns : List Int) : (ns.foldl max a = a ∨ ns.foldl max a ∈ ns) ∧ a ≤ ns.foldl max a ∧ ∀ y ∈ ns, y ≤ ns.foldl max a := by
  induction ns generalizing a with
  | nil => exact ⟨.inl rfl, Int.le_refl _, fun y h => by cases h⟩
  | cons n ns ih =>
    obtain ⟨h1, h2, h3⟩ := ih (max a n)
    rw [List.foldl_cons]
    refine ⟨?_, by omega, fun y hy => ?_⟩
    · rcases h1 with h1 | h1
      · by_cases h : n ≤ a
        · exact .inl (by rw [h1, Int.max_eq_left h])
        · exact .inr (by rw [h1, Int.max_eq_right (by omega)]; exact List.mem_cons_self)
      · exact .inr (List.mem_cons_of_mem _ h1)
    · rcases List.mem_cons.mp hy with rfl | hy
      · omega
      · exact h3 y hy
theorem foldl_min (a : Int) (ns : List Int) : (ns.foldl min a = a ∨ ns.foldl min a ∈ ns) ∧ ns.foldl min a ≤ a ∧ ∀ y ∈ ns, ns.foldl min a ≤ y := by
  induction ns generalizing a with
  | nil => exact ⟨.inl rfl, Int.le_refl _, fun y h => by cases h⟩
  | cons n ns ih =>
    obtain ⟨h1, h2, h3⟩ := ih (min a n)
    rw [List.foldl_cons]
    refine ⟨?_, by omega, fun y hy => ?_⟩
    · rcases h1 with h1 | h1
      · by_cases h : a ≤ n
        · exact .inl (by rw [h1, Int.min_eq_left h])
        · exact .inr (by rw [h1, Int.min_eq_right (by omega)]; exact List.mem_cons_self)
      · exact .inr (List.mem_cons_of_mem _ h1)
    · rcases List.mem_cons.mp hy with rfl | hy
      · omega
      · exact h3 y hy
theorem mxI_is {ns : List Int} (h : ns ≠ []) : mxI ns ∈ ns ∧ ∀ y ∈ ns, y ≤ mxI ns := by
  cases ns with
  | nil => exact absurd rfl h
  | cons n ns =>
    obtain ⟨h1, h2, h3⟩ := foldl_max n (n :: ns)
    refine ⟨?_, h3⟩
    rcases h1 with h1 | h1
    · show (n :: ns).foldl max n ∈ _
      rw [h1]
      exact List.mem_cons_self
    · exact h1
theorem mnI_is {ns : List Int} (h : ns ≠ []) : mnI ns ∈ ns ∧ ∀ y ∈ ns, mnI ns ≤ y := by
  cases ns with
  | nil => exact absurd rfl h
  | cons n ns =>
    obtain ⟨h1, h2, h3⟩ := foldl_min n (n :: ns)
    refine ⟨?_, h3⟩
    rcases h1 with h1 | h1
    · show (n :: ns).foldl min n ∈ _
      rw [h1]
      exact List.mem_cons_self
    · exact h1
abbrev oMax := oInts fun ns Q => ns ≠ [] ∧ Q (.int (mxI ns))
abbrev oMin := oInts fun ns Q => ns ≠ [] ∧ Q (.int (mnI ns))
theorem bu_max : BuD K (rMax K) oMax := fun U H vs ds Q q s r z k => by
  obtain ⟨a, ns, rfl, h, z0, z⟩ := oInts_of s r z
  refine ⟨a, ns, rfl, SqL.of h, List.length_pos_iff.mpr z0, fun m h1 h2 => ?_⟩
  obtain ⟨k1, k2⟩ := mxI_is z0
  have : m = mxI ns := Int.le_antisymm (k2 m h1) (h2 _ k1)
  subst this
  exact k U H (.int _) _ (Gr.refl s) rfl z
theorem bu_min : BuD K (rMin K) oMin := fun U H vs ds Q q s r z k => by
  obtain ⟨a, ns, rfl, h, z0, z⟩ := oInts_of s r z
  refine ⟨a, ns, rfl, SqL.of h, List.length_pos_iff.mpr z0, fun m h1 h2 => ?_⟩
  obtain ⟨k1, k2⟩ := mnI_is z0
  have : m = mnI ns := Int.le_antisymm (h2 _ k1) (k2 m h1)
  subst this
  exact k U H (.int _) _ (Gr.refl s) rfl z
theorem oBls_of {f : List Bool → D} {ds : List D} {vs : List V} {Q : D → Prop} (s : Same U H) (r : Paired (CR K U H) ds vs) (z : oBls f ds Q) : ∃ a ns, vs = [.ref a] ∧ H a = some (.lst (ns.map V.bl)) ∧ Q (f ns) := by
  obtain ⟨d, rfl, z⟩ := oneQ_of z
  obtain ⟨xs, rfl, z⟩ := lstQ_of z
  obtain ⟨ns, e, z⟩ := someQ_of z
  obtain ⟨v, rfl, c⟩ := paired1 r
  obtain ⟨a, us, rfl, h1, h2⟩ := c.lst s
  rw [blsOf_eq e] at h2
  rw [h2.bls] at h1
  exact ⟨a, ns, rfl, h1, z⟩
abbrev oAll := oBls fun ns => .bl (ns.all id)
abbrev oAny := oBls fun ns => .bl (ns.any id)
theorem bu_all : BuD K (rAll K) oAll := fun U H vs ds Q q s r z k => by
  obtain ⟨a, ns, rfl, h, z⟩ := oBls_of s r z
  exact ⟨a, ns, rfl, SqL.of h, k U H (.bl _) _ (Gr.refl s) rfl z⟩
theorem bu_any : BuD K (rAny K) oAny := fun U H vs ds Q q s r z k => by
  obtain ⟨a, ns, rfl, h, z⟩ := oBls_of s r z
  exact ⟨a, ns, rfl, SqL.of h, k U H (.bl _) _ (Gr.refl s) rfl z⟩
/-- isinstance with a built-in class -/
def tyD : D → Option String
  | .int _ => some "int"
  | .bl _ => some "bool"
  | .str _ => some "str"
  | .non => some "NoneType"
  | .lst _ => some "list"
  | .tup _ => some "tuple"
  | _ => none
def isiD (n m : String) : Bool := n == m || (n == "bool" && m == "int")
def tyQ (Q : String → Prop) : D → Prop
  | .ty n => Q n
  | _ => False
theorem tyQ_of {Q : String → Prop} {d : D} (h : tyQ Q d) : ∃ n, d = .ty n ∧ Q n := by
  cases d <;> first | exact ⟨_, rfl, h⟩ | exact h.elim
def oIsi : List D → (D → Prop) → Prop := fun ds Q => twoQ (fun d e => tyQ (fun m => someQ (fun n => (m = "int" ∨ m = "bool" ∨ m = "str" ∨ m = "list" ∨ m = "tuple") ∧ Q (.bl (isiD n m))) (tyD d)) e) ds
theorem kit_all {n m : String} (hn : n = "int" ∨ n = "bool" ∨ n = "str" ∨ n = "NoneType" ∨ n = "list" ∨ n = "tuple") (hm : m = "int" ∨ m = "bool" ∨ m = "str" ∨ m = "list" ∨ m = "tuple") : PySem.W.kitOne K (.type n) (.type m) = some (isiD n m) := by
  rcases hn with rfl | rfl | rfl | rfl | rfl | rfl <;> rcases hm with rfl | rfl | rfl | rfl | rfl <;> exact kit_ty (by decide +kernel)
theorem bu_isi : BuD K (rIsi K) oIsi := fun U H vs ds Q q s r z k => by
  obtain ⟨d, e, rfl, z⟩ := twoQ_of z
  obtain ⟨m, rfl, z⟩ := tyQ_of z
  obtain ⟨n, hn, hm, z⟩ := someQ_of z
  obtain ⟨v, w, rfl, cd, ce⟩ := paired2 r
  rw [ce.ty]
  have go : ∀ {t : Value}, TyX K H v t → t = .type n → (n = "int" ∨ n = "bool" ∨ n = "str" ∨ n = "NoneType" ∨ n = "list" ∨ n = "tuple") → rIsi K [v, .ty m] H q := fun {t} ht et hn => by
    subst et
    exact ⟨v, .ty m, .type n, .type m, isiD n m, rfl, .ty _, ht, kit_all hn hm, k U H (.bl _) _ (Gr.refl s) rfl z⟩
  cases d with
  | int i => cases hn; rw [cd.int] at go ⊢; exact go (.base (.int _)) rfl (by decide)
  | bl i => cases hn; rw [cd.bl] at go ⊢; exact go (.base (.bl _)) rfl (by decide)
  | str i => cases hn; rw [cd.str] at go ⊢; exact go (.base (.str _)) rfl (by decide)
  | non => cases hn; rw [cd.non] at go ⊢; exact go (.base .non) rfl (by decide)
  | lst ds =>
    cases hn
    obtain ⟨a, xs, rfl, h1, _⟩ := cd.lst s
    exact go (.base (.lst h1)) rfl (by decide)
  | tup ds =>
    cases hn
    obtain ⟨a, xs, rfl, h1, _⟩ := cd.tup s
    rcases h1 with (h1 | ⟨o, h1⟩) | ⟨o, its, n, h1, h2, _⟩
    · exact go (.base (.tup h1)) rfl (by decide)
    · exact go (.fTuple h1) rfl (by decide)
    · exact go (.kTuple h1 h2) rfl (by decide)
  | _ => cases hn
end
theorem ps_raise0 {X : Cx} {E : XK} {e : Expr} {pos : Pos} {C : Addr} (hc : X.calm = true) (tk : Takes X (fun cls d _ H => E cls d H)) (he : PMk X e (fun _ H Q => Q (.ref C) none H)) : PS X (.Raise (some e) none pos) (tRaise0 C E) := ps_raise hc tk he
def A_draw : AF := fun avs q _ => match avs with
  | [.dr, .fz (.int many)] => 0 < many ∧ many < 2 ^ 200 ∧ ∀ r : Int, 0 ≤ r → r < many → q (.fz (.int r))
  | _ => False
theorem FnOk.imp {P : Program} {w : World} {K : PySem.W.Frag} {mg : Str → Option Value} {base : Heap} {CX : CXT} {k : Nat} {f : Addr} {fd : FuncData} {ps : List Str} {sp sp' : Sp} (F : FnOk P w K mg base CX k f fd ps sp) (h : ∀ vs H Q E, sp' vs H Q E → sp vs H Q E) : FnOk P w K mg base CX k f fd ps sp' :=
  ⟨fun vs H Q E z => F.len vs H Q E (h vs H Q E z), fun A outer s H args us vs Q E r e b v z => F.run A outer s H args us vs Q E r e b v (h vs H Q E z)⟩
theorem draw_imp {K : PySem.W.Frag} {tb : List Addr} : ∀ vs H Q E, spD K tb A_draw vs H Q E → spDraw vs H Q E := by
  intro vs H Q E h
  obtain ⟨U, avs, q, x, sU, tbs, rep, kd, l1, hb, kq, kx⟩ := h
  unfold A_draw at hb
  split at hb
  · rename_i many
    obtain ⟨v, w, rfl, ⟨s, rfl, dr⟩, rw'⟩ := paired2 rep
    have ew : w = .int many := rw'
    subst ew
    refine ⟨s, many, U, rfl, hb.1, hb.2.1, sU, dr, fun r H' r0 r1 s' d' ho => ?_⟩
    refine kq U H' (.fz (.int r)) (.int r) ⟨Same.refl U, s', fun a o m _ h => ?_, fun a h => ?_, fun a h _ => h, fun P h => tab_keep h fun b o e n => ?_, id⟩ rfl .fz (fun p hp => ?_) (hb.2.2 r r0 r1)
    · rw [ho a (fun z => m (by rw [z]; exact List.mem_singleton.mpr rfl))]
      exact h
    · by_cases z : a = s
      · subst z
        exact d'.some
      · rw [ho a z]
        exact h
    · rw [ho b fun z => by
        subst z
        obtain ⟨y, e1, e2⟩ := dr.pl
        rw [e1] at e
        cases e
        rw [e2] at n
        cases n]
      exact e
    · have hp' : p ∈ [s] := hp
      rw [List.mem_singleton.mp hp']
      exact d'
  · exact hb.elim
theorem law_run {K : PySem.W.Frag} {t : TS} {a : AS} {U H U' H' : Hp} {s x : Addr} {nl : Nat} {Q : VK} {n b c' : L2.St → Hp → Prop} {tb : List Addr} (tbs : TbOk tb U H) (g : Gr [] U H U' H') (D : Dr U' H' s) (hn : H s = none) (q : ∀ H', Q (.bl true) H')
    (hs : ∀ U0 H0 X E, SimS ⟨K, [], [], [], List.replicate (nl + 2) [], [], U0, H0, X, E, tb⟩ t a) (ha : a ⟨fun _ => False, fun av _ => av = .fz (.bl true), fun _ => False, fun _ => False, fun _ _ => False⟩ (none :: some .dr :: List.replicate nl none)) :
    t ⟨n, Q, b, c'⟩ (some (.ref x) :: some (.ref s) :: List.replicate nl none) H' := by
  have hrep : ∀ m : Nat, Paired (RepS K U' H') (List.replicate m none) (List.replicate m none) := fun m => by
    induction m with
    | zero => exact .nil
    | succ m ih => exact .cons trivial ih
  have how : ∀ m : Nat, owns (List.replicate m none) (List.replicate m none) = [] := fun m => by
    induction m with
    | zero => rfl
    | succ m ih => exact ih
  refine hs U H (fun _ _ => False) (fun _ _ _ _ => False) U' H' (some (.ref x) :: some (.ref s) :: List.replicate nl none) (none :: some .dr :: List.replicate nl none) _ _ rfl ⟨g, .cons trivial (.cons ⟨s, rfl, D⟩ (hrep nl)), ?_, ?_, ⟨rfl, [], rfl, rfl⟩, ⟨fun _ _ _ _ _ _ _ _ _ _ _ _ z => z, tbs⟩, ?_, ?_, ?_⟩ ha ⟨fun _ _ _ _ _ _ z => z.elim, ?_, fun _ _ _ _ _ _ z => z.elim, fun _ _ _ _ _ _ z => z.elim⟩
  · show ([] ++ ([s] ++ owns (List.replicate nl none) (List.replicate nl none))).Nodup
    rw [how]
    simp
  · intro p hp
    have hp' : p ∈ ([] ++ ([s] ++ owns (List.replicate nl none) (List.replicate nl none)) : List Addr) := hp
    rw [how] at hp'
    simp at hp'
    subst hp'
    exact ⟨D.out, .inr hn⟩
  · intro i av v e1 e2 p hp
    refine .inr ?_
    match i, e1, e2 with
    | 1, e1, e2 =>
      cases e1
      cases e2
      rw [List.mem_singleton.mp hp]
      exact hn
    | i + 2, e1, _ =>
      have e1' : (List.replicate nl (none : Option AV))[i]? = some (some av) := e1
      rw [List.getElem?_replicate] at e1'
      split at e1' <;> cases e1'
  · show (List.replicate (nl + 2) ([] : List Addr)).length = (List.replicate nl (none : Option V)).length + 1 + 1
    rw [List.length_replicate, List.length_replicate]
  · intro i _
    show (List.replicate (nl + 2) ([] : List Addr)).getD i [] = []
    rw [List.getD, List.getElem?_replicate]
    split <;> rfl
  · intro U2 H2 σ2 ρ2 av v I r _ _ z
    have z' : av = .fz (.bl true) := z
    subst z'
    rw [show v = .bl true from r]
    exact q H2
end SW
namespace SW
open PySem PySem.Spec PyProof.Rows L2
variable [QN]
mutual
def okD : Nat → D → Bool
  | _, .int _ => true
  | _, .bl _ => true
  | _, .non => true
  | _, .str x => PyData.strOk x
  | n + 1, .tup ds => okDs n ds
  | n + 1, .lst ds => okDs n ds
  | _, _ => false
def okDs : Nat → List D → Bool
  | _, [] => true
  | n, d :: ds => okD n d && okDs n ds
end
mutual
def toPy : D → PyData
  | .int i => .int i
  | .bl b => .bool b
  | .str x => .str x
  | .tup ds => .tuple (toPys ds)
  | .lst ds => .list (toPys ds)
  | _ => .none
def toPys : List D → List PyData
  | [] => []
  | d :: ds => toPy d :: toPys ds
end
mutual
def deq : D → D → Bool
  | .non, .non => true
  | .bl a, .bl b => a == b
  | .bl a, .int j => (if a then 1 else 0) == j
  | .int i, .bl b => i == (if b then 1 else 0)
  | .int i, .int j => i == j
  | .str x, .str y => x == y
  | .lst xs, .lst ys => deqs xs ys
  | .tup xs, .tup ys => deqs xs ys
  | _, _ => false
def deqs : List D → List D → Bool
  | [], [] => true
  | x :: xs, y :: ys => deq x y && deqs xs ys
  | _, _ => false
end
mutual
theorem okD_lay : ∀ (n : Nat) (d : D), okD n d = true → Lay n (toPy d)
  | n, .int _, _ => lay_int
  | n, .bl _, _ => lay_bool
  | n, .non, _ => lay_none
  | n, .str x, h => ⟨by cases n <;> exact h, Nat.zero_le _⟩
  | 0, .tup _, h => by cases h
  | 0, .lst _, h => by cases h
  | n + 1, .tup ds, h => ⟨(okDs_lay n ds h).1, Nat.succ_le_succ (okDs_lay n ds h).2⟩
  | n + 1, .lst ds, h => ⟨(okDs_lay n ds h).1, Nat.succ_le_succ (okDs_lay n ds h).2⟩
  | n, .ty _, h => by cases n <;> cases h
  | n, .dK _ _, h => by cases n <;> cases h
  | n, .dT _ _, h => by cases n <;> cases h
  | n, .obj _ _ _, h => by cases n <;> cases h
  | n, .exn _ _ _ _ _, h => by cases n <;> cases h
  | n, .kt _, h => by cases n <;> cases h
theorem okDs_lay : ∀ (n : Nat) (ds : List D), okDs n ds = true → PyData.canLayAll0 (toPys ds) = true ∧ PyData.depthAll (toPys ds) ≤ n
  | n, [], _ => ⟨rfl, Nat.zero_le _⟩
  | n, d :: ds, h => by
    have h' : (okD n d && okDs n ds) = true := h
    rw [Bool.and_eq_true] at h'
    have h1 := okD_lay n d h'.1
    have h2 := okDs_lay n ds h'.2
    refine ⟨?_, ?_⟩
    · show ((toPy d).canLay0 && PyData.canLayAll0 (toPys ds)) = true
      rw [h1.1, h2.1]
      rfl
    · show max (toPy d).depth (PyData.depthAll (toPys ds)) ≤ n
      exact Nat.max_le.mpr ⟨h1.2, h2.2⟩
end
section
variable {K : PySem.W.Frag} {U H : Hp}
mutual
theorem okD_dp (s : Same U H) : ∀ (n : Nat) (d : D) (v : V), okD n d = true → R K U d v → Dp K H v (toPy d)
  | n, .int i, v, _, r => by rw [show v = .int i from r]; exact .int i
  | n, .bl i, v, _, r => by rw [show v = .bl i from r]; exact .bl i
  | n, .non, v, _, r => by rw [show v = .non from r]; exact .non
  | n, .str x, v, h, r => by rw [show v = .str x from r]; exact .str x
  | 0, .tup _, _, h, _ => by cases h
  | 0, .lst _, _, h, _ => by cases h
  | n + 1, .tup ds, v, h, ⟨a, xs, e, h1, h2⟩ => by rw [e]; exact .tup (Same.tup s h1) (okDs_dp s n ds xs h h2)
  | n + 1, .lst ds, v, h, ⟨a, xs, e, h1, h2⟩ => by rw [e]; exact .lst (SqL.of (s _ _ h1)) (okDs_dp s n ds xs h h2)
  | n, .ty _, _, h, _ => by cases n <;> cases h
  | n, .dK _ _, _, h, _ => by cases n <;> cases h
  | n, .dT _ _, _, h, _ => by cases n <;> cases h
  | n, .obj _ _ _, _, h, _ => by cases n <;> cases h
  | n, .exn _ _ _ _ _, _, h, _ => by cases n <;> cases h
  | n, .kt _, _, h, _ => by cases n <;> cases h
theorem okDs_dp (s : Same U H) : ∀ (n : Nat) (ds : List D) (vs : List V), okDs n ds = true → Rs K U ds vs → DpAll K H vs (toPys ds)
  | n, [], vs, _, r => by rw [show vs = [] from r]; exact .nil
  | n, d :: ds, vs, h, ⟨v, r, e, h1, h2⟩ => by
    have h' : (okD n d && okDs n ds) = true := h
    rw [Bool.and_eq_true] at h'
    rw [e]
    exact .cons (okD_dp s n d v h'.1 h1) (okDs_dp s n ds r h'.2 h2)
end
theorem cr_dp {d : D} {v : V} (s : Same U H) (c : CR K U H d v) (h : okD 8 d = true) : Dp K H v (toPy d) := by
  obtain ⟨av, r, f⟩ := c
  cases av with
  | fz d' => cases f; exact okD_dp s 8 _ v h r
  | ol ds =>
    cases f
    obtain ⟨p, xs, rfl, e1, e2⟩ := r
    exact .lst (SqL.of e1) (okDs_dp s 7 ds xs h e2)
  | ok ks ds => cases f; cases h
  | ot ks ds => cases f; cases h
  | on ws as =>
    cases f
    obtain ⟨p, rfl, e1, e2⟩ := r
    exact .lst (SqL.of e1) (okDs_dp s 7 _ _ h (seens_r e2))
  | ut ws as =>
    cases f
    obtain ⟨p, rfl, e1, e2⟩ := r
    exact okD_dp s 8 _ _ h ⟨p, _, rfl, e1, seens_r e2⟩
  | ob C dx ns ws as => cases f; cases h
  | _ => cases f
end
mutual
theorem eqv_deq : ∀ (n m : Nat) (d e : D), okD n d = true → okD m e = true → PyData.eqv (toPy d) (toPy e) = deq d e
  | n, m, .int _, .int _, _, _ => rfl
  | n, m, .int _, .bl _, _, _ => rfl
  | n, m, .bl _, .int _, _, _ => rfl
  | n, m, .bl _, .bl _, _, _ => rfl
  | n, m, .non, .non, _, _ => rfl
  | n, m, .str _, .str _, _, _ => rfl
  | n + 1, m + 1, .tup xs, .tup ys, h, k => eqvs_deqs n m xs ys h k
  | n + 1, m + 1, .lst xs, .lst ys, h, k => eqvs_deqs n m xs ys h k
  | n, m, .int _, .non, _, _ => rfl
  | n, m, .int _, .str _, _, _ => rfl
  | n, m, .int _, .tup _, _, _ => rfl
  | n, m, .int _, .lst _, _, _ => rfl
  | n, m, .bl _, .non, _, _ => rfl
  | n, m, .bl _, .str _, _, _ => rfl
  | n, m, .bl _, .tup _, _, _ => rfl
  | n, m, .bl _, .lst _, _, _ => rfl
  | n, m, .non, .int _, _, _ => rfl
  | n, m, .non, .bl _, _, _ => rfl
  | n, m, .non, .str _, _, _ => rfl
  | n, m, .non, .tup _, _, _ => rfl
  | n, m, .non, .lst _, _, _ => rfl
  | n, m, .str _, .int _, _, _ => rfl
  | n, m, .str _, .bl _, _, _ => rfl
  | n, m, .str _, .non, _, _ => rfl
  | n, m, .str _, .tup _, _, _ => rfl
  | n, m, .str _, .lst _, _, _ => rfl
  | n, m, .tup _, .int _, _, _ => rfl
  | n, m, .tup _, .bl _, _, _ => rfl
  | n, m, .tup _, .non, _, _ => rfl
  | n, m, .tup _, .str _, _, _ => rfl
  | n, m, .tup _, .lst _, _, _ => rfl
  | n, m, .lst _, .int _, _, _ => rfl
  | n, m, .lst _, .bl _, _, _ => rfl
  | n, m, .lst _, .non, _, _ => rfl
  | n, m, .lst _, .str _, _, _ => rfl
  | n, m, .lst _, .tup _, _, _ => rfl
  | 0, m, .tup _, .tup _, h, _ => by cases h
  | n + 1, 0, .tup _, .tup _, _, k => by cases k
  | 0, m, .lst _, .lst _, h, _ => by cases h
  | n + 1, 0, .lst _, .lst _, _, k => by cases k
  | n, m, .ty _, _, h, _ => by cases n <;> cases h
  | n, m, .dK _ _, _, h, _ => by cases n <;> cases h
  | n, m, .dT _ _, _, h, _ => by cases n <;> cases h
  | n, m, .obj _ _ _, _, h, _ => by cases n <;> cases h
  | n, m, .exn _ _ _ _ _, _, h, _ => by cases n <;> cases h
  | n, m, .kt _, _, h, _ => by cases n <;> cases h
  | n, m, _, .ty _, _, h => by cases m <;> cases h
  | n, m, _, .dK _ _, _, h => by cases m <;> cases h
  | n, m, _, .dT _ _, _, h => by cases m <;> cases h
  | n, m, _, .obj _ _ _, _, h => by cases m <;> cases h
  | n, m, _, .exn _ _ _ _ _, _, h => by cases m <;> cases h
  | n, m, _, .kt _, _, h => by cases m <;> cases h
theorem eqvs_deqs : ∀ (n m : Nat) (xs ys : List D), okDs n xs = true → okDs m ys = true → PyData.eqvAll (toPys xs) (toPys ys) = deqs xs ys
  | n, m, [], [], _, _ => rfl
  | n, m, x :: xs, y :: ys, h, k => by
    have h' : (okD n x && okDs n xs) = true := h
    have k' : (okD m y && okDs m ys) = true := k
    rw [Bool.and_eq_true] at h' k'
    show (PyData.eqv (toPy x) (toPy y) && PyData.eqvAll (toPys xs) (toPys ys)) = (deq x y && deqs xs ys)
    rw [eqv_deq n m x y h'.1 k'.1, eqvs_deqs n m xs ys h'.2 k'.2]
  | n, m, [], _ :: _, _, _ => rfl
  | n, m, _ :: _, [], _, _ => rfl
end
section
variable {K : PySem.W.Frag} {U H : Hp}
def oNeD : D → D → (D → Prop) → Prop := fun d e Q => okD 8 d = true ∧ okD 8 e = true ∧ Q (.bl (!deq d e))
theorem op_neDD : OpD K (rNeD K) oNeD := fun U H v w d e Q q s cd ce z k => by
  obtain ⟨h1, h2, z⟩ := z
  refine ⟨toPy d, toPy e, cr_dp s cd h1, cr_dp s ce h2, (okD_lay 8 d h1).shaped (by decide), (okD_lay 8 e h2).shaped (by decide), ?_⟩
  rw [eqv_deq 8 8 d e h1 h2]
  exact k U H (.bl _) _ (Gr.refl s) rfl z
end
abbrev AP := Env → (Option Int → Prop) → (Exn → Prop) → Prop
section
variable {c : DC} {U H : Hp} {te : TE} {e : AE}
def SimP (c : DC) (t : TO) (e : AP) : Prop := ∀ (U H : Hp) (σ : L2.St) (ρ : Env) (Q : Option Int → Prop) (q : Option Int → Hp → Prop), DI c U H σ ρ → e ρ Q (c.x ρ) →
  (∀ U' H' o, Gr (drs ρ σ) U H U' H' → DI c U' H' σ ρ → Q o → q o H') → t σ H q
def aNoPart : AP := fun _ Q _ => Q none
def aPart (e : AE) : AP := fun ρ Q X => e ρ (intQ fun i => Q (some i)) X
theorem sim_part (h : SimW c te e) : SimP c (tPart te) (aPart e) := fun U H σ ρ Q q I z k => h U H σ ρ _ _ I z fun U1 H1 d v g1 I1 w1 z1 => by
  obtain ⟨i, rfl, z2⟩ := intQ_of z1
  exact ⟨i, (w1.cr I1).int, k U1 H1 (some i) g1 I1 z2⟩
def SlO (K : PySem.W.Frag) (r : V → Option Int → Option Int → Hp → VK → Prop) (f : D → Option Int → Option Int → (AV → Prop) → Prop) : Prop := ∀ (U H : Hp) (v : V) (d : D) (lo hi : Option Int) (Q : AV → Prop) (q : VK), Same U H → CR K U H d v → f d lo hi Q →
  (∀ U' H' av u, Gr [] U H U' H' → RepA K U' H' av u → Fresh U' H av u → Q av → q u H') → r v lo hi H q
def aSl (f : D → Option Int → Option Int → (D → Prop) → Prop) (a : AE) (lo hi : AP) : AE := fun ρ Q X => a ρ (fun d => lo ρ (fun l => hi ρ (fun h => f d l h Q) X) X) X
def aSlO (f : D → Option Int → Option Int → (AV → Prop) → Prop) (a : AE) (lo hi : AP) : AO := fun ρ Q X => a ρ (fun d => lo ρ (fun l => hi ρ (fun h => f d l h Q) X) X) X
theorem sim_slO {r : V → Option Int → Option Int → Hp → VK → Prop} {f : D → Option Int → Option Int → (AV → Prop) → Prop} {tl th : TO} {l h : AP} (hf : SlO c.K r f) (ha : SimW c te e) (hl : SimP c tl l) (hh : SimP c th h) : SimO c (tSl r te tl th) (aSlO f e l h) := fun U H σ ρ Q q I z k =>
  ha U H σ ρ _ _ I z fun U1 H1 d v g1 I1 w1 z1 => hl U1 H1 σ ρ _ _ I1 z1 fun U2 H2 lo g2 I2 z2 => hh U2 H2 σ ρ _ _ I2 z2 fun U3 H3 hi g3 I3 z3 =>
    hf U3 H3 v d lo hi Q q I3.vh ((w1.mono (g2.vv.trans g3.vv)).cr I3) z3 fun U4 H4 y u g4 r4 n4 z4 => k U4 H4 y u (((g1.trans g2).trans g3).trans g4.any) (I3.grow g4) r4 (n4.back fun _ h => ((g1.trans g2).trans g3).fresh h) z4
def cutD (xs : List D) (lo hi : Option Int) : List D := (xs.drop (HT.sIx xs.length 0 lo)).take (HT.sIx xs.length xs.length hi - HT.sIx xs.length 0 lo)
theorem cut_r {K : PySem.W.Frag} {ds : List D} {xs : List V} (r : Rs K U ds xs) (lo hi : Option Int) : Rs K U (cutD ds lo hi) (cutV xs lo hi) := by
  unfold cutD cutV
  rw [r.len]
  exact (r.drop _).take _
def oSlL : D → Option Int → Option Int → (AV → Prop) → Prop := fun d lo hi Q => lstQ (fun ds => Q (.ol (cutD ds lo hi))) d
def oSlT : D → Option Int → Option Int → (D → Prop) → Prop := fun d lo hi Q => tupQ (fun ds => Q (.tup (cutD ds lo hi))) d
theorem sl_lD {K : PySem.W.Frag} : SlO K (rSlL K) oSlL := fun U H v d lo hi Q q s cd z k => by
  obtain ⟨ds, rfl, z⟩ := lstQ_of z
  obtain ⟨a, xs, rfl, h1, h2⟩ := cd.lst s
  exact ⟨a, xs, rfl, SqL.of h1, fun p np => own_new s np (cut_r h2 lo hi) z k⟩
def aRev (e : AE) : AO := fun ρ Q X => e ρ (lstQ fun ds => Q (.ol ds.reverse)) X
theorem Rs.rev {K : PySem.W.Frag} : ∀ {ds : List D} {xs : List V}, Rs K U ds xs → Rs K U ds.reverse xs.reverse
  | [], _, h => by rw [show _ = [] from h]; rfl
  | d :: ds, _, ⟨v, r, e, h1, h2⟩ => by
    rw [e, List.reverse_cons, List.reverse_cons]
    exact (Rs.rev h2).snoc h1
end
def aSeal (i : Nat) (a : AS) : AS := fun N ρ => match ρ[i]? with
  | some (some av) => frzQ (fun d => a N (ρ.set i (some (.fz d)))) av
  | _ => False
theorem sim_seal {c : DC} {t : TS} {a : AS} {i : Nat} (hi : noPar c i = true) (h : SimS c t a) : SimS c t (aSeal i a) := fun U H σ ρ N n hx I z P => by
  unfold aSeal at z
  split at z
  · rename_i av e
    obtain ⟨d, f, z2⟩ := frzQ_some z
    obtain ⟨w, e1, r, m⟩ := rep_at I.rep i av e
    have nu := own_unset I.nd e e1
    have fr : ∀ p ∈ own av w, U p = none := fun p hp => (I.out p (m p hp)).1
    have I1 := (I.unset i hi).sealL (as := own av w) (fun p hp => ⟨fr p hp, I.nw i av w hi e e1 p hp, nu p hp⟩) (own_pl av w r)
    have I2 := I1.setF (i := i) (RepA.frozen fr av w d r f fun _ h => h) hi
    rw [List.set_set, set_same e1] at I2
    exact h _ H σ _ N n hx I2 z2 (P.mono (seal_same fr))
  · exact z.elim
theorem units65 {k : Nat} {A : Around} (r : Room k A) : A.units + 65 < cLine := by have := r.un; omega
theorem cond_dec {p : Prop} [Decidable p] {A B : Prop} (h1 : p → A) (h2 : ¬ p → B) : cond (decide p) A B := by
  by_cases h : p
  · rw [decide_eq_true h]; exact h1 h
  · rw [decide_eq_false h]; exact h2 h
theorem cond_not {b : Bool} {A B : Prop} (h : cond b B A) : cond (!b) A B := by
  cases b <;> exact h
end SW
namespace SW
open PySem PySem.Spec PyProof.Rows L2
variable [QN]
theorem loop_inv {g : AG} {b : AS} {N : AEnds} {ds : List D} {ρ : Env} (Inv : Nat → Env → Prop) (h0 : Inv 0 ρ)
    (hs : ∀ (i : Nat) (d : D) (ρ : Env) (K : Env → Prop), ds[i]? = some d → Inv i ρ → (∀ ρ', Inv (i + 1) ρ' → K ρ') → g d ρ (fun ρ2 => b ⟨K, N.rt, N.nx, K, N.ex⟩ ρ2)) (hd : ∀ ρ, Inv ds.length ρ → N.nx ρ) : aLoop g b N ds ρ := by
  have go : ∀ (k : Nat) (ρ : Env), k ≤ ds.length → Inv (ds.length - k) ρ → aLoop g b N (ds.drop (ds.length - k)) ρ := by
    intro k
    induction k with
    | zero =>
      intro ρ _ h
      rw [Nat.sub_zero] at h ⊢
      rw [List.drop_length]
      exact hd ρ h
    | succ k ih =>
      intro ρ hk h
      have hl : ds.length - (k + 1) < ds.length := by omega
      have e : ds[ds.length - (k + 1)]? = some ds[ds.length - (k + 1)] := List.getElem?_eq_getElem hl
      rw [drop_at e]
      refine hs _ _ ρ _ e h fun ρ' h' => ?_
      have e2 : ds.length - (k + 1) + 1 = ds.length - k := by omega
      rw [e2] at h' ⊢
      exact ih ρ' (by omega) h'
  have := go ds.length ρ (Nat.le_refl _) (by rw [Nat.sub_self]; exact h0)
  rwa [Nat.sub_self, List.drop_zero] at this
theorem rngD_at {lo : Int} {n i : Nat} {d : D} (h : (rngD lo n)[i]? = some d) : i < n ∧ d = .int (lo + (i : Nat)) := by
  unfold rngD at h
  rw [List.getElem?_map] at h
  cases e : (List.range n)[i]? with
  | none => rw [e] at h; cases h
  | some k =>
    rw [e] at h
    obtain ⟨hk, e2⟩ := List.getElem?_eq_some_iff.mp e
    rw [List.getElem_range] at e2
    rw [List.length_range] at hk
    subst e2
    exact ⟨hk, (Option.some.inj h).symm⟩
theorem rngD_len {lo : Int} {n : Nat} : (rngD lo n).length = n := by unfold rngD; rw [List.length_map, List.length_range]
/-- for k in range(n) -/
theorem loop_rng {g : AG} {b : AS} {N : AEnds} {lo : Int} {n : Nat} {ρ : Env} (Inv : Nat → Env → Prop) (h0 : Inv 0 ρ)
    (hs : ∀ (i : Nat) (ρ : Env) (K : Env → Prop), i < n → Inv i ρ → (∀ ρ', Inv (i + 1) ρ' → K ρ') → g (.int (lo + (i : Nat))) ρ (fun ρ2 => b ⟨K, N.rt, N.nx, K, N.ex⟩ ρ2)) (hd : ∀ ρ, Inv n ρ → N.nx ρ) : aLoop g b N (rngD lo n) ρ :=
  loop_inv Inv h0 (fun i d ρ K e h k => by
    obtain ⟨hi, rfl⟩ := rngD_at e
    exact hs i ρ K hi h k) (fun ρ h => hd ρ (by rw [rngD_len] at h; exact h))
section
variable {g : AG} {tt : AT} {te : AE} {ρ : Env} {X : Exn → Prop} {Q : List D → Prop}
theorem comp_rel {ds acc : List D} (P : D → D → Prop) (hl : acc.length + ds.length ≤ 1000000) (h : ∀ d ∈ ds, ∀ Q : D → Prop, (∀ y, P d y → Q y) → g d ρ (fun ρ2 => te ρ2 Q X)) (q : ∀ ys, Paired P ds ys → Q (acc ++ ys)) : aComp g aYes te ρ X ds acc Q := by
  induction ds generalizing acc with
  | nil =>
    have := q [] .nil
    rwa [List.append_nil] at this
  | cons d ds ih =>
    rw [List.length_cons] at hl
    refine h d List.mem_cons_self _ fun y hy => ⟨by omega, ih (by rw [List.length_append]; show acc.length + 1 + _ ≤ _; omega) (fun e he => h e (List.mem_cons_of_mem _ he)) fun ys hys => ?_⟩
    have := q (y :: ys) (.cons hy hys)
    rwa [List.append_assoc]
theorem comp_map {ds acc : List D} (f : D → D) (hl : acc.length + ds.length ≤ 1000000) (h : ∀ d ∈ ds, ∀ Q : D → Prop, Q (f d) → g d ρ (fun ρ2 => te ρ2 Q X)) (q : Q (acc ++ ds.map f)) : aComp g aYes te ρ X ds acc Q := by
  refine comp_rel (fun d y => y = f d) hl (fun d hd Q k => h d hd Q (k _ rfl)) fun ys hys => ?_
  have : ys = ds.map f := by
    clear q h hl
    induction hys with
    | nil => rfl
    | cons h t ih => rw [h, ih]; rfl
  rw [this]
  exact q
theorem comp_filter {ds acc : List D} (p : D → Bool) (f : D → D) (hl : acc.length + ds.length ≤ 1000000)
    (h : ∀ d ∈ ds, ∀ (Q : D → Prop) (A : Prop), (p d = true → Q (f d)) → (p d = false → A) → g d ρ (fun ρ2 => tt ρ2 (fun b => cond b (te ρ2 Q X) A) X)) (q : Q (acc ++ (ds.filter p).map f)) : aComp g tt te ρ X ds acc Q := by
  induction ds generalizing acc with
  | nil => rwa [List.filter_nil, List.map_nil, List.append_nil] at q
  | cons d ds ih =>
    rw [List.length_cons] at hl
    refine h d List.mem_cons_self _ _ (fun hp => ⟨by omega, ih (by rw [List.length_append]; show acc.length + 1 + _ ≤ _; omega) (fun e he => h e (List.mem_cons_of_mem _ he)) ?_⟩) (fun hp => ih (by omega) (fun e he => h e (List.mem_cons_of_mem _ he)) ?_)
    · rw [List.filter_cons_of_pos hp, List.map_cons] at q
      rwa [List.append_assoc]
    · rwa [List.filter_cons_of_neg (by rw [hp]; exact Bool.false_ne_true)] at q
end
/-- numbers within bounds, one for each -/
theorem paired_ints {α : Type} {P : Int → Prop} : ∀ {xs : List α} {ys : List D}, Paired (fun _ y => ∃ i, y = .int i ∧ P i) xs ys → ∃ ns : List Int, ys = ns.map D.int ∧ ns.length = xs.length ∧ ∀ n ∈ ns, P n
  | _, _, .nil => ⟨[], rfl, rfl, fun n h => by cases h⟩
  | _, _, .cons ⟨i, h1, h2⟩ t => by
    obtain ⟨ns, e1, e2, e3⟩ := paired_ints t
    refine ⟨i :: ns, by rw [h1, e1]; rfl, by rw [List.length_cons, List.length_cons, e2], fun n hn => ?_⟩
    rcases List.mem_cons.mp hn with rfl | hn
    · exact h2
    · exact e3 n hn
theorem atI_nat {α : Type} {xs : List α} {i : Nat} {x : α} (h : xs[i]? = some x) : atI xs (i : Int) = some x := by
  unfold atI
  rw [ixN_of rfl (List.getElem?_eq_some_iff.mp h).1]
  exact h
theorem atI_map {α : Type} {f : α → D} {xs : List α} {i : Nat} {x : α} (h : xs[i]? = some x) : atI (xs.map f) (i : Int) = some (f x) := atI_nat (by rw [List.getElem?_map, h]; rfl)
theorem ixN_nat {n i : Nat} (h : i < n) : ixN n (i : Int) = some i := ixN_of rfl h
end SW
namespace SW
open PySem PySem.Spec PyProof.Rows L2
variable [QN]
instance s_len1 {α : Type} {x0 : α} {P : Prop} : Stp (List.length [x0] ≤ 1000000 ∧ P) P := ⟨fun h => ⟨Nat.le_of_ble_eq_true rfl, h⟩⟩
instance s_len2 {α : Type} {x0 x1 : α} {P : Prop} : Stp (List.length [x0, x1] ≤ 1000000 ∧ P) P := ⟨fun h => ⟨Nat.le_of_ble_eq_true rfl, h⟩⟩
instance s_len3 {α : Type} {x0 x1 x2 : α} {P : Prop} : Stp (List.length [x0, x1, x2] ≤ 1000000 ∧ P) P := ⟨fun h => ⟨Nat.le_of_ble_eq_true rfl, h⟩⟩
instance s_len4 {α : Type} {x0 x1 x2 x3 : α} {P : Prop} : Stp (List.length [x0, x1, x2, x3] ≤ 1000000 ∧ P) P := ⟨fun h => ⟨Nat.le_of_ble_eq_true rfl, h⟩⟩
instance s_len5 {α : Type} {x0 x1 x2 x3 x4 : α} {P : Prop} : Stp (List.length [x0, x1, x2, x3, x4] ≤ 1000000 ∧ P) P := ⟨fun h => ⟨Nat.le_of_ble_eq_true rfl, h⟩⟩
instance s_len6 {α : Type} {x0 x1 x2 x3 x4 x5 : α} {P : Prop} : Stp (List.length [x0, x1, x2, x3, x4, x5] ≤ 1000000 ∧ P) P := ⟨fun h => ⟨Nat.le_of_ble_eq_true rfl, h⟩⟩
instance s_len7 {α : Type} {x0 x1 x2 x3 x4 x5 x6 : α} {P : Prop} : Stp (List.length [x0, x1, x2, x3, x4, x5, x6] ≤ 1000000 ∧ P) P := ⟨fun h => ⟨Nat.le_of_ble_eq_true rfl, h⟩⟩
instance s_len8 {α : Type} {x0 x1 x2 x3 x4 x5 x6 x7 : α} {P : Prop} : Stp (List.length [x0, x1, x2, x3, x4, x5, x6, x7] ≤ 1000000 ∧ P) P := ⟨fun h => ⟨Nat.le_of_ble_eq_true rfl, h⟩⟩
instance s_len9 {α : Type} {x0 x1 x2 x3 x4 x5 x6 x7 x8 : α} {P : Prop} : Stp (List.length [x0, x1, x2, x3, x4, x5, x6, x7, x8] ≤ 1000000 ∧ P) P := ⟨fun h => ⟨Nat.le_of_ble_eq_true rfl, h⟩⟩
instance s_len10 {α : Type} {x0 x1 x2 x3 x4 x5 x6 x7 x8 x9 : α} {P : Prop} : Stp (List.length [x0, x1, x2, x3, x4, x5, x6, x7, x8, x9] ≤ 1000000 ∧ P) P := ⟨fun h => ⟨Nat.le_of_ble_eq_true rfl, h⟩⟩
section
variable {ρ ρ' : Env} {nx bk ct : Env → Prop} {rt : AV → Env → Prop} {ex : Exn → Env → Prop} {X : Exn → Prop} {Q : D → Prop} {O : AV → Prop} {L : List D → Prop} {a b e e' : AE} {o : AO} {r : AL} {t u : AT} {sa sb : AS} {i j : Nat} {d d' : D} {ds es : List D} {av : AV}
theorem w_seq (q : sa ⟨fun ρ' => sb ⟨nx, rt, bk, ct, ex⟩ ρ', rt, bk, ct, ex⟩ ρ) : aSeq sa sb ⟨nx, rt, bk, ct, ex⟩ ρ := q
instance s_seq  : Stp (aSeq sa sb ⟨nx, rt, bk, ct, ex⟩ ρ) (sa ⟨fun ρ' => sb ⟨nx, rt, bk, ct, ex⟩ ρ', rt, bk, ct, ex⟩ ρ) := ⟨w_seq⟩
theorem w_next (q : nx ρ) : aNext ⟨nx, rt, bk, ct, ex⟩ ρ := q
instance s_next  : Stp (aNext ⟨nx, rt, bk, ct, ex⟩ ρ) (nx ρ) := ⟨w_next⟩
theorem w_set (q : e ρ (fun d => nx (ρ.set i (some (.fz d)))) (fun x => ex x ρ)) : aSet i e ⟨nx, rt, bk, ct, ex⟩ ρ := q
instance s_set  : Stp (aSet i e ⟨nx, rt, bk, ct, ex⟩ ρ) (e ρ (fun d => nx (ρ.set i (some (.fz d)))) (fun x => ex x ρ)) := ⟨w_set⟩
theorem w_setO (q : o ρ (fun av => nx (ρ.set i (some av))) (fun x => ex x ρ)) : aSetO i o ⟨nx, rt, bk, ct, ex⟩ ρ := q
instance s_setO  : Stp (aSetO i o ⟨nx, rt, bk, ct, ex⟩ ρ) (o ρ (fun av => nx (ρ.set i (some av))) (fun x => ex x ρ)) := ⟨w_setO⟩
theorem w_drop (q : e ρ (fun _ => nx ρ) (fun x => ex x ρ)) : aDrop e ⟨nx, rt, bk, ct, ex⟩ ρ := q
instance s_drop  : Stp (aDrop e ⟨nx, rt, bk, ct, ex⟩ ρ) (e ρ (fun _ => nx ρ) (fun x => ex x ρ)) := ⟨w_drop⟩
theorem w_ret (q : e ρ (fun d => rt (.fz d) ρ) (fun x => ex x ρ)) : aRet e ⟨nx, rt, bk, ct, ex⟩ ρ := q
instance s_ret  : Stp (aRet e ⟨nx, rt, bk, ct, ex⟩ ρ) (e ρ (fun d => rt (.fz d) ρ) (fun x => ex x ρ)) := ⟨w_ret⟩
theorem w_retO (q : o ρ (fun av => rt av ρ) (fun x => ex x ρ)) : aRetO o ⟨nx, rt, bk, ct, ex⟩ ρ := q
instance s_retO  : Stp (aRetO o ⟨nx, rt, bk, ct, ex⟩ ρ) (o ρ (fun av => rt av ρ) (fun x => ex x ρ)) := ⟨w_retO⟩
theorem w_retN (q : rt (.fz .non) ρ) : aRetN ⟨nx, rt, bk, ct, ex⟩ ρ := q
instance s_retN  : Stp (aRetN ⟨nx, rt, bk, ct, ex⟩ ρ) (rt (.fz .non) ρ) := ⟨w_retN⟩
theorem w_retV (h : ρ[i]? = some (some (.ol ds))) (q : rt (.ol ds) (ρ.set i none)) : aRetV i ⟨nx, rt, bk, ct, ex⟩ ρ := by unfold aRetV; rw [h]; exact q
instance s_retV  : St1 (β := List D) (aRetV i ⟨nx, rt, bk, ct, ex⟩ ρ) (fun ds => ρ[i]? = some (some (.ol ds))) (fun ds => rt (.ol ds) (ρ.set i none)) := ⟨fun _ h q => w_retV h q⟩
theorem w_if (q : t ρ (fun x => cond x (sa ⟨nx, rt, bk, ct, ex⟩ ρ) (sb ⟨nx, rt, bk, ct, ex⟩ ρ)) (fun x => ex x ρ)) : aIf t sa sb ⟨nx, rt, bk, ct, ex⟩ ρ := q
instance s_if  : Stp (aIf t sa sb ⟨nx, rt, bk, ct, ex⟩ ρ) (t ρ (fun x => cond x (sa ⟨nx, rt, bk, ct, ex⟩ ρ) (sb ⟨nx, rt, bk, ct, ex⟩ ρ)) (fun x => ex x ρ)) := ⟨w_if⟩
theorem w_brk (q : bk ρ) : aBrk ⟨nx, rt, bk, ct, ex⟩ ρ := q
instance s_brk  : Stp (aBrk ⟨nx, rt, bk, ct, ex⟩ ρ) (bk ρ) := ⟨w_brk⟩
theorem w_cnt (q : ct ρ) : aCnt ⟨nx, rt, bk, ct, ex⟩ ρ := q
instance s_cnt  : Stp (aCnt ⟨nx, rt, bk, ct, ex⟩ ρ) (ct ρ) := ⟨w_cnt⟩
theorem w_raise {C : Addr} (q : ex ⟨C, [], []⟩ ρ) : aRaise C ⟨nx, rt, bk, ct, ex⟩ ρ := q
instance s_raise {C : Addr} : Stp (aRaise C ⟨nx, rt, bk, ct, ex⟩ ρ) (ex ⟨C, [], []⟩ ρ) := ⟨w_raise⟩
theorem w_var (h : ρ[i]? = some (some (.fz d))) (q : Q d) : aVar i ρ Q X := by unfold aVar; rw [h]; exact q
instance s_var  : St1 (β := D) (aVar i ρ Q X) (fun d => ρ[i]? = some (some (.fz d))) (fun d => Q d) := ⟨fun _ h q => w_var h q⟩
theorem w_varW (h : ρ[i]? = some (some av)) (f : av.sh = some d) (q : Q d) : aVarW i ρ Q X := by
  unfold aVarW
  rw [h]
  cases av <;> first | (cases f; exact q) | cases f
instance s_varW  : St2 (β := AV) (γ := D) (aVarW i ρ Q X) (fun av d => ρ[i]? = some (some av)) (fun av d => av.sh = some d) (fun av d => Q d) := ⟨fun _ _ h f q => w_varW h f q⟩
theorem w_c (q : Q d) : aC d ρ Q X := q
instance s_c  : Stp (aC d ρ Q X) (Q d) := ⟨w_c⟩
theorem w_op {f : D → D → (D → Prop) → Prop} (q : a ρ (fun d => b ρ (fun e => f d e Q) X) X) : aOp f a b ρ Q X := q
instance s_op {f : D → D → (D → Prop) → Prop} : Stp (aOp f a b ρ Q X) (a ρ (fun d => b ρ (fun e => f d e Q) X) X) := ⟨w_op⟩
theorem w_opO {f : D → D → (AV → Prop) → Prop} (q : a ρ (fun d => b ρ (fun e => f d e O) X) X) : aOpO f a b ρ O X := q
instance s_opO {f : D → D → (AV → Prop) → Prop} : Stp (aOpO f a b ρ O X) (a ρ (fun d => b ρ (fun e => f d e O) X) X) := ⟨w_opO⟩
theorem w_un {f : D → (D → Prop) → Prop} (q : a ρ (fun d => f d Q) X) : aUn f a ρ Q X := q
instance s_un {f : D → (D → Prop) → Prop} : Stp (aUn f a ρ Q X) (a ρ (fun d => f d Q) X) := ⟨w_un⟩
theorem w_oI {g : Int → Int → D} {x y : Int} (q : Q (g x y)) : oI g (.int x) (.int y) Q := q
instance s_oI {g : Int → Int → D} {x y : Int} : Stp (oI g (.int x) (.int y) Q) (Q (g x y)) := ⟨w_oI⟩
theorem w_oIC {C : Int → Int → Prop} {g : Int → Int → D} {x y : Int} (c : C x y) (q : Q (g x y)) : oIC C g (.int x) (.int y) Q := ⟨c, q⟩
theorem w_oU {g : Int → D} {x : Int} (q : Q (g x)) : oU g (.int x) Q := q
instance s_oU {g : Int → D} {x : Int} : Stp (oU g (.int x) Q) (Q (g x)) := ⟨w_oU⟩
theorem w_oEq {k : Bool} (h : eqS d d' = some k) (q : Q (.bl k)) : oEq d d' Q := by unfold oEq; rw [h]; exact q
instance s_oEq  : St1 (β := Bool) (oEq d d' Q) (fun k => eqS d d' = some k) (fun k => Q (.bl k)) := ⟨fun _ h q => w_oEq h q⟩
theorem w_oNe {k : Bool} (h : eqS d d' = some k) (q : Q (.bl (!k))) : oNe d d' Q := by unfold oNe; rw [h]; exact q
instance s_oNe  : St1 (β := Bool) (oNe d d' Q) (fun k => eqS d d' = some k) (fun k => Q (.bl (!k))) := ⟨fun _ h q => w_oNe h q⟩
theorem w_isN0 (q : Q (.bl true)) : oIsN .non .non Q := q
instance s_isN0  : Stp (oIsN .non .non Q) (Q (.bl true)) := ⟨w_isN0⟩
theorem w_isNi {x : Int} (q : Q (.bl false)) : oIsN (.int x) .non Q := q
instance s_isNi {x : Int} : Stp (oIsN (.int x) .non Q) (Q (.bl false)) := ⟨w_isNi⟩
theorem w_isNl (q : Q (.bl false)) : oIsN (.lst ds) .non Q := q
instance s_isNl  : Stp (oIsN (.lst ds) .non Q) (Q (.bl false)) := ⟨w_isNl⟩
theorem w_isNt (q : Q (.bl false)) : oIsN (.tup ds) .non Q := q
instance s_isNt  : Stp (oIsN (.tup ds) .non Q) (Q (.bl false)) := ⟨w_isNt⟩
theorem w_isNs {x : Str} (q : Q (.bl false)) : oIsN (.str x) .non Q := q
instance s_isNs {x : Str} : Stp (oIsN (.str x) .non Q) (Q (.bl false)) := ⟨w_isNs⟩
theorem w_isNo {C : Addr} {ns : List Str} (q : Q (.bl false)) : oIsN (.obj C ns ds) .non Q := q
instance s_isNo {C : Addr} {ns : List Str} : Stp (oIsN (.obj C ns ds) .non Q) (Q (.bl false)) := ⟨w_isNo⟩
theorem w_notN0 (q : Q (.bl false)) : oNotN .non .non Q := q
instance s_notN0  : Stp (oNotN .non .non Q) (Q (.bl false)) := ⟨w_notN0⟩
theorem w_notNi {x : Int} (q : Q (.bl true)) : oNotN (.int x) .non Q := q
instance s_notNi {x : Int} : Stp (oNotN (.int x) .non Q) (Q (.bl true)) := ⟨w_notNi⟩
theorem w_notNl (q : Q (.bl true)) : oNotN (.lst ds) .non Q := q
instance s_notNl  : Stp (oNotN (.lst ds) .non Q) (Q (.bl true)) := ⟨w_notNl⟩
theorem w_notNt (q : Q (.bl true)) : oNotN (.tup ds) .non Q := q
instance s_notNt  : Stp (oNotN (.tup ds) .non Q) (Q (.bl true)) := ⟨w_notNt⟩
theorem w_notNs {x : Str} (q : Q (.bl true)) : oNotN (.str x) .non Q := q
instance s_notNs {x : Str} : Stp (oNotN (.str x) .non Q) (Q (.bl true)) := ⟨w_notNs⟩
theorem w_notNo {C : Addr} {ns : List Str} (q : Q (.bl true)) : oNotN (.obj C ns ds) .non Q := q
instance s_notNo {C : Addr} {ns : List Str} : Stp (oNotN (.obj C ns ds) .non Q) (Q (.bl true)) := ⟨w_notNo⟩
theorem w_ixL {k : Int} (h : atI ds k = some d) (q : Q d) : oIxL (.lst ds) (.int k) Q := by unfold oIxL; show someQ Q (atI ds k); rw [h]; exact q
theorem w_ixT {k : Int} (h : atI ds k = some d) (q : Q d) : oIxT (.tup ds) (.int k) Q := by unfold oIxT; show someQ Q (atI ds k); rw [h]; exact q
theorem w_inL (h : flatD d = true) (h' : ds.all flatD = true) (q : Q (.bl (inF d ds))) : oIn d (.lst ds) Q := ⟨h, h', q⟩
theorem w_catT (h : ds.length + es.length ≤ 1000000) (q : Q (.tup (ds ++ es))) : oCatT (.tup ds) (.tup es) Q := ⟨h, q⟩
theorem repD_one (d : D) : ∀ k : Nat, repD [d] k = List.replicate k d
  | 0 => rfl
  | k + 1 => by
    have := repD_one d k
    unfold repD at this ⊢
    rw [List.replicate_succ, List.flatten_cons, this, List.replicate_succ]
    rfl
theorem w_rep {k : Nat} (hk : k ≤ 1000000) (q : O (.ol (List.replicate k d))) : oRep (.lst [d]) (.int (k : Int)) O := by
  refine ⟨by omega, by omega, ?_, ?_⟩
  · rw [Int.toNat_natCast, List.length_singleton]; omega
  · rw [Int.toNat_natCast, repD_one]
    exact q
theorem w_fz (q : o ρ (frzQ Q) X) : aFz o ρ Q X := q
instance s_fz  : Stp (aFz o ρ Q X) (o ρ (frzQ Q) X) := ⟨w_fz⟩
theorem w_frzL (q : Q (.lst ds)) : frzQ Q (.ol ds) := q
instance s_frzL  : Stp (frzQ Q (.ol ds)) (Q (.lst ds)) := ⟨w_frzL⟩
theorem w_frzF (q : Q d) : frzQ Q (.fz d) := q
instance s_frzF  : Stp (frzQ Q (.fz d)) (Q d) := ⟨w_frzF⟩
theorem w_up (q : e ρ (fun d => O (.fz d)) X) : aUp e ρ O X := q
instance s_up  : Stp (aUp e ρ O X) (e ρ (fun d => O (.fz d)) X) := ⟨w_up⟩
theorem w_call0 {A : AF} {r : AA} (q : r ρ (callQ A ρ O fun _ => False) X) : aCall0 A r ρ O X := q
instance s_call0 {A : AF} {r : AA} : Stp (aCall0 A r ρ O X) (r ρ (callQ A ρ O fun _ => False) X) := ⟨w_call0⟩
theorem w_call {A : AF} {r : AA} (q : r ρ (callQ A ρ O X) X) : aCall A r ρ O X := q
instance s_call {A : AF} {r : AA} : Stp (aCall A r ρ O X) (r ρ (callQ A ρ O X) X) := ⟨w_call⟩
theorem w_arg {r : AA} {P : List Arg → Prop} (q : a ρ (fun d => r ρ (fun ds => P (.val d :: ds)) X) X) : aArg a r ρ P X := q
instance s_arg {r : AA} {P : List Arg → Prop} : Stp (aArg a r ρ P X) (a ρ (fun d => r ρ (fun ds => P (.val d :: ds)) X) X) := ⟨w_arg⟩
theorem w_slot {r : AA} {P : List Arg → Prop} (h : ρ[i]? = some (some .dr)) (q : r ρ (fun ds => P (.slot i :: ds)) X) : aSlot i r ρ P X := by unfold aSlot; rw [h]; exact q
instance s_slot {r : AA} {P : List Arg → Prop} : St0 (aSlot i r ρ P X) (ρ[i]? = some (some .dr)) (r ρ (fun ds => P (.slot i :: ds)) X) := ⟨fun h q => w_slot h q⟩
theorem w_args {P : List Arg → Prop} (q : P []) : aArgs ρ P X := q
instance s_args {P : List Arg → Prop} : Stp (aArgs ρ P X) (P []) := ⟨w_args⟩
theorem w_callQ {A : AF} {as : List Arg} {avs : List AV} (h1 : slots as ≤ 1) (h : argsAV ρ as = some avs) (q : A avs O X) : callQ A ρ O X as := ⟨h1, by rw [h]; exact q⟩
theorem w_draw {m : Int} (h0 : 0 < m) (h1 : m < 2 ^ 200) (q : ∀ r : Int, 0 ≤ r → r < m → O (.fz (.int r))) : A_draw [.dr, .fz (.int m)] O X := ⟨h0, h1, q⟩
theorem w_nil (q : L []) : aNil ρ L X := q
instance s_nil  : Stp (aNil ρ L X) (L []) := ⟨w_nil⟩
theorem w_cons (q : a ρ (fun d => r ρ (fun ds => L (d :: ds)) X) X) : aCons a r ρ L X := q
instance s_cons  : Stp (aCons a r ρ L X) (a ρ (fun d => r ρ (fun ds => L (d :: ds)) X) X) := ⟨w_cons⟩
theorem w_tup (q : r ρ (fun ds => ds.length ≤ 1000000 ∧ Q (.tup ds)) X) : aTup r ρ Q X := q
instance s_tup  : Stp (aTup r ρ Q X) (r ρ (fun ds => ds.length ≤ 1000000 ∧ Q (.tup ds)) X) := ⟨w_tup⟩
theorem w_lst (q : r ρ (fun ds => ds.length ≤ 1000000 ∧ O (.ol ds)) X) : aLst r ρ O X := q
instance s_lst  : Stp (aLst r ρ O X) (r ρ (fun ds => ds.length ≤ 1000000 ∧ O (.ol ds)) X) := ⟨w_lst⟩
theorem w_test {P : Bool → Prop} (q : e ρ (blQ P) X) : aTest e ρ P X := q
instance s_test {P : Bool → Prop} : Stp (aTest e ρ P X) (e ρ (blQ P) X) := ⟨w_test⟩
theorem w_blQ {P : Bool → Prop} {k : Bool} (q : P k) : blQ P (.bl k) := q
instance s_blQ {P : Bool → Prop} {k : Bool} : Stp (blQ P (.bl k)) (P k) := ⟨w_blQ⟩
theorem w_not {P : Bool → Prop} (q : t ρ (fun k => P (!k)) X) : aNot t ρ P X := q
instance s_not {P : Bool → Prop} : Stp (aNot t ρ P X) (t ρ (fun k => P (!k)) X) := ⟨w_not⟩
theorem w_and {P : Bool → Prop} (q : t ρ (fun x => cond x (u ρ P X) (P false)) X) : aAnd t u ρ P X := q
instance s_and {P : Bool → Prop} : Stp (aAnd t u ρ P X) (t ρ (fun x => cond x (u ρ P X) (P false)) X) := ⟨w_and⟩
theorem w_or {P : Bool → Prop} (q : t ρ (fun x => cond x (P true) (u ρ P X)) X) : aOr t u ρ P X := q
instance s_or {P : Bool → Prop} : Stp (aOr t u ρ P X) (t ρ (fun x => cond x (P true) (u ρ P X)) X) := ⟨w_or⟩
theorem w_andV (q : a ρ (blQ fun x => cond x (b ρ Q X) (Q (.bl false))) X) : aAndV a b ρ Q X := q
instance s_andV  : Stp (aAndV a b ρ Q X) (a ρ (blQ fun x => cond x (b ρ Q X) (Q (.bl false))) X) := ⟨w_andV⟩
theorem w_orV (q : a ρ (blQ fun x => cond x (Q (.bl true)) (b ρ Q X)) X) : aOrV a b ρ Q X := q
instance s_orV  : Stp (aOrV a b ρ Q X) (a ρ (blQ fun x => cond x (Q (.bl true)) (b ρ Q X)) X) := ⟨w_orV⟩
theorem w_notV (q : a ρ (blQ fun x => Q (.bl (!x))) X) : aNotV a ρ Q X := q
instance s_notV  : Stp (aNotV a ρ Q X) (a ρ (blQ fun x => Q (.bl (!x))) X) := ⟨w_notV⟩
theorem w_ifE (q : t ρ (fun x => cond x (a ρ Q X) (b ρ Q X)) X) : aIfE t a b ρ Q X := q
instance s_ifE  : Stp (aIfE t a b ρ Q X) (t ρ (fun x => cond x (a ρ Q X) (b ρ Q X)) X) := ⟨w_ifE⟩
theorem w_chain {f g : D → D → (D → Prop) → Prop} (q : a ρ (fun x => b ρ (fun y => f x y (blQ fun k => cond k (e ρ (fun z => g y z Q) X) (Q (.bl false)))) X) X) : aChain f g a b e ρ Q X := q
instance s_chain {f g : D → D → (D → Prop) → Prop} : Stp (aChain f g a b e ρ Q X) (a ρ (fun x => b ρ (fun y => f x y (blQ fun k => cond k (e ρ (fun z => g y z Q) X) (Q (.bl false)))) X) X) := ⟨w_chain⟩
theorem w_cT {A B : Prop} (q : A) : cond true A B := q
instance s_cT {A B : Prop} : Stp (cond true A B) (A) := ⟨w_cT⟩
theorem w_cF {A B : Prop} (q : B) : cond false A B := q
instance s_cF {A B : Prop} : Stp (cond false A B) (B) := ⟨w_cF⟩
theorem w_cNT {A B : Prop} (q : B) : cond (!true) A B := q
instance s_cNT {A B : Prop} : Stp (cond (!true) A B) (B) := ⟨w_cNT⟩
theorem w_cNF {A B : Prop} (q : A) : cond (!false) A B := q
instance s_cNF {A B : Prop} : Stp (cond (!false) A B) (A) := ⟨w_cNF⟩
theorem w_cN {k : Bool} {A B : Prop} (q : cond k B A) : cond (!k) A B := cond_not q
instance s_cN {k : Bool} {A B : Prop} : Stp (cond (!k) A B) (cond k B A) := ⟨w_cN⟩
theorem w_cb {f : List D → (D → Prop) → Prop} (q : r ρ (fun ds => f ds Q) X) : aCB f r ρ Q X := q
instance s_cb {f : List D → (D → Prop) → Prop} : Stp (aCB f r ρ Q X) (r ρ (fun ds => f ds Q) X) := ⟨w_cb⟩
theorem w_cbO {f : List D → (AV → Prop) → Prop} (q : r ρ (fun ds => f ds O) X) : aCBO f r ρ O X := q
instance s_cbO {f : List D → (AV → Prop) → Prop} : Stp (aCBO f r ρ O X) (r ρ (fun ds => f ds O) X) := ⟨w_cbO⟩
theorem w_lenL (q : Q (.int ds.length)) : oLen [.lst ds] Q := q
instance s_lenL  : Stp (oLen [.lst ds] Q) (Q (.int ds.length)) := ⟨w_lenL⟩
theorem w_lenT (q : Q (.int ds.length)) : oLen [.tup ds] Q := q
instance s_lenT  : Stp (oLen [.tup ds] Q) (Q (.int ds.length)) := ⟨w_lenT⟩
theorem w_listL (q : O (.ol ds)) : oList [.lst ds] O := q
instance s_listL  : Stp (oList [.lst ds] O) (O (.ol ds)) := ⟨w_listL⟩
theorem w_listT (q : O (.ol ds)) : oList [.tup ds] O := q
instance s_listT  : Stp (oList [.tup ds] O) (O (.ol ds)) := ⟨w_listT⟩
theorem w_tupleL (q : Q (.tup ds)) : oTuple [.lst ds] Q := q
instance s_tupleL  : Stp (oTuple [.lst ds] Q) (Q (.tup ds)) := ⟨w_tupleL⟩
theorem w_tupleT (q : Q (.tup ds)) : oTuple [.tup ds] Q := q
instance s_tupleT  : Stp (oTuple [.tup ds] Q) (Q (.tup ds)) := ⟨w_tupleT⟩
theorem w_ints {f : List Int → (D → Prop) → Prop} {ns : List Int} (h : intsOf ds = some ns) (q : f ns Q) : oInts f [.lst ds] Q := by unfold oInts; show someQ _ (intsOf ds); rw [h]; exact q
theorem w_bls {f : List Bool → D} {ns : List Bool} (h : blsOf ds = some ns) (q : Q (f ns)) : oBls f [.lst ds] Q := by unfold oBls; show someQ _ (blsOf ds); rw [h]; exact q
theorem w_isi {m n : String} (h : tyD d = some n) (hm : m = "int" ∨ m = "bool" ∨ m = "str" ∨ m = "list" ∨ m = "tuple") (q : Q (.bl (isiD n m))) : oIsi [d, .ty m] Q := by unfold oIsi; show someQ _ (tyD d); rw [h]; exact ⟨hm, q⟩
theorem w_isiT {m n : String} (h : tyD d = some n) (hm : m = "int" ∨ m = "bool" ∨ m = "str" ∨ m = "list" ∨ m = "tuple") (hk : isiD n m = true) (q : Q (.bl true)) : oIsi [d, .ty m] Q := w_isi h hm (by rw [hk]; exact q)
theorem w_isiF {m n : String} (h : tyD d = some n) (hm : m = "int" ∨ m = "bool" ∨ m = "str" ∨ m = "list" ∨ m = "tuple") (hk : isiD n m = false) (q : Q (.bl false)) : oIsi [d, .ty m] Q := w_isi h hm (by rw [hk]; exact q)
theorem w_fld {C : Addr} {f : Str} (q : a ρ (fldQ C f Q) X) : aFld C f a ρ Q X := q
instance s_fld {C : Addr} {f : Str} : Stp (aFld C f a ρ Q X) (a ρ (fldQ C f Q) X) := ⟨w_fld⟩
theorem w_fldQ {C : Addr} {f : Str} {ns : List Str} (h : lookD f ns ds = some d) (q : Q d) : fldQ C f Q (.obj C ns ds) := by unfold fldQ; exact ⟨rfl, by rw [h]; exact q⟩
instance s_fldQ {C : Addr} {f : Str} {ns : List Str} : St1 (β := D) (fldQ C f Q (.obj C ns ds)) (fun d => lookD f ns ds = some d) (fun d => Q d) := ⟨fun _ h q => w_fldQ h q⟩
theorem w_olQ (h : ρ[i]? = some (some (.ol ds))) (q : L ds) : olQ ρ i L := by unfold olQ; rw [h]; exact q
instance s_olQ  : St1 (β := List D) (olQ ρ i L) (fun ds => ρ[i]? = some (some (.ol ds))) (fun ds => L ds) := ⟨fun _ h q => w_olQ h q⟩
theorem w_app (h : ρ[i]? = some (some (.ol ds))) (q : e ρ (fun d => olQ ρ i fun ds => ds.length < 1000000 ∧ nx (ρ.set i (some (.ol (ds ++ [d]))))) (fun x => ex x ρ)) : aApp i e ⟨nx, rt, bk, ct, ex⟩ ρ := w_olQ h q
instance s_app  : St1 (β := List D) (aApp i e ⟨nx, rt, bk, ct, ex⟩ ρ) (fun ds => ρ[i]? = some (some (.ol ds))) (fun ds => e ρ (fun d => olQ ρ i fun ds => ds.length < 1000000 ∧ nx (ρ.set i (some (.ol (ds ++ [d]))))) (fun x => ex x ρ)) := ⟨fun _ h q => w_app h q⟩
theorem w_put (h : ρ[i]? = some (some (.ol ds))) (q : e ρ (fun d => e' ρ (fun k => olQ ρ i fun ds => ixQ ds.length (fun j => nx (ρ.set i (some (.ol (ds.set j d))))) k) (fun x => ex x ρ)) (fun x => ex x ρ)) : aPut i e' e ⟨nx, rt, bk, ct, ex⟩ ρ := w_olQ h q
instance s_put  : St1 (β := List D) (aPut i e' e ⟨nx, rt, bk, ct, ex⟩ ρ) (fun ds => ρ[i]? = some (some (.ol ds))) (fun ds => e ρ (fun d => e' ρ (fun k => olQ ρ i fun ds => ixQ ds.length (fun j => nx (ρ.set i (some (.ol (ds.set j d))))) k) (fun x => ex x ρ)) (fun x => ex x ρ)) := ⟨fun _ h q => w_put h q⟩
theorem w_ext (h : ρ[i]? = some (some (.ol ds))) (q : e ρ (lstQ fun es => olQ ρ i fun ds => ds.length + es.length ≤ 1000000 ∧ nx (ρ.set i (some (.ol (ds ++ es))))) (fun x => ex x ρ)) : aExt i e ⟨nx, rt, bk, ct, ex⟩ ρ := w_olQ h q
instance s_ext  : St1 (β := List D) (aExt i e ⟨nx, rt, bk, ct, ex⟩ ρ) (fun ds => ρ[i]? = some (some (.ol ds))) (fun ds => e ρ (lstQ fun es => olQ ρ i fun ds => ds.length + es.length ≤ 1000000 ∧ nx (ρ.set i (some (.ol (ds ++ es))))) (fun x => ex x ρ)) := ⟨fun _ h q => w_ext h q⟩
theorem w_ixQ {n : Nat} {k : Int} {P : Nat → Prop} (h : ixN n k = some j) (q : P j) : ixQ n P (.int k) := by show (match ixN n k with | some j => P j | none => False); rw [h]; exact q
theorem w_lstQ (q : L ds) : lstQ L (.lst ds) := q
instance s_lstQ  : Stp (lstQ L (.lst ds)) (L ds) := ⟨w_lstQ⟩
theorem w_tupQ (q : L ds) : tupQ L (.tup ds) := q
instance s_tupQ  : Stp (tupQ L (.tup ds)) (L ds) := ⟨w_tupQ⟩
theorem w_intQ {P : Int → Prop} {x : Int} (q : P x) : intQ P (.int x) := q
instance s_intQ {P : Int → Prop} {x : Int} : Stp (intQ P (.int x)) (P x) := ⟨w_intQ⟩
theorem w_oneQ (q : Q d) : oneQ Q [d] := q
instance s_oneQ  : Stp (oneQ Q [d]) (Q d) := ⟨w_oneQ⟩
theorem w_twoQ {P : D → D → Prop} (q : P d d') : twoQ P [d, d'] := q
instance s_twoQ {P : D → D → Prop} : Stp (twoQ P [d, d']) (P d d') := ⟨w_twoQ⟩
theorem w_for {it : AL} {g : AG} (q : it ρ (fun ds => aLoop g sa ⟨nx, rt, bk, ct, ex⟩ ds ρ) (fun x => ex x ρ)) : aFor it g sa ⟨nx, rt, bk, ct, ex⟩ ρ := q
instance s_for {it : AL} {g : AG} : Stp (aFor it g sa ⟨nx, rt, bk, ct, ex⟩ ρ) (it ρ (fun ds => aLoop g sa ⟨nx, rt, bk, ct, ex⟩ ds ρ) (fun x => ex x ρ)) := ⟨w_for⟩
theorem w_itL (q : e ρ (lstQ L) X) : aItL e ρ L X := q
instance s_itL  : Stp (aItL e ρ L X) (e ρ (lstQ L) X) := ⟨w_itL⟩
theorem w_itT (q : e ρ (tupQ L) X) : aItT e ρ L X := q
instance s_itT  : Stp (aItT e ρ L X) (e ρ (tupQ L) X) := ⟨w_itT⟩
theorem w_rng1 (q : r ρ (oneQ (intQ fun j => (-(2 ^ 62) ≤ j ∧ j < 2 ^ 62) ∧ L (rngD 0 j.toNat))) X) : aRng1 r ρ L X := q
instance s_rng1  : Stp (aRng1 r ρ L X) (r ρ (oneQ (intQ fun j => (-(2 ^ 62) ≤ j ∧ j < 2 ^ 62) ∧ L (rngD 0 j.toNat))) X) := ⟨w_rng1⟩
theorem w_rng2 (q : r ρ (twoQ fun d e => intQ (fun i => intQ (fun j => (-(2 ^ 62) ≤ i ∧ i < 2 ^ 62 ∧ -(2 ^ 62) ≤ j ∧ j < 2 ^ 62) ∧ L (rngD i (j - i).toNat)) e) d) X) : aRng2 r ρ L X := q
instance s_rng2  : Stp (aRng2 r ρ L X) (r ρ (twoQ fun d e => intQ (fun i => intQ (fun j => (-(2 ^ 62) ≤ i ∧ i < 2 ^ 62 ∧ -(2 ^ 62) ≤ j ∧ j < 2 ^ 62) ∧ L (rngD i (j - i).toNat)) e) d) X) := ⟨w_rng2⟩
theorem w_enum (q : r ρ (oneQ (lstQ fun xs => L (enumD xs))) X) : aEnum r ρ L X := q
instance s_enum  : Stp (aEnum r ρ L X) (r ρ (oneQ (lstQ fun xs => L (enumD xs))) X) := ⟨w_enum⟩
theorem w_zip (q : r ρ (twoQ fun d e => lstQ (fun xs => lstQ (fun ys => L (zipD xs ys)) e) d) X) : aZip r ρ L X := q
instance s_zip  : Stp (aZip r ρ L X) (r ρ (twoQ fun d e => lstQ (fun xs => lstQ (fun ys => L (zipD xs ys)) e) d) X) := ⟨w_zip⟩
theorem w_asg {g : AG} (q : e ρ (fun d => g d ρ nx) (fun x => ex x ρ)) : aAsg e g ⟨nx, rt, bk, ct, ex⟩ ρ := q
instance s_asg {g : AG} : Stp (aAsg e g ⟨nx, rt, bk, ct, ex⟩ ρ) (e ρ (fun d => g d ρ nx) (fun x => ex x ρ)) := ⟨w_asg⟩
theorem w_gN {P : Env → Prop} (q : P (ρ.set i (some (.fz d)))) : gN i d ρ P := q
instance s_gN {P : Env → Prop} : Stp (gN i d ρ P) (P (ρ.set i (some (.fz d)))) := ⟨w_gN⟩
theorem w_gT {n : Nat} {rs : AGs} {P : Env → Prop} (h : ds.length = n) (q : rs ds ρ P) : gT n rs (.tup ds) ρ P := ⟨h, q⟩
instance s_gT {n : Nat} {rs : AGs} {P : Env → Prop} : St0 (gT n rs (.tup ds) ρ P) (ds.length = n) (rs ds ρ P) := ⟨fun h q => w_gT h q⟩
theorem w_gsCons {g : AG} {rs : AGs} {P : Env → Prop} (q : g d ρ (fun ρ' => rs ds ρ' P)) : gsCons g rs (d :: ds) ρ P := q
instance s_gsCons {g : AG} {rs : AGs} {P : Env → Prop} : Stp (gsCons g rs (d :: ds) ρ P) (g d ρ (fun ρ' => rs ds ρ' P)) := ⟨w_gsCons⟩
theorem w_gsNil {P : Env → Prop} (q : P ρ) : gsNil [] ρ P := q
instance s_gsNil {P : Env → Prop} : Stp (gsNil [] ρ P) (P ρ) := ⟨w_gsNil⟩
theorem w_par (q : r ρ (twoQ fun d e => nx ((ρ.set i (some (.fz d))).set j (some (.fz e)))) (fun x => ex x ρ)) : aPar i j r ⟨nx, rt, bk, ct, ex⟩ ρ := q
instance s_par  : Stp (aPar i j r ⟨nx, rt, bk, ct, ex⟩ ρ) (r ρ (twoQ fun d e => nx ((ρ.set i (some (.fz d))).set j (some (.fz e)))) (fun x => ex x ρ)) := ⟨w_par⟩
theorem w_aug {f : D → D → (D → Prop) → Prop} (h : ρ[i]? = some (some (.fz d))) (q : e ρ (fun y => f d y fun z => nx (ρ.set i (some (.fz z)))) (fun x => ex x ρ)) : aAug i f e ⟨nx, rt, bk, ct, ex⟩ ρ := by unfold aAug; rw [h]; exact q
instance s_aug {f : D → D → (D → Prop) → Prop} : St1 (β := D) (aAug i f e ⟨nx, rt, bk, ct, ex⟩ ρ) (fun d => ρ[i]? = some (some (.fz d))) (fun d => e ρ (fun y => f d y fun z => nx (ρ.set i (some (.fz z)))) (fun x => ex x ρ)) := ⟨fun _ h q => w_aug h q⟩
theorem w_lc {it : AL} {g : AG} {vs : List Nat} (q : it ρ (fun ds => aComp g t e (wipeA ρ vs) X ds [] (fun acc => O (.ol acc))) X) : aLc it g t e vs ρ O X := q
instance s_lc {it : AL} {g : AG} {vs : List Nat} : Stp (aLc it g t e vs ρ O X) (it ρ (fun ds => aComp g t e (wipeA ρ vs) X ds [] (fun acc => O (.ol acc))) X) := ⟨w_lc⟩
theorem w_yes {P : Bool → Prop} (q : P true) : aYes ρ P X := q
instance s_yes {P : Bool → Prop} : Stp (aYes ρ P X) (P true) := ⟨w_yes⟩
theorem w_sealL (h : ρ[i]? = some (some (.ol ds))) (q : sa ⟨nx, rt, bk, ct, ex⟩ (ρ.set i (some (.fz (.lst ds))))) : aSeal i sa ⟨nx, rt, bk, ct, ex⟩ ρ := by unfold aSeal; rw [h]; exact q
theorem w_sealF (h : ρ[i]? = some (some (.fz d))) (q : sa ⟨nx, rt, bk, ct, ex⟩ (ρ.set i (some (.fz d)))) : aSeal i sa ⟨nx, rt, bk, ct, ex⟩ ρ := by unfold aSeal; rw [h]; exact q
theorem w_rev (q : e ρ (lstQ fun ds => O (.ol ds.reverse)) X) : aRev e ρ O X := q
instance s_rev  : Stp (aRev e ρ O X) (e ρ (lstQ fun ds => O (.ol ds.reverse)) X) := ⟨w_rev⟩
theorem w_sl {f : D → Option Int → Option Int → (D → Prop) → Prop} {lo hi : AP} (q : a ρ (fun d => lo ρ (fun l => hi ρ (fun h => f d l h Q) X) X) X) : aSl f a lo hi ρ Q X := q
instance s_sl {f : D → Option Int → Option Int → (D → Prop) → Prop} {lo hi : AP} : Stp (aSl f a lo hi ρ Q X) (a ρ (fun d => lo ρ (fun l => hi ρ (fun h => f d l h Q) X) X) X) := ⟨w_sl⟩
theorem w_slO {f : D → Option Int → Option Int → (AV → Prop) → Prop} {lo hi : AP} (q : a ρ (fun d => lo ρ (fun l => hi ρ (fun h => f d l h O) X) X) X) : aSlO f a lo hi ρ O X := q
instance s_slO {f : D → Option Int → Option Int → (AV → Prop) → Prop} {lo hi : AP} : Stp (aSlO f a lo hi ρ O X) (a ρ (fun d => lo ρ (fun l => hi ρ (fun h => f d l h O) X) X) X) := ⟨w_slO⟩
theorem w_noPart {P : Option Int → Prop} (q : P none) : aNoPart ρ P X := q
instance s_noPart {P : Option Int → Prop} : Stp (aNoPart ρ P X) (P none) := ⟨w_noPart⟩
theorem w_part {P : Option Int → Prop} (q : e ρ (intQ fun i => P (some i)) X) : aPart e ρ P X := q
instance s_part {P : Option Int → Prop} : Stp (aPart e ρ P X) (e ρ (intQ fun i => P (some i)) X) := ⟨w_part⟩
theorem w_slL {lo hi : Option Int} (q : O (.ol (cutD ds lo hi))) : oSlL (.lst ds) lo hi O := q
instance s_slL {lo hi : Option Int} : Stp (oSlL (.lst ds) lo hi O) (O (.ol (cutD ds lo hi))) := ⟨w_slL⟩
theorem w_slT {lo hi : Option Int} (q : Q (.tup (cutD ds lo hi))) : oSlT (.tup ds) lo hi Q := q
instance s_slT {lo hi : Option Int} : Stp (oSlT (.tup ds) lo hi Q) (Q (.tup (cutD ds lo hi))) := ⟨w_slT⟩
theorem w_neD (h : okD 8 d = true) (h' : okD 8 d' = true) (q : Q (.bl (!deq d d'))) : oNeD d d' Q := ⟨h, h', q⟩
end
end SW
namespace SW
open PySem PySem.Spec PyProof.Rows L2
variable [QN]
def ownK (ρ : Env) (σ : L2.St) (k : Nat) : List Addr := match ρ[k]?, σ[k]? with
  | some a, some v => ownS a v
  | _, _ => []
theorem ownK_mem : ∀ {ρ : Env} {σ : L2.St} {p : Addr}, p ∈ owns ρ σ ↔ ∃ k, p ∈ ownK ρ σ k
  | [], σ, p => ⟨fun h => by simp [owns] at h, fun ⟨k, h⟩ => by simp [ownK] at h⟩
  | a :: ρ, [], p => ⟨fun h => by simp [owns] at h, fun ⟨k, h⟩ => by simp [ownK] at h⟩
  | a :: ρ, v :: σ, p => by
    constructor
    · intro h
      rcases List.mem_append.mp h with h | h
      · exact ⟨0, h⟩
      · obtain ⟨k, hk⟩ := ownK_mem.mp h
        exact ⟨k + 1, hk⟩
    · rintro ⟨k, h⟩
      cases k with
      | zero => exact List.mem_append_left _ h
      | succ k => exact List.mem_append_right _ (ownK_mem.mpr ⟨k, h⟩)
theorem ownK_nodup : ∀ {ρ : Env} {σ : L2.St}, (owns ρ σ).Nodup ↔ (∀ k, (ownK ρ σ k).Nodup) ∧ ∀ k l p, k ≠ l → p ∈ ownK ρ σ k → p ∉ ownK ρ σ l
  | [], σ => ⟨fun _ => ⟨fun k => by simp [ownK], fun k l p _ h => by simp [ownK] at h⟩, fun _ => by simp [owns]⟩
  | a :: ρ, [] => ⟨fun _ => ⟨fun k => by simp [ownK], fun k l p _ h => by simp [ownK] at h⟩, fun _ => by simp [owns]⟩
  | a :: ρ, v :: σ => by
    have ih := ownK_nodup (ρ := ρ) (σ := σ)
    have e0 : ownK (a :: ρ) (v :: σ) 0 = ownS a v := rfl
    have es : ∀ k, ownK (a :: ρ) (v :: σ) (k + 1) = ownK ρ σ k := fun k => rfl
    constructor
    · intro h
      obtain ⟨n1, n2, n3⟩ := List.nodup_append.mp (show (ownS a v ++ owns ρ σ).Nodup from h)
      obtain ⟨i1, i2⟩ := ih.mp n2
      refine ⟨fun k => ?_, fun k l p hkl hk hl => ?_⟩
      · cases k with
        | zero => exact n1
        | succ k => exact i1 k
      · cases k with
        | zero =>
          cases l with
          | zero => exact hkl rfl
          | succ l => exact n3 p hk p (ownK_mem.mpr ⟨l, hl⟩) rfl
        | succ k =>
          cases l with
          | zero => exact n3 p hl p (ownK_mem.mpr ⟨k, hk⟩) rfl
          | succ l => exact i2 k l p (fun z => hkl (by rw [z])) hk hl
    · rintro ⟨h1, h2⟩
      refine List.nodup_append.mpr ⟨h1 0, ih.mpr ⟨fun k => h1 (k + 1), fun k l p hkl hk hl => h2 (k + 1) (l + 1) p (fun z => hkl (Nat.succ.inj z)) hk hl⟩, fun x hx y hy z => ?_⟩
      subst z
      obtain ⟨k, hk⟩ := ownK_mem.mp hy
      exact h2 0 (k + 1) x (by omega) hx hk
theorem paired_at {α β : Type} {F : α → β → Prop} {xs : List α} {ys : List β} (hl : xs.length = ys.length) (h : ∀ (k : Nat) (x : α) (y : β), xs[k]? = some x → ys[k]? = some y → F x y) : Paired F xs ys := by
  induction xs generalizing ys with
  | nil => cases ys with
    | nil => exact .nil
    | cons y ys => cases hl
  | cons x xs ih =>
    cases ys with
    | nil => cases hl
    | cons y ys => exact .cons (h 0 x y rfl rfl) (ih (Nat.succ.inj hl) fun k a b ha hb => h (k + 1) a b ha hb)
section
variable {c : DC} {U H U' H' : Hp} {σ : L2.St} {ρ ρ' : Env}
/-- a step that changes some slots' things: J tells which -/
theorem DI.multiG {M : List Addr} (J : Nat → Bool) (I : DI c U H σ ρ) (g : Gr M U H U' H') (len : ρ'.length = ρ.length) (keep : ∀ k, J k = false → ρ'[k]? = ρ[k]?) (own1 : ∀ k, J k = true → ∃ a a' v, ρ[k]? = some (some a) ∧ ρ'[k]? = some (some a') ∧ σ[k]? = some (some v) ∧ a'.kind = a.kind ∧ RepA c.K U' H' a' v ∧ (own a' v).Nodup)
    (hM : ∀ p ∈ M, ∃ k, J k = true ∧ p ∈ ownK ρ σ k) (out : ∀ k p, J k = true → p ∈ ownK ρ' σ k → U' p = none ∧ (p ∈ ownK ρ σ k ∨ (p ∉ owns ρ σ ∧ c.H0 p = none))) (dis : ∀ k l p, k ≠ l → J k = true → J l = true → p ∈ ownK ρ' σ k → p ∉ ownK ρ' σ l) : DI c U' H' σ ρ' := by
  obtain ⟨nd1, nd2⟩ := ownK_nodup.mp I.nd
  have ek : ∀ k, J k = false → ownK ρ' σ k = ownK ρ σ k := fun k hk => by
    unfold ownK
    rw [keep k hk]
  have memo : ∀ k p, p ∈ ownK ρ σ k → p ∈ owns ρ σ := fun k p h => ownK_mem.mpr ⟨k, h⟩
  have nM : ∀ k p, J k = false → p ∈ ownK ρ σ k → p ∉ M := fun k p hk hp z => by
    obtain ⟨l, hl, hp'⟩ := hM p z
    exact nd2 k l p (fun e => by rw [e, hl] at hk; cases hk) hp hp'
  have rl : ρ.length = σ.length := I.rep.length
  refine ⟨⟨I.gr.vv.trans g.vv, g.vh, fun a o ma nn ha => ?_, fun a ha => g.dom a (I.gr.dom a ha), fun a h k => g.fr a (I.gr.fr a h k) (I.gr.dom a k), fun P h => g.tb P (I.gr.tb P h), fun h => g.nt (I.gr.nt h)⟩, ?_, ownK_nodup.mpr ⟨fun k => ?_, fun k l p hkl hk hl => ?_⟩, fun p hp => ?_, ?_, I.ko, fun k av v e1 e2 p hp => ?_, I.on⟩
  · refine g.hh a o (fun z => ?_) nn (I.gr.hh a o ma nn ha)
    obtain ⟨l, _, hp'⟩ := hM a z
    rcases (I.out a (memo l a hp')).2 with y | y
    · exact ma y
    · rw [y] at ha
      cases ha
  · refine paired_at (len.trans rl) fun k x y hx hy => ?_
    cases hj : J k with
    | true =>
      obtain ⟨a, a', v, e1, e2, e3, _, r, _⟩ := own1 k hj
      rw [e2] at hx
      rw [e3] at hy
      cases hx
      cases hy
      exact r
    | false =>
      rw [keep k hj] at hx
      obtain ⟨y', ey, ry⟩ := Paired.at' I.rep k x hx
      rw [hy] at ey
      cases ey
      cases x with
      | none => trivial
      | some av =>
        cases y with
        | none => exact ry
        | some v =>
          have hok : ownK ρ σ k = own av v := by unfold ownK; rw [hx, hy]; rfl
          exact RepA.keep g.vv av v (fun p hp => ⟨keep_at g (own_pl av v ry p hp) (nM k p hj (by rw [hok]; exact hp)), g.fr p (I.out p (memo k p (by rw [hok]; exact hp))).1 (own_some av v ry p hp)⟩) ry
  · cases hj : J k with
    | true =>
      obtain ⟨a, a', v, e1, e2, e3, _, _, n⟩ := own1 k hj
      unfold ownK
      rw [e2, e3]
      exact n
    | false =>
      rw [ek k hj]
      exact nd1 k
  · cases hj : J k with
    | true =>
      cases hj' : J l with
      | true => exact dis k l p hkl hj hj' hk hl
      | false =>
        rw [ek l hj'] at hl
        rcases (out k p hj hk).2 with z | z
        · exact nd2 k l p hkl z hl
        · exact z.1 (memo l p hl)
    | false =>
      rw [ek k hj] at hk
      cases hj' : J l with
      | true =>
        rcases (out l p hj' hl).2 with z | z
        · exact nd2 k l p hkl hk z
        · exact z.1 (memo k p hk)
      | false =>
        rw [ek l hj'] at hl
        exact nd2 k l p hkl hk hl
  · obtain ⟨k, hk⟩ := ownK_mem.mp hp
    cases hj : J k with
    | true =>
      obtain ⟨o1, o2⟩ := out k p hj hk
      refine ⟨o1, ?_⟩
      rcases o2 with z | z
      · exact (I.out p (memo k p z)).2
      · exact .inr z.2
    | false =>
      rw [ek k hj] at hk
      have hin := I.out p (memo k p hk)
      exact ⟨g.fr p hin.1 (I.ex p (memo k p hk)), hin.2⟩
  · obtain ⟨p1, avs, p2, p3⟩ := I.par
    refine ⟨p1, ?_⟩
    have go : ∀ (ks : List Bool) (ρ ρ' : Env) (avs : List AV), ρ'.length = ρ.length → (∀ k : Nat, ρ'[k]? = ρ[k]? ∨ ∃ a a' : AV, ρ[k]? = some (some a) ∧ ρ'[k]? = some (some a') ∧ a'.kind = a.kind) → selM ks ρ = avs.map some → ∃ bs : List AV, selM ks ρ' = bs.map some ∧ bs.map AV.kind = avs.map AV.kind := by
      intro ks
      induction ks with
      | nil =>
        intro ρ ρ' avs _ _ e
        refine ⟨avs, ?_, rfl⟩
        rw [← e]
        cases ρ <;> cases ρ' <;> rfl
      | cons b ks ih =>
        intro ρ ρ' avs hl hh e
        cases ρ with
        | nil =>
          cases ρ' with
          | nil => exact ⟨avs, e, rfl⟩
          | cons _ _ => cases hl
        | cons a ρ =>
          cases ρ' with
          | nil => cases hl
          | cons a' ρ' =>
            have hh' : ∀ k : Nat, ρ'[k]? = ρ[k]? ∨ ∃ a a' : AV, ρ[k]? = some (some a) ∧ ρ'[k]? = some (some a') ∧ a'.kind = a.kind := fun k => hh (k + 1)
            cases b with
            | false => exact ih ρ ρ' avs (Nat.succ.inj hl) hh' e
            | true =>
              cases avs with
              | nil => cases e
              | cons a0 avs =>
                obtain ⟨g1, g2⟩ := List.cons.inj e
                subst g1
                obtain ⟨bs, k1, k2⟩ := ih ρ ρ' avs (Nat.succ.inj hl) hh' g2
                rcases hh 0 with z | ⟨x, x', z1, z2, z3⟩
                · have z' := Option.some.inj z
                  subst z'
                  exact ⟨a0 :: bs, by show some a0 :: selM ks ρ' = _; rw [k1]; rfl, by rw [List.map_cons, List.map_cons, k2]⟩
                · have z1' := Option.some.inj z1
                  have z2' := Option.some.inj z2
                  have z1'' := Option.some.inj z1'
                  subst z1'' z2'
                  exact ⟨x' :: bs, by show some x' :: selM ks ρ' = _; rw [k1]; rfl, by rw [List.map_cons, List.map_cons, k2, z3]⟩
    obtain ⟨bs, k1, k2⟩ := go c.ks ρ ρ' avs len (fun k => by
      cases hj : J k with
      | true =>
        obtain ⟨a, a', v, e1, e2, _, e4, _⟩ := own1 k hj
        exact .inr ⟨a, a', e1, e2, e4⟩
      | false => exact .inl (keep k hj)) p2
    exact ⟨bs, k1, k2.trans p3⟩
  · have hok : ownK ρ' σ k = own av v := by unfold ownK; rw [e1, e2]; rfl
    cases hj : J k with
    | true =>
      obtain ⟨a, a', w, f1, f2, f3, _⟩ := own1 k hj
      rcases (out k p hj (by rw [hok]; exact hp)).2 with z | z
      · unfold ownK at z
        rw [f1, f3] at z
        rw [f3] at e2
        cases e2
        exact I.ow k a _ f1 f3 p z
      · exact .inr z.2
    | false =>
      rw [keep k hj] at e1
      exact I.ow k av v e1 e2 p hp
theorem DI.multi {M : List Addr} (J : Nat → Bool) (I : DI c U H σ ρ) (g : Gr M U H U' H') (len : ρ'.length = ρ.length) (keep : ∀ k, J k = false → ρ'[k]? = ρ[k]?) (own1 : ∀ k, J k = true → ∃ a a' v, ρ[k]? = some (some a) ∧ ρ'[k]? = some (some a') ∧ σ[k]? = some (some v) ∧ a'.kind = a.kind ∧ RepA c.K U' H' a' v ∧ (own a' v).Nodup)
    (hM : ∀ p ∈ M, ∃ k, J k = true ∧ p ∈ ownK ρ σ k) (out : ∀ k p, J k = true → p ∈ ownK ρ' σ k → U' p = none ∧ (p ∈ ownK ρ σ k ∨ H p = none)) (dis : ∀ k l p, k ≠ l → J k = true → J l = true → p ∈ ownK ρ' σ k → p ∉ ownK ρ' σ l) : DI c U' H' σ ρ' :=
  I.multiG J g len keep own1 hM (fun k p hj hp => ⟨(out k p hj hp).1, (out k p hj hp).2.imp id fun z => ⟨fun y => I.ex p y z, I.gr.fresh z⟩⟩) dis
abbrev AFM := List AV → (AV → List AV → Prop) → (Exn → List AV → Prop) → Prop
/-- each one's places are those it had, or new -/
def PerA (H : Hp) : List AV → List AV → List V → Prop
  | a' :: as', a :: as, v :: vs => (∀ p ∈ own a' v, p ∈ own a v ∨ H p = none) ∧ PerA H as' as vs
  | [], [], _ => True
  | _, _, _ => False
def spM (K : PySem.W.Frag) (tb : List Addr) (A : AFM) : Sp := fun vs H Q E => ∃ (U : Hp) (avs : List AV) (q : AV → List AV → Prop) (x : Exn → List AV → Prop), Same U H ∧ TbOk tb U H ∧ Paired (RepA K U H) avs vs ∧ (ownAs avs vs).Nodup ∧ (∀ p ∈ ownAs avs vs, U p = none) ∧ A avs q x ∧
  (∀ U' H' av v avs', Gr (ownAs avs vs) U H U' H' → RepA K U' H' av v → (own av v).Nodup → (∀ p ∈ own av v, U' p = none ∧ H p = none ∧ p ∉ ownAs avs' vs) → Paired (RepA K U' H') avs' vs → (ownAs avs' vs).Nodup → (∀ p ∈ ownAs avs' vs, U' p = none) → avs'.map AV.kind = avs.map AV.kind → PerA H avs' avs vs → q av avs' → Q v H') ∧
  (∀ U' H' ex cls o avs', Gr (ownAs avs vs) U H U' H' → XRep K U' H' ex cls o → Paired (RepA K U' H') avs' vs → (ownAs avs' vs).Nodup → (∀ p ∈ ownAs avs' vs, U' p = none) → avs'.map AV.kind = avs.map AV.kind → PerA H avs' avs vs → x ex avs' → E cls o H')
/-- the parameters as they stand: what never changes as it came, what is one's own from its slot -/
def mrg : List AV → List (Option AV) → List AV
  | .fz d :: as, r => .fz d :: mrg as r
  | _ :: as, some a :: r => a :: mrg as r
  | a :: as, none :: r => a :: mrg as r
  | a :: as, [] => a :: mrg as []
  | [], _ => []
/-- the marked parameters put back -/
theorem mrg_rep {K : PySem.W.Frag} {U H U' H' : Hp} (s : Same U U') : ∀ {avs : List AV} {vs : List V} (bs : List AV), Paired (RepA K U H) avs vs → RepAs K U' H' bs (selM (avs.map AV.isOwn) vs) → bs.map AV.kind = (selM (avs.map AV.isOwn) avs).map AV.kind →
    Paired (RepA K U' H') (mrg avs (bs.map some)) vs ∧ ownAs (mrg avs (bs.map some)) vs = ownAs bs (selM (avs.map AV.isOwn) vs) ∧ (mrg avs (bs.map some)).map AV.kind = avs.map AV.kind
  | [], [], bs, .nil, _, e => by
    cases bs with
    | nil => exact ⟨.nil, rfl, rfl⟩
    | cons b bs => cases e
  | a :: avs, v :: vs, bs, .cons h t, r, e => by
    by_cases ho : a.isOwn = true
    · cases bs with
      | nil =>
        have e' : ([] : List Nat) = (selM (a.isOwn :: avs.map AV.isOwn) (a :: avs)).map AV.kind := e
        rw [ho] at e'
        cases e'
      | cons b bs =>
        have e' : b.kind :: bs.map AV.kind = (selM (a.isOwn :: avs.map AV.isOwn) (a :: avs)).map AV.kind := e
        rw [ho] at e'
        obtain ⟨e1, e2⟩ := List.cons.inj e'
        have r' : RepAs K U' H' (b :: bs) (selM (a.isOwn :: avs.map AV.isOwn) (v :: vs)) := r
        rw [ho] at r'
        obtain ⟨w, ws, ew, r1, r2⟩ := r'
        obtain ⟨g1, g2⟩ := List.cons.inj ew
        subst g1
        have r2' : RepAs K U' H' bs (selM (avs.map AV.isOwn) vs) := by rw [g2]; exact r2
        obtain ⟨i1, i2, i3⟩ := mrg_rep s bs t r2' e2
        have em : mrg (a :: avs) ((b :: bs).map some) = b :: mrg avs (bs.map some) := by
          cases a <;> first | rfl | cases ho
        have es : selM ((a :: avs).map AV.isOwn) (v :: vs) = v :: selM (avs.map AV.isOwn) vs := by
          show selM (a.isOwn :: avs.map AV.isOwn) (v :: vs) = _
          rw [ho]
          rfl
        rw [em, es]
        exact ⟨.cons r1 i1, by show own b v ++ _ = own b v ++ _; rw [i2], by rw [List.map_cons, List.map_cons, i3, e1]⟩
    · cases a with
      | fz d =>
        obtain ⟨i1, i2, i3⟩ := mrg_rep s bs t r e
        exact ⟨.cons (R.mono s d v h) i1, by
          show own (.fz d) v ++ ownAs (mrg avs (bs.map some)) vs = ownAs bs (selM (avs.map AV.isOwn) vs)
          rw [i2]
          cases v <;> rfl, by rw [show mrg (.fz d :: avs) (bs.map some) = .fz d :: mrg avs (bs.map some) from rfl, List.map_cons, List.map_cons, i3]⟩
      | _ => exact absurd rfl ho
theorem mrg_per {H : Hp} : ∀ (avs : List AV) (vs : List V) (bs : List AV) (n : Nat), avs.length = vs.length → PerO H bs (selM (avs.map AV.isOwn) vs) (selM (avs.map AV.isOwn) (ownL (avs.map some ++ List.replicate n none) (vs.map some ++ List.replicate n none))) → PerA H (mrg avs (bs.map some)) avs vs
  | [], [], bs, n, _, h => by cases bs <;> trivial
  | a :: avs, v :: vs, bs, n, hl, h => by
    have ih := mrg_per (H := H) avs vs
    by_cases ho : a.isOwn = true
    · have h' : PerO H bs (selM (a.isOwn :: avs.map AV.isOwn) (v :: vs)) (selM (a.isOwn :: avs.map AV.isOwn) (own a v :: ownL (avs.map some ++ List.replicate n none) (vs.map some ++ List.replicate n none))) := h
      rw [ho] at h'
      cases bs with
      | nil => exact h'.elim
      | cons b bs =>
        have em : mrg (a :: avs) ((b :: bs).map some) = b :: mrg avs (bs.map some) := by
          cases a <;> first | rfl | cases ho
        rw [em]
        exact ⟨h'.1, ih bs n (Nat.succ.inj hl) h'.2⟩
    · cases a with
      | fz d => exact ⟨fun p hp => (by cases v <;> cases hp), ih bs n (Nat.succ.inj hl) h⟩
      | _ => exact absurd rfl ho
def bodyM (kk : List Nat) (nl : Nat) (a : AS) : AFM := fun avs q x => avs.map AV.kind = kk ∧ a ⟨fun ρ => q (.fz .non) (mrg avs (selM (avs.map AV.isOwn) ρ)), fun av ρ => q av (mrg avs (selM (avs.map AV.isOwn) ρ)), fun _ => False, fun _ => False, fun e ρ => x e (mrg avs (selM (avs.map AV.isOwn) ρ))⟩ (avs.map some ++ List.replicate nl none)
def ownM (kk : List Nat) : List Bool := kk.map fun k => k != 0
theorem ownM_of : ∀ (avs : List AV), avs.map AV.isOwn = ownM (avs.map AV.kind)
  | [] => rfl
  | a :: avs => by
    show a.isOwn :: avs.map AV.isOwn = (a.kind != 0) :: ownM (avs.map AV.kind)
    rw [ownM_of avs]
    cases a <;> rfl
theorem run_bodyM {K : PySem.W.Frag} {kk : List Nat} {nl : Nat} {a : AS} {vs : List V} {H : Hp} {Q : VK} {E : XK} {t : TS} {σ : L2.St} {tb : List Addr} (h : spM K tb (bodyM kk nl a) vs H Q E) (hσ : σ = vs.map some ++ List.replicate nl none) (hs : ∀ pk pv O M U0 H0 X, SimS ⟨K, ownM kk, pk, pv, O, M, U0, H0, X, fun _ => E, tb⟩ t a) :
    t { nx := fun _ H' => Q .non H', rt := Q } σ H := by
  obtain ⟨U, avs, q, x, sU, tbs, rep, nd, out, ⟨hk, hb⟩, kq, kx⟩ := h
  subst hσ
  have lv : avs.length = vs.length := rep.length
  have ek : avs.map AV.isOwn = ownM kk := by rw [ownM_of, hk]
  have key : ∀ {U' H' : Hp} {as : List (Option AV)} {X : Exn → List (Option AV) → Prop}, Same U U' → ParRep ⟨K, avs.map AV.isOwn, (selM (avs.map AV.isOwn) avs).map AV.kind, selM (avs.map AV.isOwn) vs, ownL (avs.map some ++ List.replicate nl none) (vs.map some ++ List.replicate nl none), ownAs avs vs, U, H, X, fun _ => E, tb⟩ U' H' as →
      Paired (RepA K U' H') (mrg avs as) vs ∧ (ownAs (mrg avs as) vs).Nodup ∧ (∀ p ∈ ownAs (mrg avs as) vs, U' p = none) ∧ (mrg avs as).map AV.kind = avs.map AV.kind ∧ PerA H (mrg avs as) avs vs := fun {U' H' as X} s pr => by
    obtain ⟨bs, eb, r, k, n1, n2, n3⟩ := pr.ex
    subst eb
    obtain ⟨i1, i2, i3⟩ := mrg_rep s bs rep r k
    exact ⟨i1, by rw [i2]; exact n1, by rw [i2]; exact n2, i3, mrg_per avs vs bs nl lv n3⟩
  have I := start_DI (K := K) (nl := nl) (X := fun e as => x e (mrg avs as)) (E := E) sU rep nd out ⟨fun U' H' _ as ex cls o _ _ g pr xr z => by
    obtain ⟨k1, k2, k3, k4, k5⟩ := key g.vv pr
    exact kx U' H' ex cls o _ g xr k1 k2 k3 k4 k5 z, tbs⟩
  have hs' : SimS ⟨K, avs.map AV.isOwn, (selM (avs.map AV.isOwn) avs).map AV.kind, selM (avs.map AV.isOwn) vs, ownL (avs.map some ++ List.replicate nl none) (vs.map some ++ List.replicate nl none), ownAs avs vs, U, H, fun e as => x e (mrg avs as), fun _ => E, tb⟩ t a := by rw [ek]; exact hs _ _ _ _ _ _ _
  refine hs' U H _ _ _ _ rfl I hb ⟨?_, ?_, ?_, ?_⟩
  · intro U' H' σ' ρ' _ I z
    obtain ⟨k1, k2, k3, k4, k5⟩ := key I.gr.vv I.pars
    exact kq U' H' (.fz .non) .non _ I.gr rfl List.nodup_nil (fun p hp => by cases hp) k1 k2 k3 k4 k5 z
  · intro U' H' σ' ρ' av v I r n1 n z
    obtain ⟨k1, k2, k3, k4, k5⟩ := key I.gr.vv I.pars
    obtain ⟨e1, bs, e2, e3⟩ := I.par
    obtain ⟨r1, r2⟩ := sel_owns _ ρ' σ' bs _ I.rep e2 e1
    refine kq U' H' av v _ I.gr r n1 (fun p hp => ⟨(n p hp).1, (n p hp).2.1, fun hz => (n p hp).2.2 ?_⟩) k1 k2 k3 k4 k5 z
    have e2' : selM (avs.map AV.isOwn) ρ' = bs.map some := e2
    rw [e2', (mrg_rep I.gr.vv bs rep r1 e3).2.1] at hz
    exact r2.mem hz
  · exact fun U' H' σ' ρ' _ I z => z.elim
  · exact fun U' H' σ' ρ' _ I z => z.elim
theorem spM_len {K : PySem.W.Frag} {kk : List Nat} {nl : Nat} {a : AS} {vs : List V} {H : Hp} {Q : VK} {E : XK} {tb : List Addr} (h : spM K tb (bodyM kk nl a) vs H Q E) : vs.length = kk.length := by
  obtain ⟨U, avs, q, x, sU, tbs, rep, nd, out, ⟨hk, hb⟩, kq, kx⟩ := h
  rw [← rep.length, ← hk, List.length_map]
abbrev AM := Env → (D → Env → Prop) → (Exn → Env → Prop) → Prop
abbrev AMO := Env → (AV → Env → Prop) → (Exn → Env → Prop) → Prop
abbrev AML := Env → (List D → Env → Prop) → (Exn → Env → Prop) → Prop
def OldNew (H : Hp) (ρ ρ' : Env) (σ : L2.St) : Prop := ∀ p ∈ owns ρ' σ, p ∈ owns ρ σ ∨ H p = none
theorem OldNew.trans {H H1 : Hp} {M : List Addr} {U U1 : Hp} {ρ ρ1 ρ2 : Env} {σ : L2.St} (g : Gr M U H U1 H1) (a : OldNew H ρ ρ1 σ) (b : OldNew H1 ρ1 ρ2 σ) : OldNew H ρ ρ2 σ := fun p hp => by
  rcases b p hp with z | z
  · exact a p z
  · exact .inr (g.fresh z)
def SimM (c : DC) (t : TE) (e : AM) : Prop := ∀ (U H : Hp) (σ : L2.St) (ρ : Env) (Q : D → Env → Prop) (q : VK), DI c U H σ ρ → e ρ Q (fun x ρ => c.x ρ x) →
  (∀ U' H' ρ' d v, Gr (owns ρ σ) U H U' H' → DI c U' H' σ ρ' → OldNew H ρ ρ' σ → R c.K U' d v → Q d ρ' → q v H') → t σ H q
def SimMO (c : DC) (t : TE) (e : AMO) : Prop := ∀ (U H : Hp) (σ : L2.St) (ρ : Env) (Q : AV → Env → Prop) (q : VK), DI c U H σ ρ → e ρ Q (fun x ρ => c.x ρ x) →
  (∀ U' H' ρ' av v, Gr (owns ρ σ) U H U' H' → DI c U' H' σ ρ' → OldNew H ρ ρ' σ → RepA c.K U' H' av v → Fresh U' H av v → (∀ p ∈ own av v, p ∉ owns ρ' σ) → Q av ρ' → q v H') → t σ H q
theorem OldNew.refl {H : Hp} {ρ : Env} {σ : L2.St} : OldNew H ρ ρ σ := fun _ h => .inl h
section
variable {t ta : TE} {e : AE} {o : AO} {m : AM} {mo : AMO} {i : Nat}
def mE (e : AE) : AM := fun ρ Q X => e ρ (fun d => Q d ρ) (fun x => X x ρ)
def mO (e : AO) : AMO := fun ρ Q X => e ρ (fun d => Q d ρ) (fun x => X x ρ)
def mFz (e : AMO) : AM := fun ρ Q X => e ρ (fun av ρ' => frzQ (fun d => Q d ρ') av) X
theorem simM_fz (h : SimMO c t mo) : SimM c t (mFz mo) := fun U H σ ρ Q q I z k => h U H σ ρ _ _ I z fun U1 H1 ρ1 av v g1 I1 o1 r1 n1 d1 z1 => by
  obtain ⟨d, f, z2⟩ := frzQ_some z1
  exact k (sealU U1 H1 (own av v)) H1 ρ1 d v (g1.sealL n1.out (own_pl av v r1)) (I1.sealL (fun p hp => ⟨(n1.out p hp).1, I.gr.fresh (n1.out p hp).2, d1 p hp⟩) (own_pl av v r1)) o1 (RepA.frozen (fun p hp => (n1.out p hp).1) av v d r1 f fun _ h => h) z2
def mNil : AML := fun ρ Q _ => Q [] ρ
def mCons (a : AM) (r : AML) : AML := fun ρ Q X => a ρ (fun d ρ1 => r ρ1 (fun ds ρ2 => Q (d :: ds) ρ2) X) X
def mTup (r : AML) : AM := fun ρ Q X => r ρ (fun ds ρ1 => ds.length ≤ 1000000 ∧ Q (.tup ds) ρ1) X
def mLst (r : AML) : AMO := fun ρ Q X => r ρ (fun ds ρ1 => ds.length ≤ 1000000 ∧ Q (.ol ds) ρ1) X
def mSet (i : Nat) (e : AM) : AS := fun N ρ => e ρ (fun d ρ1 => N.nx (ρ1.set i (some (.fz d)))) N.ex
def mSetO (i : Nat) (e : AMO) : AS := fun N ρ => e ρ (fun av ρ1 => N.nx (ρ1.set i (some av))) N.ex
def mDrop (e : AM) : AS := fun N ρ => e ρ (fun _ ρ1 => N.nx ρ1) N.ex
def mRet (e : AM) : AS := fun N ρ => e ρ (fun d ρ1 => N.rt (.fz d) ρ1) N.ex
def mRetO (e : AMO) : AS := fun N ρ => e ρ (fun av ρ1 => N.rt av ρ1) N.ex
theorem simM_drop (h : SimM c t m) : SimS c (tDrop t) (mDrop m) := fun U H σ ρ N n hx I z P => by
  unfold mDrop at z
  rw [hx] at z
  exact h U H σ ρ _ _ I z fun U1 H1 ρ1 d v g1 I1 _ r1 z1 => P.nx U1 H1 _ _ g1.vv I1 z1
def mApp (i : Nat) (e : AM) : AS := fun N ρ => olQ ρ i fun _ => e ρ (fun d ρ1 => olQ ρ1 i fun ds => ds.length < 1000000 ∧ N.nx (ρ1.set i (some (.ol (ds ++ [d]))))) N.ex
def argM (ρ : Env) : Arg → Option AV
  | .val d => some (.fz d)
  | .slot i => match ρ[i]? with
    | some (some av) => if av.isOwn = true then some av else none
    | _ => none
def argsM (ρ : Env) : List Arg → Option (List AV)
  | [] => some []
  | a :: as => match argM ρ a, argsM ρ as with
    | some x, some xs => some (x :: xs)
    | _, _ => none
def slotIx : List Arg → List Nat
  | [] => []
  | .slot i :: as => i :: slotIx as
  | .val _ :: as => slotIx as
def putA (ρ : Env) : List Arg → List AV → Env
  | .slot i :: as, a :: avs => (putA ρ as avs).set i (some a)
  | .val _ :: as, _ :: avs => putA ρ as avs
  | _, _ => ρ
theorem putA_len (ρ : Env) : ∀ (as : List Arg) (avs : List AV), (putA ρ as avs).length = ρ.length
  | [], _ => by unfold putA; rfl
  | .slot i :: as, [] => by unfold putA; rfl
  | .val _ :: as, [] => by unfold putA; rfl
  | .slot i :: as, a :: avs => by show ((putA ρ as avs).set i (some a)).length = _; rw [List.length_set]; exact putA_len ρ as avs
  | .val _ :: as, a :: avs => putA_len ρ as avs
theorem putA_out (ρ : Env) {k : Nat} : ∀ (as : List Arg) (avs : List AV), k ∉ slotIx as → (putA ρ as avs)[k]? = ρ[k]?
  | [], _, _ => by unfold putA; rfl
  | .slot i :: as, [], _ => by unfold putA; rfl
  | .val _ :: as, [], _ => by unfold putA; rfl
  | .slot i :: as, a :: avs, h => by
    show ((putA ρ as avs).set i (some a))[k]? = _
    rw [List.getElem?_set_ne (fun z => h (by rw [z]; exact List.mem_cons_self)), putA_out ρ as avs fun z => h (List.mem_cons_of_mem _ z)]
  | .val _ :: as, a :: avs, h => putA_out ρ as avs h
theorem slotIx_mem {i : Nat} : ∀ {as : List Arg}, i ∈ slotIx as ↔ ∃ n : Nat, as[n]? = some (.slot i)
  | [] => ⟨fun h => (by cases h), fun ⟨n, h⟩ => (by simp at h)⟩
  | .slot j :: as => by
    constructor
    · intro h
      rcases List.mem_cons.mp h with rfl | h
      · exact ⟨0, rfl⟩
      · obtain ⟨n, hn⟩ := (slotIx_mem (as := as)).mp h
        exact ⟨n + 1, hn⟩
    · rintro ⟨n, h⟩
      cases n with
      | zero => cases h; exact List.mem_cons_self
      | succ n => exact List.mem_cons_of_mem _ ((slotIx_mem (as := as)).mpr ⟨n, h⟩)
  | .val d :: as => by
    constructor
    · intro h
      obtain ⟨n, hn⟩ := (slotIx_mem (as := as)).mp (show i ∈ slotIx as from h)
      exact ⟨n + 1, hn⟩
    · rintro ⟨n, h⟩
      cases n with
      | zero => cases h
      | succ n => exact (show i ∈ slotIx as from (slotIx_mem (as := as)).mpr ⟨n, h⟩)
theorem slot_uniq {i : Nat} : ∀ {as : List Arg} {n m : Nat}, (slotIx as).Nodup → as[n]? = some (.slot i) → as[m]? = some (.slot i) → n = m
  | [], n, m, _, h, _ => by simp at h
  | .val d :: as, 0, m, _, h, _ => by cases h
  | .val d :: as, n + 1, 0, _, _, h => by cases h
  | .val d :: as, n + 1, m + 1, nd, h, k => congrArg (· + 1) (slot_uniq (as := as) nd h k)
  | .slot j :: as, 0, 0, _, _, _ => rfl
  | .slot j :: as, 0, m + 1, nd, h, k => by
    cases h
    exact absurd (slotIx_mem.mpr ⟨m, k⟩) (List.nodup_cons.mp (show (i :: slotIx as).Nodup from nd)).1
  | .slot j :: as, n + 1, 0, nd, h, k => by
    cases k
    exact absurd (slotIx_mem.mpr ⟨n, h⟩) (List.nodup_cons.mp (show (i :: slotIx as).Nodup from nd)).1
  | .slot j :: as, n + 1, m + 1, nd, h, k => congrArg (· + 1) (slot_uniq (as := as) (List.nodup_cons.mp (show (j :: slotIx as).Nodup from nd)).2 h k)
theorem putA_in (ρ : Env) {i : Nat} {a' : AV} (hi : i < ρ.length) : ∀ (as : List Arg) (avs : List AV) (n : Nat), (slotIx as).Nodup → as[n]? = some (.slot i) → avs[n]? = some a' → (putA ρ as avs)[i]? = some (some a')
  | [], _, n, _, h, _ => by simp at h
  | _ :: _, [], n, _, _, h => by simp at h
  | .slot j :: as, a :: avs, 0, _, h, k => by
    cases h
    cases k
    show ((putA ρ as avs).set i (some a'))[i]? = _
    rw [List.getElem?_set_self (by rw [putA_len]; exact hi)]
  | .slot j :: as, a :: avs, n + 1, nd, h, k => by
    have nd' := List.nodup_cons.mp (show (j :: slotIx as).Nodup from nd)
    show ((putA ρ as avs).set j (some a))[i]? = _
    rw [List.getElem?_set_ne (fun z => nd'.1 (slotIx_mem.mpr ⟨n, by rw [z]; exact h⟩))]
    exact putA_in ρ hi as avs n nd'.2 h k
  | .val d :: as, a :: avs, 0, _, h, _ => by cases h
  | .val d :: as, a :: avs, n + 1, nd, h, k => putA_in ρ hi as avs n nd h k
theorem argsM_at {ρ : Env} : ∀ {as : List Arg} {avs : List AV}, argsM ρ as = some avs → avs.length = as.length ∧ ∀ (n : Nat) (x : Arg), as[n]? = some x → ∃ a, avs[n]? = some a ∧ argM ρ x = some a
  | [], avs, e => by
    cases e
    exact ⟨rfl, fun n x h => by simp at h⟩
  | y :: as, avs, e => by
    unfold argsM at e
    cases ea : argM ρ y with
    | none => rw [ea] at e; cases e
    | some a =>
      rw [ea] at e
      cases es : argsM ρ as with
      | none => rw [es] at e; cases e
      | some xs =>
        rw [es] at e
        cases e
        obtain ⟨l, h⟩ := argsM_at es
        refine ⟨by rw [List.length_cons, List.length_cons, l], fun n x hx => ?_⟩
        cases n with
        | zero => cases hx; exact ⟨a, rfl, ea⟩
        | succ n => exact h n x hx
theorem argM_slot {ρ : Env} {i : Nat} {a : AV} (h : argM ρ (.slot i) = some a) : ρ[i]? = some (some a) ∧ a.isOwn = true := by
  unfold argM at h
  dsimp only at h
  split at h
  · rename_i av e
    split at h
    · cases h; exact ⟨e, by assumption⟩
    · cases h
  · cases h
theorem perA_at {H : Hp} : ∀ {as' as : List AV} {vs : List V} {n : Nat} {a' a : AV} {v : V}, PerA H as' as vs → as'[n]? = some a' → as[n]? = some a → vs[n]? = some v → ∀ p ∈ own a' v, p ∈ own a v ∨ H p = none
  | [], _, _, n, _, _, _, _, h, _, _ => by simp at h
  | _ :: _, [], _, n, _, _, _, _, _, h, _ => by simp at h
  | _ :: _, _ :: _, [], n, _, _, _, _, _, _, h => by simp at h
  | x' :: as', x :: as, w :: vs, 0, a', a, v, h, e1, e2, e3 => by
    cases e1
    cases e2
    cases e3
    exact h.1
  | x' :: as', x :: as, w :: vs, n + 1, a', a, v, h, e1, e2, e3 => perA_at (as' := as') (as := as) (vs := vs) (n := n) h.2 e1 e2 e3
theorem ownAs_K (avs : List AV) (vs : List V) (h : avs.length = vs.length) : ownAs avs vs = owns (avs.map some) (vs.map some) := by
  have := owns_args avs vs 0 0 h
  rw [← this]
  simp
theorem ownK_args {avs : List AV} {vs : List V} {n : Nat} {a : AV} {v : V} (h1 : avs[n]? = some a) (h2 : vs[n]? = some v) : ownK (avs.map some) (vs.map some) n = own a v := by
  unfold ownK
  rw [List.getElem?_map, List.getElem?_map, h1, h2]
  rfl
def callM (A : AFM) (ρ : Env) (Q : AV → Env → Prop) (X : Exn → Env → Prop) (as : List Arg) : Prop := (slotIx as).Nodup ∧ match argsM ρ as with
  | some avs => A avs (fun av avs' => Q av (putA ρ as avs')) (fun x avs' => X x (putA ρ as avs'))
  | none => False
theorem callM_of {A : AFM} {Q : AV → Env → Prop} {X : Exn → Env → Prop} {as : List Arg} (h : callM A ρ Q X as) : (slotIx as).Nodup ∧ ∃ avs, argsM ρ as = some avs ∧ A avs (fun av avs' => Q av (putA ρ as avs')) (fun x avs' => X x (putA ρ as avs')) := by
  obtain ⟨h1, h2⟩ := h
  refine ⟨h1, ?_⟩
  cases e : argsM ρ as with
  | none => rw [e] at h2; exact h2.elim
  | some avs => rw [e] at h2; exact ⟨avs, rfl, h2⟩
theorem run_spM {A : AFM} {as : List Arg} {vs : List V} {Q : AV → Env → Prop} {q : VK} {E : XK} {X : Exn → Env → Prop} (I : DI c U H σ ρ) (r : Paired (ArgR c.K U σ) as vs) (h : callM A ρ Q X as)
    (k : ∀ U' H' ρ' av v, Gr (owns ρ σ) U H U' H' → DI c U' H' σ ρ' → OldNew H ρ ρ' σ → RepA c.K U' H' av v → Fresh U' H av v → (∀ p ∈ own av v, p ∉ owns ρ' σ) → Q av ρ' → q v H')
    (kx : ∀ U' H' ρ' x cls o, DI c U' H' σ ρ' → XRep c.K U' H' x cls o → X x ρ' → E cls o H') : spM c.K c.tb A vs H q E := by
  obtain ⟨nd, avs, ea, hA⟩ := callM_of h
  obtain ⟨la, hat⟩ := argsM_at ea
  have lv : as.length = vs.length := r.length
  obtain ⟨nd1, nd2⟩ := ownK_nodup.mp I.nd
  have rl : ρ.length = σ.length := I.rep.length
  -- position by position
  have slot : ∀ (n i : Nat), as[n]? = some (.slot i) → ∃ a v, avs[n]? = some a ∧ vs[n]? = some v ∧ ρ[i]? = some (some a) ∧ σ[i]? = some (some v) ∧ RepA c.K U H a v ∧ ownK ρ σ i = own a v := fun n i hn => by
    obtain ⟨a, e1, e2⟩ := hat n _ hn
    obtain ⟨e3, _⟩ := argM_slot e2
    obtain ⟨v, e4, e5⟩ := Paired.at' r n _ hn
    obtain ⟨w, e6, e7, _⟩ := rep_at I.rep i a e3
    have e5' : σ[i]? = some (some v) := e5
    rw [e5'] at e6
    cases e6
    exact ⟨a, v, e1, e4, e3, e5', e7, by unfold ownK; rw [e3, e5']; rfl⟩
  have val : ∀ (n : Nat) (d : D), as[n]? = some (.val d) → avs[n]? = some (.fz d) := fun n d hn => by
    obtain ⟨a, e1, e2⟩ := hat n _ hn
    cases e2
    exact e1
  have rep : Paired (RepA c.K U H) avs vs := paired_at (la.trans lv) fun n a v ha hv => by
    obtain ⟨x, ex⟩ : ∃ x, as[n]? = some x := ⟨as[n]'(by rw [lv]; exact (List.getElem?_eq_some_iff.mp hv).1), List.getElem?_eq_getElem _⟩
    cases x with
    | val d =>
      rw [val n d ex] at ha
      cases ha
      obtain ⟨w, e1, e2⟩ := Paired.at' r n _ ex
      rw [hv] at e1
      cases e1
      exact e2
    | slot i =>
      obtain ⟨a', v', f1, f2, _, _, f5, _⟩ := slot n i ex
      rw [ha] at f1
      rw [hv] at f2
      cases f1
      cases f2
      exact f5
  have ownN : ∀ (n : Nat) (a : AV) (v : V) (p : Addr), avs[n]? = some a → vs[n]? = some v → p ∈ own a v → ∃ i, as[n]? = some (.slot i) ∧ p ∈ ownK ρ σ i := fun n a v p ha hv hp => by
    obtain ⟨x, ex⟩ : ∃ x, as[n]? = some x := ⟨as[n]'(by rw [lv]; exact (List.getElem?_eq_some_iff.mp hv).1), List.getElem?_eq_getElem _⟩
    cases x with
    | val d =>
      rw [val n d ex] at ha
      cases ha
      cases v <;> cases hp
    | slot i =>
      obtain ⟨a', v', f1, f2, _, _, _, f6⟩ := slot n i ex
      rw [ha] at f1
      rw [hv] at f2
      cases f1
      cases f2
      exact ⟨i, ex, by rw [f6]; exact hp⟩
  have memA : ∀ {bs : List AV} {p : Addr}, bs.length = vs.length → p ∈ ownAs bs vs → ∃ (n : Nat) (b : AV) (v : V), bs[n]? = some b ∧ vs[n]? = some v ∧ p ∈ own b v := fun {bs p} hl hp => by
    rw [ownAs_K bs vs hl] at hp
    obtain ⟨n, hn⟩ := ownK_mem.mp hp
    unfold ownK at hn
    rw [List.getElem?_map, List.getElem?_map] at hn
    cases e1 : bs[n]? with
    | none => rw [e1] at hn; cases hn
    | some b =>
      rw [e1] at hn
      cases e2 : vs[n]? with
      | none => rw [e2] at hn; cases hn
      | some v => rw [e2] at hn; exact ⟨n, b, v, e1, e2, hn⟩
  have inA : ∀ p ∈ ownAs avs vs, ∃ i, i ∈ slotIx as ∧ p ∈ ownK ρ σ i := fun p hp => by
    obtain ⟨n, a, v, e1, e2, e3⟩ := memA (la.trans lv) hp
    obtain ⟨i, f1, f2⟩ := ownN n a v p e1 e2 e3
    exact ⟨i, slotIx_mem.mpr ⟨n, f1⟩, f2⟩
  have ndA : (ownAs avs vs).Nodup := by
    rw [ownAs_K avs vs (la.trans lv)]
    refine ownK_nodup.mpr ⟨fun n => ?_, fun n m p hnm hn hm => ?_⟩
    · cases e1 : avs[n]? with
      | none => unfold ownK; rw [List.getElem?_map, e1]; exact List.nodup_nil
      | some a =>
        cases e2 : vs[n]? with
        | none => unfold ownK; rw [List.getElem?_map, List.getElem?_map, e1, e2]; exact List.nodup_nil
        | some v =>
          rw [ownK_args e1 e2]
          by_cases hz : own a v = []
          · rw [hz]; exact List.nodup_nil
          · obtain ⟨p, hp⟩ := List.exists_mem_of_ne_nil _ hz
            obtain ⟨i, f1, _⟩ := ownN n a v p e1 e2 hp
            obtain ⟨a', v', g1, g2, _, _, _, g6⟩ := slot n i f1
            rw [e1] at g1
            rw [e2] at g2
            cases g1
            cases g2
            rw [← g6]
            exact nd1 i
    · have at1 : ∀ l, p ∈ ownK (avs.map some) (vs.map some) l → ∃ i, as[l]? = some (.slot i) ∧ p ∈ ownK ρ σ i := fun l hl => by
        unfold ownK at hl
        rw [List.getElem?_map, List.getElem?_map] at hl
        cases e1 : avs[l]? with
        | none => rw [e1] at hl; cases hl
        | some a =>
          rw [e1] at hl
          cases e2 : vs[l]? with
          | none => rw [e2] at hl; cases hl
          | some v => rw [e2] at hl; exact ownN l a v p e1 e2 hl
      obtain ⟨i, f1, f2⟩ := at1 n hn
      obtain ⟨j, g1, g2⟩ := at1 m hm
      by_cases hij : i = j
      · subst hij
        exact hnm (slot_uniq nd f1 g1)
      · exact nd2 i j p hij f2 g2
  have step : ∀ {U' H' : Hp} {avs' : List AV}, Gr (ownAs avs vs) U H U' H' → Paired (RepA c.K U' H') avs' vs → (ownAs avs' vs).Nodup → (∀ p ∈ ownAs avs' vs, U' p = none) → avs'.map AV.kind = avs.map AV.kind → PerA H avs' avs vs →
      DI c U' H' σ (putA ρ as avs') ∧ OldNew H ρ (putA ρ as avs') σ ∧ Gr (owns ρ σ) U H U' H' ∧ ∀ p ∈ owns (putA ρ as avs') σ, p ∈ owns ρ σ ∨ p ∈ ownAs avs' vs := fun {U' H' avs'} g r' n' u' kd per => by
    have l' : avs'.length = vs.length := r'.length
    obtain ⟨nd1', nd2'⟩ := ownK_nodup.mp (by rw [← ownAs_K avs' vs l']; exact n')
    have sl' : ∀ (n i : Nat), as[n]? = some (.slot i) → ∃ a a' v, avs[n]? = some a ∧ avs'[n]? = some a' ∧ vs[n]? = some v ∧ ρ[i]? = some (some a) ∧ (putA ρ as avs')[i]? = some (some a') ∧ σ[i]? = some (some v) ∧ a'.kind = a.kind ∧ RepA c.K U' H' a' v ∧ ownK (putA ρ as avs') σ i = own a' v ∧ ownK ρ σ i = own a v := fun n i hn => by
      obtain ⟨a, v, e1, e2, e3, e4, _, e6⟩ := slot n i hn
      obtain ⟨a', f1⟩ : ∃ x, avs'[n]? = some x := ⟨avs'[n]'(by rw [l']; exact (List.getElem?_eq_some_iff.mp e2).1), List.getElem?_eq_getElem _⟩
      have f2 := putA_in ρ (i := i) (a' := a') (List.getElem?_eq_some_iff.mp e3).1 as avs' n nd hn f1
      obtain ⟨w, f3, f4⟩ := Paired.at' r' n a' f1
      rw [e2] at f3
      cases f3
      have f5 : a'.kind = a.kind := by
        have : (avs'.map AV.kind)[n]? = (avs.map AV.kind)[n]? := by rw [kd]
        rw [List.getElem?_map, List.getElem?_map, f1, e1] at this
        exact Option.some.inj this
      exact ⟨a, a', v, e1, f1, e2, e3, f2, e4, f5, f4, by unfold ownK; rw [f2, e4]; rfl, e6⟩
    have J : ∀ k, (slotIx as).contains k = true ↔ ∃ n : Nat, as[n]? = some (.slot k) := fun k => by rw [List.contains_iff_mem, slotIx_mem]
    have nJ : ∀ k, (slotIx as).contains k = false → k ∉ slotIx as := fun k hk z => by rw [List.contains_iff_mem.mpr z] at hk; cases hk
    have hin : ∀ p ∈ owns (putA ρ as avs') σ, p ∈ owns ρ σ ∨ p ∈ ownAs avs' vs := fun p hp => by
      obtain ⟨k, hk⟩ := ownK_mem.mp hp
      cases hj : (slotIx as).contains k with
      | true =>
        obtain ⟨n, hn⟩ := (J k).mp hj
        obtain ⟨a, a', v, _, f1, e2, _, _, _, _, _, f9, _⟩ := sl' n k hn
        refine .inr ?_
        rw [ownAs_K avs' vs l']
        exact ownK_mem.mpr ⟨n, by rw [ownK_args f1 e2, ← f9]; exact hk⟩
      | false =>
        refine .inl (ownK_mem.mpr ⟨k, ?_⟩)
        unfold ownK at hk ⊢
        rw [putA_out ρ as avs' (nJ k hj)] at hk
        exact hk
    have gw : Gr (owns ρ σ) U H U' H' := g.weak fun p hp => by
      obtain ⟨i, _, hi⟩ := inA p hp
      exact ownK_mem.mpr ⟨i, hi⟩
    refine ⟨I.multi (M := ownAs avs vs) (fun k => (slotIx as).contains k) g (putA_len ρ as avs') (fun k hk => putA_out ρ as avs' (nJ k hk)) (fun k hk => ?_) (fun p hp => ?_) (fun k p hk hp => ?_) (fun k l p hkl hk hl hp hq => ?_), fun p hp => ?_, gw, hin⟩
    · obtain ⟨n, hn⟩ := (J k).mp hk
      obtain ⟨a, a', v, e1, f1, e2, e3, f2, e4, f5, f6, f7, _⟩ := sl' n k hn
      exact ⟨a, a', v, e3, f2, e4, f5, f6, by have := nd1' n; rwa [ownK_args f1 e2] at this⟩
    · obtain ⟨i, h1, h2⟩ := inA p hp
      exact ⟨i, List.contains_iff_mem.mpr h1, h2⟩
    · obtain ⟨n, hn⟩ := (J k).mp hk
      obtain ⟨a, a', v, e1, f1, e2, e3, f2, e4, f5, f6, f7, f8⟩ := sl' n k hn
      rw [f7] at hp
      refine ⟨u' p (by rw [ownAs_K avs' vs l']; exact ownK_mem.mpr ⟨n, by rw [ownK_args f1 e2]; exact hp⟩), ?_⟩
      rw [f8]
      exact perA_at per f1 e1 e2 p hp
    · obtain ⟨n, hn⟩ := (J k).mp hk
      obtain ⟨m, hm⟩ := (J l).mp hl
      obtain ⟨a, a', v, _, f1, e2, _, _, _, _, _, f7, _⟩ := sl' n k hn
      obtain ⟨b, b', w, _, g1, h2, _, _, _, _, _, g7, _⟩ := sl' m l hm
      rw [f7] at hp
      rw [g7] at hq
      refine nd2' n m p (fun z => ?_) (by rw [ownK_args f1 e2]; exact hp) (by rw [ownK_args g1 h2]; exact hq)
      rw [z] at hn
      rw [hn] at hm
      cases hm
      exact hkl rfl
    · rcases hin p hp with z | z
      · exact .inl z
      · obtain ⟨n, a', v, f1, e2, f3⟩ := memA l' z
        obtain ⟨a, e1⟩ : ∃ x, avs[n]? = some x := ⟨avs[n]'(by rw [la, lv]; exact (List.getElem?_eq_some_iff.mp e2).1), List.getElem?_eq_getElem _⟩
        rcases perA_at per f1 e1 e2 p f3 with y | y
        · obtain ⟨i, _, hi⟩ := ownN n a v p e1 e2 y
          exact .inl (ownK_mem.mpr ⟨i, hi⟩)
        · exact .inr y
  refine ⟨U, avs, _, _, I.vh, I.tbs, rep, ndA, fun p hp => ?_, hA, fun U' H' av v avs' g ra n1 n2 r' n3 n4 kd per z => ?_, fun U' H' ex cls o avs' g xr r' n3 n4 kd per z => ?_⟩
  · obtain ⟨i, _, hi⟩ := inA p hp
    exact (I.out p (ownK_mem.mpr ⟨i, hi⟩)).1
  · obtain ⟨s1, s2, s3, s4⟩ := step g r' n3 n4 kd per
    refine k U' H' _ av v s3 s1 s2 ra ⟨n1, fun p hp => ⟨(n2 p hp).1, (n2 p hp).2.1⟩⟩ (fun p hp y => ?_) z
    rcases s4 p y with w | w
    · exact I.ex p w (n2 p hp).2.1
    · exact (n2 p hp).2.2 w
  · obtain ⟨s1, _⟩ := step g r' n3 n4 kd per
    exact kx U' H' _ ex cls o s1 xr z
def aSlotO (i : Nat) (r : AA) : AA := fun ρ Q X => match ρ[i]? with
  | some (some _) => r ρ (fun ds => Q (.slot i :: ds)) X
  | _ => False
theorem sim_slotO {tr : TA} {r : AA} (hr : SimA c tr r) : SimA c (tCons (tVar i) tr) (aSlotO i r) := fun U H σ ρ Q q I z k => by
  unfold aSlotO at z
  split at z
  · rename_i e0
    obtain ⟨v, e, _⟩ := rep_at I.rep i _ e0
    exact ⟨v, e, hr U H σ ρ _ _ I z fun U2 H2 ds vs g2 I2 r2 z2 => k U2 H2 (.slot i :: ds) (v :: vs) g2 I2 (.cons e r2) z2⟩
  · exact z.elim
def mCall (A : AFM) (r : AA) : AMO := fun ρ Q X => r ρ (callM A ρ Q X) (fun x => X x ρ)
def mCall0 (A : AFM) (r : AA) : AMO := fun ρ Q X => r ρ (callM A ρ Q fun _ _ => False) (fun x => X x ρ)
theorem simM_call {A : AFM} {tr : TA} {r : AA} {E : XK} (hr : SimA c tr r) : SimMO c (tCall (spM c.K c.tb A) [] E tr) (mCall0 A r) := fun U H σ ρ Q q I z k =>
  hr U H σ ρ _ _ I z fun U1 H1 as vs g1 I1 r1 z1 => by
    rw [List.append_nil]
    exact run_spM I1 r1 z1 (fun U2 H2 ρ2 av v g2 I2 o2 r2 n2 d2 z2 => k U2 H2 ρ2 av v ((g1.weak drs_sub).trans g2) I2 (OldNew.trans g1 .refl o2) r2 (n2.back fun _ h => g1.fresh h) d2 z2) (fun _ _ _ _ _ _ _ _ z => z.elim)
end
end
end SW
namespace SW
open PySem PySem.Spec PyProof.Rows L2
variable [QN]
def rCatS : R2 := fun x y H Q => ∃ i j, x = .str i ∧ y = .str j ∧ i.length + j.length ≤ sizeLine ∧ Q (.str (i ++ j)) H
theorem op_catS {X : Cx} : OpR X (binaryOp .Add) rCatS := op_add_str
section
variable {K : PySem.W.Frag} {c : DC} {U H : Hp} {ta : TE} {tr : TA} {a : AE} {r : AL}
def aBmS (f : D → List D → (D → Prop) → Prop) (a : AE) (r : AL) : AE := fun ρ Q X => a ρ (strQ fun x => r ρ (fun ds => f (.str x) ds Q) X) X
def oCatS : D → D → (D → Prop) → Prop := fun d e Q => strQ (fun x => strQ (fun y => x.length + y.length ≤ 1000000 ∧ Q (.str (x ++ y))) e) d
theorem op_catSD : OpD K rCatS oCatS := fun U H v w d e Q q s cd ce z k => by
  obtain ⟨x, rfl, z0⟩ := strQ_of z
  obtain ⟨y, rfl, z1, z⟩ := strQ_of z0
  exact ⟨x, y, cd.str, ce.str, le_size z1, k U H (.str _) _ (Gr.refl s) rfl z⟩
end
end SW
namespace SW
open PySem PySem.Spec PyProof.Rows L2
variable [QN]
section
variable {c : DC} {U H U' H' : Hp} {σ τ : L2.St} {ρ ρ' : Env}
/-- a comprehension whose element changes slots -/
def aCompM (g : AG) (e : AM) (vs : List Nat) : List D → List D → Env → (List D → Env → Prop) → (Exn → Env → Prop) → Prop
  | [], acc, ρ, Q, _ => Q acc ρ
  | d :: r, acc, ρ, Q, X => g d ρ (fun ρ2 => e ρ2 (fun y ρ3 => acc.length < 1000000 ∧ aCompM g e vs r (acc ++ [y]) (wipeA ρ3 vs) Q X) X)
def mLc (it : AL) (g : AG) (e : AM) (vs : List Nat) : AMO := fun ρ Q X => it ρ (fun ds => aCompM g e vs ds [] (wipeA ρ vs) (fun acc ρ' => Q (.ol acc) ρ') X) (fun x => X x ρ)
end
end SW
namespace SW
open PySem PySem.Spec PyProof.Rows L2
variable [QN]
section
variable {c : DC} {U H U' H' : Hp} {σ : L2.St} {ρ ρ' : Env}
inductive Swap : AV → V → AV → V → AV → AV → Prop
  | here {b b' : AV} {w : V} : Swap b w b w b' b'
  | on {ws : List V} {as : List AV} {v : V} {k : Nat} {a a' b b' : AV} {x w : V} : as[k]? = some a → ws[k]? = some x → Swap a x b w b' a' → Swap (.on ws as) v b w b' (.on ws (as.set k a'))
theorem ownAs_set : ∀ {as : List AV} {ws : List V} {k : Nat} {a a' : AV} {x : V}, as[k]? = some a → ws[k]? = some x → own a' x = own a x → ownAs (as.set k a') ws = ownAs as ws
  | [], _, k, a, a', x, e, _, _ => by simp at e
  | _ :: _, [], k, a, a', x, _, e, _ => by simp at e
  | b :: as, y :: ws, 0, a, a', x, e, f, h => by
    cases e
    cases f
    show own a' _ ++ ownAs as ws = own _ _ ++ ownAs as ws
    rw [h]
  | b :: as, y :: ws, k + 1, a, a', x, e, f, h => by
    show own b y ++ ownAs (as.set k a') ws = own b y ++ ownAs as ws
    rw [ownAs_set (as := as) (ws := ws) e f h]
theorem repAs_set {K : PySem.W.Frag} : ∀ {as : List AV} {ws : List V} {k : Nat} {a a' : AV} {x : V}, RepAs K U H as ws → as[k]? = some a → ws[k]? = some x → RepA K U H' a' x → (ownAs as ws).Nodup → (∀ p, p ∉ own a x → H' p = H p) → (∀ p ∈ ownAs as ws, U p = none) → RepAs K U H' (as.set k a') ws
  | [], _, k, a, a', x, _, e, _, _, _, _, _ => by simp at e
  | _ :: _, [], k, a, a', x, _, _, e, _, _, _, _ => by simp at e
  | b :: as, y :: ws, 0, a, a', x, ⟨v, r, e1, h1, h2⟩, e, f, h, nd, hH, hu => by
    cases e
    cases f
    obtain ⟨rfl, rfl⟩ := List.cons.inj e1
    obtain ⟨n1, n2, n3⟩ := List.nodup_append.mp (show (own b y ++ ownAs as ws).Nodup from nd)
    exact ⟨y, ws, rfl, h, RepAs.keep (Same.refl U) as ws (fun p hp => ⟨hH p (fun z => n3 p z p hp rfl), hu p (List.mem_append_right _ hp)⟩) h2⟩
  | b :: as, y :: ws, k + 1, a, a', x, ⟨v, r, e1, h1, h2⟩, e, f, h, nd, hH, hu => by
    obtain ⟨rfl, rfl⟩ := List.cons.inj e1
    obtain ⟨n1, n2, n3⟩ := List.nodup_append.mp (show (own b y ++ ownAs as ws).Nodup from nd)
    exact ⟨y, ws, rfl, RepA.keep (Same.refl U) b y (fun p hp => ⟨hH p (fun z => n3 p hp p (ownAs_at (as := as) e f p z) rfl), hu p (List.mem_append_left _ hp)⟩) h1, repAs_set (as := as) h2 e f h n2 hH fun p hp => hu p (List.mem_append_right _ hp)⟩
theorem Swap.sub {K : PySem.W.Frag} {a b b' a' : AV} {v w : V} (h : Swap a v b w b' a') : RepA K U H a v → ∀ p ∈ own b w, p ∈ own a v := by
  induction h with
  | here => exact fun _ p hp => hp
  | on h1 h2 _ ih =>
    rintro ⟨q, rfl, _, k⟩ p hp
    exact List.mem_cons_of_mem _ (ownAs_at h1 h2 p (ih (RepAs.at k _ _ _ h1 h2) p hp))
theorem ownAs_nd : ∀ {as : List AV} {ws : List V} {k : Nat} {a : AV} {x : V}, as[k]? = some a → ws[k]? = some x → (ownAs as ws).Nodup → (own a x).Nodup
  | [], _, k, a, x, e, _, _ => by simp at e
  | _ :: _, [], k, a, x, _, e, _ => by simp at e
  | b :: as, y :: ws, 0, a, x, e, f, h => by
    cases e
    cases f
    exact (List.nodup_append.mp (show (own b y ++ ownAs as ws).Nodup from h)).1
  | b :: as, y :: ws, k + 1, a, x, e, f, h => ownAs_nd (as := as) (ws := ws) e f (List.nodup_append.mp (show (own b y ++ ownAs as ws).Nodup from h)).2.1
theorem Swap.ok {K : PySem.W.Frag} {a b b' a' : AV} {v w : V} (h : Swap a v b w b' a') : RepA K U H a v → (own a v).Nodup → (∀ p ∈ own a v, U p = none) → RepA K U H' b' w → own b' w = own b w → b'.kind = b.kind → (∀ p, p ∉ own b w → H' p = H p) → RepA K U H' a' v ∧ own a' v = own a v ∧ a'.kind = a.kind := by
  induction h with
  | here => exact fun _ _ _ h1 h2 h3 _ => ⟨h1, h2, h3⟩
  | @on ws as v k a a' b b' x w h1 h2 hs ih =>
    rintro ⟨q, rfl, hq, k1⟩ nd hu r1 o1 kd hH
    have nd' : (q :: ownAs as ws).Nodup := nd
    obtain ⟨nq, nd2⟩ := List.nodup_cons.mp nd'
    have ra := RepAs.at k1 _ _ _ h1 h2
    have sub : ∀ p ∈ own a x, p ∈ ownAs as ws := ownAs_at h1 h2
    obtain ⟨i1, i2, i3⟩ := ih ra (ownAs_nd h1 h2 nd2) (fun p hp => hu p (List.mem_cons_of_mem _ (sub p hp))) r1 o1 kd hH
    have eo := ownAs_set h1 h2 i2
    have qn : q ∉ own b w := fun z => nq (sub q (hs.sub ra q z))
    refine ⟨⟨q, rfl, (hH q qn).trans hq, repAs_set k1 h1 h2 i1 nd2 (fun p hp => hH p fun z => hp (hs.sub ra p z)) fun p hp => hu p (List.mem_cons_of_mem _ hp)⟩, ?_, rfl⟩
    show q :: ownAs (as.set k a') ws = q :: ownAs as ws
    rw [eo]
theorem DI.swap {j : Nat} {a b b' a' : AV} {v w : V} (I : DI c U H σ ρ) (e1 : ρ[j]? = some (some a)) (e2 : σ[j]? = some (some v)) (h : Swap a v b w b' a') (r : RepA c.K U H' b' w) (ho : own b' w = own b w) (hk : b'.kind = b.kind) (hH : ∀ p, p ∉ own b w → H' p = H p) (hd : ∀ p ∈ own b w, H' p ≠ none) : DI c U H' σ (ρ.set j (some a')) := by
  obtain ⟨v', f1, f2, f3⟩ := rep_at I.rep j a e1
  rw [e2] at f1
  cases f1
  have hu : ∀ p ∈ own a v, U p = none := fun p hp => (I.out p (f3 p hp)).1
  obtain ⟨k1, k2, k3⟩ := h.ok f2 (own_nd I.nd e1 e2) hu r ho hk hH
  have sub := h.sub f2
  have hj : j < ρ.length := (List.getElem?_eq_some_iff.mp e1).1
  have ej : (ρ.set j (some a'))[j]? = some (some a') := List.getElem?_set_self hj
  have ok1 : ownK ρ σ j = own a v := by unfold ownK; rw [e1, e2]; rfl
  have ok2 : ownK (ρ.set j (some a')) σ j = own a v := by unfold ownK; rw [ej, e2]; exact k2
  have g : Gr (own b w) U H U H' := ⟨Same.refl U, fun x o e => by
    have : x ∉ own b w := fun z => by rw [hu x (sub x z)] at e; cases e
    rw [hH x this]
    exact I.vh x o e, fun x o m _ e => by rw [hH x m]; exact e, fun x e => by
    by_cases z : x ∈ own b w
    · exact hd x z
    · rw [hH x z]; exact e, fun x e _ => e, fun P h => tab_keep h fun x o e n => by
    rw [hH x fun z => by
      obtain ⟨y, y1, y2⟩ := I.pl x (f3 x (sub x z))
      rw [y1] at e
      cases e
      rw [y2] at n
      cases n]
    exact e, id⟩
  refine I.multi (M := own b w) (fun k => k == j) g (List.length_set ..) (fun k hk => ?_) (fun k hk => ?_) (fun p hp => ⟨j, by simp, by rw [ok1]; exact sub p hp⟩) (fun k p hk hp => ?_) (fun k l p hkl h1 h2 => ?_)
  · rw [List.getElem?_set_ne fun z => by rw [z] at hk; simp at hk]
  · have : k = j := by simpa using hk
    subst this
    exact ⟨a, a', v, e1, ej, e2, k3, k1, by rw [k2]; exact own_nd I.nd e1 e2⟩
  · have : k = j := by simpa using hk
    subst this
    rw [ok2] at hp
    exact ⟨hu p hp, .inl (by rw [ok1]; exact hp)⟩
  · have a1 : k = j := by simpa using h1
    have a2 : l = j := by simpa using h2
    exact absurd (a1.trans a2.symm) hkl
/-- lines[i][k], where that never changes -/
def onQ (ρ : Env) (j : Nat) (Q : List V → List AV → Prop) : Prop := match ρ[j]? with
  | some (some (.on ws as)) => Q ws as
  | _ => False
abbrev AMLO := Env → (List AV → Env → Prop) → (Exn → Env → Prop) → Prop
def mNilO : AMLO := fun ρ Q _ => Q [] ρ
def mConsO (a : AMO) (r : AMLO) : AMLO := fun ρ Q X => a ρ (fun d ρ1 => r ρ1 (fun ds ρ2 => Q (d :: ds) ρ2) X) X
/-- a value that never changes, among things of one's own -/
def mUp (e : AM) : AMO := fun ρ Q X => e ρ (fun d ρ1 => Q (.fz d) ρ1) X
def mLstO (r : AMLO) : AMO := fun ρ Q X => r ρ (fun as ρ1 => as.length ≤ 1000000 ∧ ∀ ws : List V, ws.length = as.length → Q (.on ws as) ρ1) X
theorem repAs_snoc {K : PySem.W.Frag} : ∀ {as : List AV} {ws : List V} {a : AV} {w : V}, RepAs K U H as ws → RepA K U H a w → RepAs K U H (as ++ [a]) (ws ++ [w])
  | [], _, a, w, h, k => by
    rw [show _ = [] from h]
    exact ⟨w, [], rfl, k, rfl⟩
  | b :: as, _, a, w, ⟨v, r, e, h1, h2⟩, k => by
    subst e
    exact ⟨v, r ++ [w], rfl, h1, repAs_snoc h2 k⟩
theorem ownAs_snoc {K : PySem.W.Frag} : ∀ {as : List AV} {ws : List V} {a : AV} {w : V}, RepAs K U H as ws → ownAs (as ++ [a]) (ws ++ [w]) = ownAs as ws ++ own a w
  | [], _, a, w, h => by
    rw [show _ = [] from h]
    show own a w ++ [] = [] ++ own a w
    rw [List.append_nil]
    rfl
  | b :: as, _, a, w, ⟨v, r, e, h1, h2⟩ => by
    subst e
    show own b v ++ ownAs (as ++ [a]) (r ++ [w]) = (own b v ++ ownAs as r) ++ own a w
    rw [ownAs_snoc h2, List.append_assoc]
/-- a thing of one's own is put behind a list of such things -/
def mAppN (j : Nat) (e : AMO) : AS := fun N ρ => onQ ρ j fun _ _ => e ρ (fun av ρ1 => onQ ρ1 j fun ws as => ws.length < 1000000 ∧ av.kind = 5 ∧ ∀ p : Addr, (∀ (k : Nat) (xs : List V) (bs : List AV), as[k]? = some (.on xs bs) → ws[k]? ≠ some (.ref p)) → N.nx (ρ1.set j (some (.on (ws ++ [.ref p]) (as ++ [av]))))) N.ex
def fltD : D → Bool
  | .int _ => true
  | .bl _ => true
  | .str _ => true
  | .non => true
  | _ => false
theorem flt_r {K : PySem.W.Frag} {d : D} {v : V} (h : fltD d = true) (r : R K U d v) : R K U' d v := by
  cases d <;> first | exact r | cases h
def fltQ (Q : D → Prop) : AV → Prop
  | .fz d => fltD d = true ∧ Q d
  | _ => False
def argF (ρ : Env) : Arg → Option AV
  | .val d => some (.fz d)
  | .slot i => match ρ[i]? with
    | some (some av) => av.frz.map .fz
    | _ => none
def argsF (ρ : Env) : List Arg → Option (List AV)
  | [] => some []
  | a :: as => match argF ρ a, argsF ρ as with
    | some x, some xs => some (x :: xs)
    | _, _ => none
def callF (A : AF) (ρ : Env) (Q : D → Prop) (as : List Arg) : Prop := match argsF ρ as with
  | some avs => A avs (fltQ Q) fun _ => False
  | none => False
theorem argsF_rep (I : DI c U H σ ρ) : ∀ {as : List Arg} {vs : List V} {avs : List AV}, Paired (ArgR c.K U σ) as vs → argsF ρ as = some avs → Paired (RepA c.K (sealU U H (owns ρ σ)) H) avs vs ∧ (∀ a ∈ avs, ∃ d, a = .fz d)
  | _, _, avs, .nil, e => by
    cases e
    exact ⟨.nil, fun p hp => (by cases hp)⟩
  | a :: as, v :: vs, avs, .cons h t, e => by
    unfold argsF at e
    cases ea : argF ρ a with
    | none => rw [ea] at e; cases e
    | some x =>
      rw [ea] at e
      cases es : argsF ρ as with
      | none => rw [es] at e; cases e
      | some xs =>
        rw [es] at e
        cases e
        obtain ⟨i1, i2⟩ := argsF_rep I t es
        have hs : ∀ p ∈ owns ρ σ, U p = none := fun p hp => (I.out p hp).1
        cases a with
        | val d =>
          cases ea
          exact ⟨.cons (R.mono (seal_same hs) d v h) i1, fun y hy => by
            rcases List.mem_cons.mp hy with rfl | hy
            · exact ⟨d, rfl⟩
            · exact i2 y hy⟩
        | slot i =>
          unfold argF at ea
          dsimp only at ea
          split at ea
          · rename_i av e1
            cases ef : av.frz with
            | none => rw [ef] at ea; cases ea
            | some d =>
              rw [ef] at ea
              cases ea
              obtain ⟨w, f1, f2, f3⟩ := rep_at I.rep i av e1
              have h' : σ[i]? = some (some v) := h
              rw [h'] at f1
              cases f1
              exact ⟨.cons (RepA.frozen hs av v d f2 ef f3) i1, fun y hy => by
                rcases List.mem_cons.mp hy with rfl | hy
                · exact ⟨d, rfl⟩
                · exact i2 y hy⟩
          · cases ea
theorem ownAs_fz : ∀ {avs : List AV} {vs : List V}, (∀ a ∈ avs, ∃ d, a = .fz d) → ownAs avs vs = []
  | [], _, _ => by unfold ownAs; rfl
  | a :: as, [], _ => by unfold ownAs; rfl
  | a :: as, v :: vs, h => by
    obtain ⟨d, rfl⟩ := h a List.mem_cons_self
    show own (.fz d) v ++ ownAs as vs = []
    rw [ownAs_fz (avs := as) fun x hx => h x (List.mem_cons_of_mem _ hx)]
    cases v <;> rfl
def aCallF (A : AF) (r : AA) : AE := fun ρ Q X => r ρ (callF A ρ Q) X
end
end SW
namespace SW
open PySem PySem.Spec PyProof.Rows L2 SWS
variable [QN]
section
variable {c : DC} {K : PySem.W.Frag}
/-- len(set(xs)) as it is read -/
def aLenSet (a : AE) : AE := fun ρ Q X => a ρ (seqQ fun ds => someQ (fun xs => xs.length ≤ 1000 ∧ ∀ c : Nat, c ≤ xs.length → (c = xs.length ↔ xs.Nodup) → Q (.int c)) (strsOf ds)) X
end
section
variable {K : PySem.W.Frag}
def int2Q (Q : Int → Int → Prop) : List D → Prop
  | [.int a, .int b] => Q a b
  | _ => False
def oMax2 : List D → (D → Prop) → Prop := fun ds Q => int2Q (fun a b => Q (.int (if b > a then b else a))) ds
def oMin2 : List D → (D → Prop) → Prop := fun ds Q => int2Q (fun a b => Q (.int (if b < a then b else a))) ds
end
end SW
namespace SW
open PySem PySem.Spec PyProof.Rows L2 SWS
variable [QN]
section
variable {ρ : Env} {nx : Env → Prop} {rt : AV → Env → Prop} {bk ct : Env → Prop} {ex : Exn → Env → Prop} {i j : Nat} {m : AM} {mo : AMO} {r : AML} {ro : AMLO} {e a : AE} {o : AO} {Q : D → Env → Prop} {O : AV → Env → Prop} {X : Exn → Env → Prop} {L : List D → Env → Prop} {LO : List AV → Env → Prop}
theorem m_set (q : m ρ (fun d ρ1 => nx (ρ1.set i (some (.fz d)))) ex) : mSet i m ⟨nx, rt, bk, ct, ex⟩ ρ := q
instance sm_set  : Stp (mSet i m ⟨nx, rt, bk, ct, ex⟩ ρ) (m ρ (fun d ρ1 => nx (ρ1.set i (some (.fz d)))) ex) := ⟨m_set⟩
theorem m_setO (q : mo ρ (fun av ρ1 => nx (ρ1.set i (some av))) ex) : mSetO i mo ⟨nx, rt, bk, ct, ex⟩ ρ := q
instance sm_setO  : Stp (mSetO i mo ⟨nx, rt, bk, ct, ex⟩ ρ) (mo ρ (fun av ρ1 => nx (ρ1.set i (some av))) ex) := ⟨m_setO⟩
theorem m_drop (q : m ρ (fun _ ρ1 => nx ρ1) ex) : mDrop m ⟨nx, rt, bk, ct, ex⟩ ρ := q
instance sm_drop  : Stp (mDrop m ⟨nx, rt, bk, ct, ex⟩ ρ) (m ρ (fun _ ρ1 => nx ρ1) ex) := ⟨m_drop⟩
theorem m_ret (q : m ρ (fun d ρ1 => rt (.fz d) ρ1) ex) : mRet m ⟨nx, rt, bk, ct, ex⟩ ρ := q
instance sm_ret  : Stp (mRet m ⟨nx, rt, bk, ct, ex⟩ ρ) (m ρ (fun d ρ1 => rt (.fz d) ρ1) ex) := ⟨m_ret⟩
theorem m_retO (q : mo ρ (fun av ρ1 => rt av ρ1) ex) : mRetO mo ⟨nx, rt, bk, ct, ex⟩ ρ := q
instance sm_retO  : Stp (mRetO mo ⟨nx, rt, bk, ct, ex⟩ ρ) (mo ρ (fun av ρ1 => rt av ρ1) ex) := ⟨m_retO⟩
theorem m_app {ds : List D} (h : ρ[i]? = some (some (.ol ds))) (q : m ρ (fun d ρ1 => olQ ρ1 i fun ds => ds.length < 1000000 ∧ nx (ρ1.set i (some (.ol (ds ++ [d]))))) ex) : mApp i m ⟨nx, rt, bk, ct, ex⟩ ρ := w_olQ h q
instance sm_app  : St1 (β := List D) (mApp i m ⟨nx, rt, bk, ct, ex⟩ ρ) (fun ds => ρ[i]? = some (some (.ol ds))) (fun ds => m ρ (fun d ρ1 => olQ ρ1 i fun ds => ds.length < 1000000 ∧ nx (ρ1.set i (some (.ol (ds ++ [d]))))) ex) := ⟨fun _ h q => m_app h q⟩
theorem w_onQ {ws : List V} {as : List AV} {P : List V → List AV → Prop} (h : ρ[i]? = some (some (.on ws as))) (q : P ws as) : onQ ρ i P := by unfold onQ; rw [h]; exact q
instance s_onQ {P : List V → List AV → Prop} : St2 (β := List V) (γ := List AV) (onQ ρ i P) (fun ws as => ρ[i]? = some (some (.on ws as))) (fun ws as => True) (fun ws as => P ws as) := ⟨fun _ _ h _ q => w_onQ h q⟩
theorem m_appN {ws : List V} {as : List AV} (h : ρ[i]? = some (some (.on ws as))) (q : mo ρ (fun av ρ1 => onQ ρ1 i fun ws as => ws.length < 1000000 ∧ av.kind = 5 ∧ ∀ p : Addr, (∀ (k : Nat) (xs : List V) (bs : List AV), as[k]? = some (.on xs bs) → ws[k]? ≠ some (.ref p)) → nx (ρ1.set i (some (.on (ws ++ [.ref p]) (as ++ [av]))))) ex) : mAppN i mo ⟨nx, rt, bk, ct, ex⟩ ρ := w_onQ h q
theorem m_E (q : e ρ (fun d => Q d ρ) (fun x => X x ρ)) : mE e ρ Q X := q
instance sm_E  : Stp (mE e ρ Q X) (e ρ (fun d => Q d ρ) (fun x => X x ρ)) := ⟨m_E⟩
theorem m_O (q : o ρ (fun d => O d ρ) (fun x => X x ρ)) : mO o ρ O X := q
instance sm_O  : Stp (mO o ρ O X) (o ρ (fun d => O d ρ) (fun x => X x ρ)) := ⟨m_O⟩
theorem m_fz (q : mo ρ (fun av ρ' => frzQ (fun d => Q d ρ') av) X) : mFz mo ρ Q X := q
instance sm_fz  : Stp (mFz mo ρ Q X) (mo ρ (fun av ρ' => frzQ (fun d => Q d ρ') av) X) := ⟨m_fz⟩
theorem m_up (q : m ρ (fun d ρ' => O (.fz d) ρ') X) : mUp m ρ O X := q
instance sm_up  : Stp (mUp m ρ O X) (m ρ (fun d ρ' => O (.fz d) ρ') X) := ⟨m_up⟩
theorem m_nil (q : L [] ρ) : mNil ρ L X := q
instance sm_nil  : Stp (mNil ρ L X) (L [] ρ) := ⟨m_nil⟩
theorem m_cons (q : m ρ (fun d ρ1 => r ρ1 (fun ds ρ2 => L (d :: ds) ρ2) X) X) : mCons m r ρ L X := q
instance sm_cons  : Stp (mCons m r ρ L X) (m ρ (fun d ρ1 => r ρ1 (fun ds ρ2 => L (d :: ds) ρ2) X) X) := ⟨m_cons⟩
theorem m_nilO (q : LO [] ρ) : mNilO ρ LO X := q
instance sm_nilO  : Stp (mNilO ρ LO X) (LO [] ρ) := ⟨m_nilO⟩
theorem m_consO (q : mo ρ (fun d ρ1 => ro ρ1 (fun ds ρ2 => LO (d :: ds) ρ2) X) X) : mConsO mo ro ρ LO X := q
instance sm_consO  : Stp (mConsO mo ro ρ LO X) (mo ρ (fun d ρ1 => ro ρ1 (fun ds ρ2 => LO (d :: ds) ρ2) X) X) := ⟨m_consO⟩
theorem m_tup (q : r ρ (fun ds ρ1 => ds.length ≤ 1000000 ∧ Q (.tup ds) ρ1) X) : mTup r ρ Q X := q
instance sm_tup  : Stp (mTup r ρ Q X) (r ρ (fun ds ρ1 => ds.length ≤ 1000000 ∧ Q (.tup ds) ρ1) X) := ⟨m_tup⟩
theorem m_lst (q : r ρ (fun ds ρ1 => ds.length ≤ 1000000 ∧ O (.ol ds) ρ1) X) : mLst r ρ O X := q
instance sm_lst  : Stp (mLst r ρ O X) (r ρ (fun ds ρ1 => ds.length ≤ 1000000 ∧ O (.ol ds) ρ1) X) := ⟨m_lst⟩
theorem m_lstO (q : ro ρ (fun as ρ1 => as.length ≤ 1000000 ∧ ∀ ws : List V, ws.length = as.length → O (.on ws as) ρ1) X) : mLstO ro ρ O X := q
instance sm_lstO  : Stp (mLstO ro ρ O X) (ro ρ (fun as ρ1 => as.length ≤ 1000000 ∧ ∀ ws : List V, ws.length = as.length → O (.on ws as) ρ1) X) := ⟨m_lstO⟩
theorem m_call0 {A : AFM} {aa : AA} (q : aa ρ (callM A ρ O fun _ _ => False) (fun x => X x ρ)) : mCall0 A aa ρ O X := q
instance sm_call0 {A : AFM} {aa : AA} : Stp (mCall0 A aa ρ O X) (aa ρ (callM A ρ O fun _ _ => False) (fun x => X x ρ)) := ⟨m_call0⟩
theorem m_call {A : AFM} {aa : AA} (q : aa ρ (callM A ρ O X) (fun x => X x ρ)) : mCall A aa ρ O X := q
instance sm_call {A : AFM} {aa : AA} : Stp (mCall A aa ρ O X) (aa ρ (callM A ρ O X) (fun x => X x ρ)) := ⟨m_call⟩
def ndB : List Nat → Bool
  | [] => true
  | x :: l => !l.contains x && ndB l
theorem ndB_of : ∀ {l : List Nat}, ndB l = true → l.Nodup
  | [], _ => List.nodup_nil
  | x :: l, h => by
    unfold ndB at h
    rw [Bool.and_eq_true] at h
    exact List.nodup_cons.mpr ⟨fun z => (by rw [List.contains_iff_mem.mpr z] at h; cases h.1), ndB_of h.2⟩
theorem m_callM {A : AFM} {as : List Arg} {avs : List AV} (h1 : ndB (slotIx as) = true) (h : argsM ρ as = some avs) (q : A avs (fun av avs' => O av (putA ρ as avs')) (fun x avs' => X x (putA ρ as avs'))) : callM A ρ O X as := ⟨ndB_of h1, by rw [h]; exact q⟩
theorem m_lc {it : AL} {g : AG} {vs : List Nat} (q : it ρ (fun ds => aCompM g m vs ds [] (wipeA ρ vs) (fun acc ρ' => O (.ol acc) ρ') X) (fun x => X x ρ)) : mLc it g m vs ρ O X := q
instance sm_lc {it : AL} {g : AG} {vs : List Nat} : Stp (mLc it g m vs ρ O X) (it ρ (fun ds => aCompM g m vs ds [] (wipeA ρ vs) (fun acc ρ' => O (.ol acc) ρ') X) (fun x => X x ρ)) := ⟨m_lc⟩
end
section
variable {ρ : Env} {nx : Env → Prop} {rt : AV → Env → Prop} {bk ct : Env → Prop} {ex : Exn → Env → Prop} {i j : Nat} {a e : AE} {Q : D → Prop} {X : Exn → Prop} {d : D} {av : AV}
theorem w_slotO {r : AA} {P : List Arg → Prop} (h : ρ[i]? = some (some av)) (q : r ρ (fun ds => P (.slot i :: ds)) X) : aSlotO i r ρ P X := by unfold aSlotO; rw [h]; exact q
instance s_slotO {r : AA} {P : List Arg → Prop} : St1 (β := AV) (aSlotO i r ρ P X) (fun av => ρ[i]? = some (some av)) (fun av => r ρ (fun ds => P (.slot i :: ds)) X) := ⟨fun _ h q => w_slotO h q⟩
theorem w_callF {A : AF} {r : AA} (q : r ρ (callF A ρ Q) X) : aCallF A r ρ Q X := q
instance s_callF {A : AF} {r : AA} : Stp (aCallF A r ρ Q X) (r ρ (callF A ρ Q) X) := ⟨w_callF⟩
theorem w_callFQ {A : AF} {as : List Arg} {avs : List AV} (h : argsF ρ as = some avs) (q : A avs (fltQ Q) fun _ => False) : callF A ρ Q as := by unfold callF; rw [h]; exact q
instance s_callFQ {A : AF} {as : List Arg} : St1 (β := List AV) (callF A ρ Q as) (fun avs => argsF ρ as = some avs) (fun avs => A avs (fltQ Q) fun _ => False) := ⟨fun _ h q => w_callFQ h q⟩
theorem w_fltI {x : Int} (q : Q (.int x)) : fltQ Q (.fz (.int x)) := ⟨rfl, q⟩
instance s_fltI {x : Int} : Stp (fltQ Q (.fz (.int x))) (Q (.int x)) := ⟨w_fltI⟩
theorem w_max2 {x y : Int} (q : Q (.int (if y > x then y else x))) : oMax2 [.int x, .int y] Q := q
instance s_max2 {x y : Int} : Stp (oMax2 [.int x, .int y] Q) (Q (.int (if y > x then y else x))) := ⟨w_max2⟩
theorem w_min2 {x y : Int} (q : Q (.int (if y < x then y else x))) : oMin2 [.int x, .int y] Q := q
instance s_min2 {x y : Int} : Stp (oMin2 [.int x, .int y] Q) (Q (.int (if y < x then y else x))) := ⟨w_min2⟩
theorem w_bmS {f : D → List D → (D → Prop) → Prop} {r : AL} (q : a ρ (strQ fun x => r ρ (fun ds => f (.str x) ds Q) X) X) : aBmS f a r ρ Q X := q
instance s_bmS {f : D → List D → (D → Prop) → Prop} {r : AL} : Stp (aBmS f a r ρ Q X) (a ρ (strQ fun x => r ρ (fun ds => f (.str x) ds Q) X) X) := ⟨w_bmS⟩
theorem w_strQ {P : Str → Prop} {x : Str} (q : P x) : strQ P (.str x) := q
instance s_strQ {P : Str → Prop} {x : Str} : Stp (strQ P (.str x)) (P x) := ⟨w_strQ⟩
theorem w_lenSet (q : a ρ (seqQ fun ds => someQ (fun xs => xs.length ≤ 1000 ∧ ∀ c : Nat, c ≤ xs.length → (c = xs.length ↔ xs.Nodup) → Q (.int c)) (strsOf ds)) X) : aLenSet a ρ Q X := q
instance s_lenSet  : Stp (aLenSet a ρ Q X) (a ρ (seqQ fun ds => someQ (fun xs => xs.length ≤ 1000 ∧ ∀ c : Nat, c ≤ xs.length → (c = xs.length ↔ xs.Nodup) → Q (.int c)) (strsOf ds)) X) := ⟨w_lenSet⟩
end
end SW
namespace SW
open PySem PySem.Spec PyProof.Rows L2 SWS
variable [QN]
section
variable {c : DC} {U H U' H' : Hp} {σ : L2.St} {ρ ρ' : Env}
def obQ (ρ : Env) (i : Nat) (C : Addr) (Q : Addr → List Str → List V → List AV → Prop) : Prop := match ρ[i]? with
  | some (some (.ob C' dx ns ws as)) => C' = C ∧ Q dx ns ws as
  | _ => False
theorem obQ_of {i : Nat} {C : Addr} {Q : Addr → List Str → List V → List AV → Prop} (h : obQ ρ i C Q) : ∃ dx ns ws as, ρ[i]? = some (some (.ob C dx ns ws as)) ∧ Q dx ns ws as := by
  unfold obQ at h
  split at h
  · obtain ⟨rfl, h⟩ := h
    exact ⟨_, _, _, _, by assumption, h⟩
  · exact h.elim
def aFldSet (i : Nat) (C : Addr) (f : Str) (e : AE) : AS := fun N ρ => e ρ (fun d => obQ ρ i C fun dx ns ws as => ns.contains f = false ∧ ns.length < 1000 ∧ ∀ v : V, N.nx (ρ.set i (some (.ob C dx (ns ++ [f]) (ws ++ [v]) (as ++ [.fz d]))))) (fun x => N.ex x ρ)
theorem putF_new {f : Str} {v : V} : ∀ {ns : List Str} {ws : List V}, ns.length = ws.length → ns.contains f = false → putF f v (ns.zip ws) = (ns ++ [f]).zip (ws ++ [v])
  | [], [], _, _ => rfl
  | [], _ :: _, h, _ => by cases h
  | _ :: _, [], h, _ => by cases h
  | n :: ns, w :: ws, h, k => by
    rw [List.contains_cons, Bool.or_eq_false_iff] at k
    show (if n = f then (n, v) :: ns.zip ws else (n, w) :: putF f v (ns.zip ws)) = _
    rw [if_neg (fun z => by rw [z] at k; simp at k), putF_new (Nat.succ.inj h) k.2]
    rfl
theorem sim_fldSet {i : Nat} {C : Addr} {f : Str} {te : TE} {e : AE} (hc : Cls c.K C) (hn : NoAttr c.K C f) (he : SimE c te e) : SimS c (sFld c.K (tVar i) te f) (aFldSet i C f e) := fun U H σ ρ N n hx I z P => by
  unfold aFldSet at z
  rw [hx] at z
  refine he U H σ ρ _ _ I z fun U1 H1 d v g1 I1 r1 z1 => ?_
  obtain ⟨dx, ns, ws, as, e1, nf, nl, z2⟩ := obQ_of z1
  obtain ⟨v0, f1, ⟨p, rfl, f3, f4, f5⟩, f6⟩ := rep_at I1.rep i _ e1
  have nd := own_nd I1.nd e1 f1
  have np : p ∉ ownAs as ws := (List.nodup_cons.mp (show (p :: ownAs as ws).Nodup from nd)).1
  have eo := ownAs_snoc (a := .fz d) (w := v) f5
  have eo2 : ownAs (as ++ [.fz d]) (ws ++ [v]) = ownAs as ws := by
    rw [eo]
    cases v <;> exact List.append_nil _
  have hu : ∀ q ∈ ownAs as ws, U1 q = none := fun q hq => (I1.out q (f6 q (List.mem_cons_of_mem _ hq))).1
  refine ⟨.ref p, f1, p, C, dx, _, rfl, f3, hc, hn, by rw [List.length_zip, ← f4, Nat.min_self]; exact nl, P.nx U1 _ σ _ g1.vv (I1.swap (b := .ob C dx ns ws as) (b' := .ob C dx (ns ++ [f]) (ws ++ [v]) (as ++ [.fz d])) e1 f1 .here ⟨p, rfl, by rw [upd_same, putF_new f4 nf], by rw [List.length_append, List.length_append, f4]; rfl, repAs_snoc (RepAs.keep (Same.refl U1) as ws (fun q hq => ⟨upd_ne (fun z => np (z ▸ hq)), hu q hq⟩) f5) r1⟩ (by show p :: _ = p :: _; rw [eo2]) rfl (fun x hx' => upd_ne fun z => hx' (by rw [z]; exact List.mem_cons_self)) (fun x hx' => ?_)) (z2 v)⟩
  by_cases z : x = p
  · rw [z, upd_same]
    intro z; cases z
  · rw [upd_ne z]
    exact I1.ex x (f6 x hx')
inductive KA where
  | kw (i : Nat) | df (d : D)
def kaD (es : List D) : KA → D
  | .kw i => es.getD i .non
  | .df d => d
def kaV (zs : List V) : KA → V
  | .kw i => zs.getD i .non
  | .df (.int i) => .int i
  | .df _ => .non
def kaOk (m : Nat) : KA → Bool
  | .kw i => decide (i < m)
  | .df (.int _) => true
  | .df .non => true
  | .df _ => false
theorem ka_rep {K : PySem.W.Frag} {es : List D} {zs : List V} (r : Rs K U es zs) {a : KA} (h : kaOk zs.length a = true) : R K U (kaD es a) (kaV zs a) := by
  cases a with
  | kw i =>
    have hi : i < zs.length := of_decide_eq_true h
    have hi2 : i < es.length := by rw [r.len]; exact hi
    obtain ⟨v, h1, h2⟩ := r.at i _ (List.getElem?_eq_getElem hi2)
    show R K U (es.getD i .non) (zs.getD i .non)
    rw [List.getD_eq_getElem?_getD, List.getElem?_eq_getElem hi2, List.getD_eq_getElem?_getD, h1]
    exact h2
  | df d => cases d <;> first | exact rfl | cases h
theorem kas_rep {K : PySem.W.Frag} {es : List D} {zs : List V} (r : Rs K U es zs) : ∀ {arr : List KA}, arr.all (kaOk zs.length) = true → Paired (RepA K U H) (arr.map fun a => .fz (kaD es a)) (arr.map (kaV zs))
  | [], _ => .nil
  | a :: arr, h => by
    rw [List.all_cons, Bool.and_eq_true] at h
    exact .cons (ka_rep r h.1) (kas_rep r h.2)
theorem Paired.app {α β : Type} {F : α → β → Prop} : ∀ {xs xs' : List α} {ys ys' : List β}, Paired F xs ys → Paired F xs' ys' → Paired F (xs ++ xs') (ys ++ ys')
  | _, _, _, _, .nil, k => k
  | _, _, _, _, .cons h t, k => .cons h (Paired.app t k)
def headQ (Q : AV → Prop) : List AV → Prop
  | a :: _ => Q a
  | [] => False
def mkQ (C : Addr) (A : AFM) (Q : AV → Prop) (X : Exn → Prop) (as : List AV) : Prop := ∀ dx : Addr, A (.ob C dx [] [] [] :: as) (fun av avs' => av = .fz .non ∧ headQ Q avs') (fun x _ => X x)
def objQ (C : Addr) (m : Str) (Q : D → Prop) : D → Prop
  | .obj C' ns ds => C' = C ∧ ns.contains m = false ∧ Q (.obj C' ns ds)
  | _ => False
theorem objQ_of {C : Addr} {m : Str} {Q : D → Prop} {d : D} (h : objQ C m Q d) : ∃ ns ds, d = .obj C ns ds ∧ ns.contains m = false ∧ Q d := by
  cases d with
  | obj C' ns ds =>
    obtain ⟨rfl, h1, h2⟩ := h
    exact ⟨ns, ds, rfl, h1, h2⟩
  | _ => exact h.elim
theorem lookup_none {m : Str} : ∀ {ns : List Str} {xs : List V}, ns.contains m = false → (ns.zip xs).lookup m = none
  | [], _, _ => rfl
  | _ :: _, [], _ => rfl
  | n :: ns, x :: xs, h => by
    rw [List.contains_cons, Bool.or_eq_false_iff] at h
    show (match m == n with | true => some x | false => (ns.zip xs).lookup m) = none
    rw [h.1]
    exact lookup_none h.2
def aMe0 (C : Addr) (m : Str) (A : AF) (a : AE) (r : AA) : AO := fun ρ Q X => a ρ (objQ C m fun d => r ρ (fun as => callQ A ρ Q (fun _ => False) (.val d :: as)) X) X
theorem sim_me0 {C : Addr} {m : Str} {A : AF} {ta : TE} {a : AE} {tr : TA} {r : AA} {E : XK} (ha : SimE c ta a) (hr : SimA c tr r) : SimO c (tMeth C m (spD c.K c.tb A) [] E ta tr) (aMe0 C m A a r) := fun U H σ ρ Q q I z k =>
  ha U H σ ρ _ _ I z fun U1 H1 d v g1 I1 r1 z1 => by
    obtain ⟨ns, ds, rfl, nm, z2⟩ := objQ_of z1
    obtain ⟨p, dx, xs, rfl, hp, hl, hrs⟩ := r1
    refine ⟨p, dx, _, rfl, I1.vh _ _ hp, lookup_none nm, hr U1 H1 σ ρ _ _ I1 z2 fun U2 H2 as vs g2 I2 r2 z3 => ?_⟩
    rw [List.append_nil]
    have r1' : R c.K U2 (.obj C ns ds) (.ref p) := R.mono g2.vv _ _ ⟨p, dx, xs, rfl, hp, hl, hrs⟩
    exact run_spD I2 (as := .val (.obj C ns ds) :: as) (vs := .ref p :: vs) (.cons r1' r2) z3 (fun U3 H3 av v g3 I3 r3 n3 z4 => k U3 H3 av v ((g1.trans g2).trans g3) I3 r3 (n3.back fun _ h => (g1.trans g2).fresh h) z4) (fun _ _ _ _ _ _ _ z => z.elim)
end
end SW
namespace SWS
open PySem PySem.Spec PyProof.Rows
end SWS
namespace SW
open PySem PySem.Spec PyProof.Rows L2 SWS
end SW
namespace SW
open PySem PySem.Spec PyProof.Rows L2 SWS
variable [QN]
def keyDecMem (y : Key) : (ks : List Key) → Decidable (y ∈ ks)
  | [] => Decidable.isFalse (by simp)
  | k :: ks => if h : y = k then Decidable.isTrue (h ▸ List.mem_cons_self) else match keyDecMem y ks with
    | Decidable.isTrue t => Decidable.isTrue (List.mem_cons_of_mem _ t)
    | Decidable.isFalse t => Decidable.isFalse fun z => (List.mem_cons.mp z).elim h t
instance (y : Key) (ks : List Key) : Decidable (y ∈ ks) := keyDecMem y ks
def dval : List Key → List D → Key → Option D
  | k :: ks, d :: ds, y => if k = y then some d else dval ks ds y
  | _, _, _ => none
/-- in its place, or at the end -/
def dputK (ks : List Key) (y : Key) : List Key := if y ∈ ks then ks else ks ++ [y]
def dputD : List Key → List D → Key → D → List D
  | k :: ks, d :: ds, y, e => if k = y then e :: ds else d :: dputD ks ds y e
  | _, _, _, e => [e]
def keyD : D → Option Key
  | .str x => some (.inr x)
  | .int i => some (.inl i)
  | _ => none
def dKQ (Q : List Key → List D → Prop) : D → Prop
  | .dK ks ds => Q ks ds
  | _ => False
section
variable {c : DC} {U H U' H' : Hp} {σ : L2.St} {ρ ρ' : Env} {ta tb : TE} {a b : AE}
/-- k in d, k not in d, d[k] -/
def aDIn (neg : Bool) (a b : AE) : AE := fun ρ Q X => a ρ (fun y => someQ (fun k => b ρ (dKQ fun ks ds => Q (.bl (if neg then !decide (k ∈ ks) else decide (k ∈ ks)))) X) (keyD y)) X
def aDGet (b a : AE) : AE := fun ρ Q X => b ρ (dKQ fun ks ds => a ρ (fun y => someQ (fun k => someQ Q (dval ks ds k)) (keyD y)) X) X
def fldIx (f : Str) : List Str → Nat → Option Nat
  | n :: ns, k => if n = f then some k else fldIx f ns (k + 1)
  | [], _ => none
def obfQ (ρ : Env) (i : Nat) (C : Addr) (f : Str) (Q : Addr → List Str → List V → List AV → Nat → AV → Prop) : Prop := obQ ρ i C fun dx ns ws as => match fldIx f ns 0 with
  | some k => match as[k]? with
    | some av => Q dx ns ws as k av
    | none => False
  | none => False
theorem obfQ_of {i : Nat} {C : Addr} {f : Str} {Q : Addr → List Str → List V → List AV → Nat → AV → Prop} (h : obfQ ρ i C f Q) : ∃ dx ns ws as k av, ρ[i]? = some (some (.ob C dx ns ws as)) ∧ fldIx f ns 0 = some k ∧ as[k]? = some av ∧ Q dx ns ws as k av := by
  obtain ⟨dx, ns, ws, as, e, h⟩ := obQ_of h
  split at h
  · split at h
    · exact ⟨dx, ns, ws, as, _, _, e, by assumption, by assumption, h⟩
    · exact h.elim
  · exact h.elim
theorem fldIx_look {f : Str} : ∀ {ns : List Str} {ws : List V} {j k : Nat} {v : V}, fldIx f ns j = some k → ns.length = ws.length → j ≤ k ∧ (ws[k - j]? = some v → (ns.zip ws).lookup f = some v)
  | [], ws, j, k, v, h, _ => by cases h
  | n :: ns, [], j, k, v, _, l => by cases l
  | n :: ns, w :: ws, j, k, v, h, l => by
    unfold fldIx at h
    by_cases hn : n = f
    · rw [if_pos hn] at h
      cases h
      refine ⟨Nat.le_refl _, fun e => ?_⟩
      rw [Nat.sub_self] at e
      cases e
      show (match f == n with | true => some w | false => _) = _
      rw [hn, beq_self_eq_true]
    · rw [if_neg hn] at h
      obtain ⟨i1, i2⟩ := fldIx_look (ws := ws) (v := v) h (Nat.succ.inj l)
      refine ⟨by omega, fun e => ?_⟩
      rw [show k - j = (k - (j + 1)) + 1 by omega, List.getElem?_cons_succ] at e
      show (match f == n with | true => some w | false => (ns.zip ws).lookup f) = _
      rw [beq_eq_false_iff_ne.mpr fun z => hn z.symm]
      exact i2 e
def aFldS (i : Nat) (C : Addr) (f : Str) : AE := fun ρ Q _ => obfQ ρ i C f fun _ _ _ _ _ av => someQ Q av.sh
theorem sim_fldS {i : Nat} {C : Addr} {f : Str} (hc : Cls c.K C) (hn : NoAttr c.K C f) : SimW c (tFld c.K (tVar i) f) (aFldS i C f) := fun U H σ ρ Q q I z k => by
  obtain ⟨dx, ns, ws, as, n, av, e1, e2, e3, z1⟩ := obfQ_of z
  obtain ⟨d, e4, z2⟩ := someQ_of z1
  obtain ⟨v0, f1, f2, _⟩ := rep_at I.rep i _ e1
  have f2' := f2
  obtain ⟨p, rfl, g1, g2, g3⟩ := f2'
  obtain ⟨w, w1, w2⟩ := Paired.at' g3.paired n _ e3
  have hl := (fldIx_look (v := w) e2 g2).2 (by rw [Nat.sub_zero]; exact w1)
  exact ⟨.ref p, f1, p, C, dx, _, w, rfl, g1, hc, hn, hl, k U H d w (Gr.refl I.vh) I (.inr ⟨i, _, .ref p, av, e1, f1, .ob e3 w1 .here, e4⟩) z2⟩
/-- self.f = a thing of one's own -/
def aFldSetO (i : Nat) (C : Addr) (f : Str) (e : AO) : AS := fun N ρ => e ρ (fun av => obQ ρ i C fun dx ns ws as => ns.contains f = false ∧ ns.length < 1000 ∧ ∀ v : V, N.nx (ρ.set i (some (.ob C dx (ns ++ [f]) (ws ++ [v]) (as ++ [av]))))) (fun x => N.ex x ρ)
theorem sim_fldSetO {i : Nat} {C : Addr} {f : Str} {te : TE} {e : AO} (hc : Cls c.K C) (hn : NoAttr c.K C f) (he : SimO c te e) : SimS c (sFld c.K (tVar i) te f) (aFldSetO i C f e) := fun U H σ ρ N n hx I z P => by
  unfold aFldSetO at z
  rw [hx] at z
  refine he U H σ ρ _ _ I z fun U1 H1 av v g1 I1 r1 n1 z1 => ?_
  obtain ⟨dx, ns, ws, as, e1, nf, nl, z2⟩ := obQ_of z1
  obtain ⟨v0, f1, ⟨p, rfl, f3, f4, f5⟩, f6⟩ := rep_at I1.rep i _ e1
  have nd := own_nd I1.nd e1 f1
  obtain ⟨np, nd2⟩ := List.nodup_cons.mp (show (p :: ownAs as ws).Nodup from nd)
  have eo := ownAs_snoc (a := av) (w := v) f5
  have hu : ∀ q ∈ p :: ownAs as ws, U1 q = none := fun q hq => (I1.out q (f6 q hq)).1
  have d1 : ∀ q ∈ own av v, q ∉ owns ρ σ := fun q hq zz => I.ex q zz (n1.out q hq).2
  have pa : p ∉ own av v := fun zz => d1 p zz (f6 p List.mem_cons_self)
  have ej : (ρ.set i (some (.ob C dx (ns ++ [f]) (ws ++ [v]) (as ++ [av]))))[i]? = some (some (.ob C dx (ns ++ [f]) (ws ++ [v]) (as ++ [av]))) := List.getElem?_set_self (List.getElem?_eq_some_iff.mp e1).1
  have ok1 : ownK ρ σ i = p :: ownAs as ws := by unfold ownK; rw [e1, f1]; rfl
  have ok2 : ownK (ρ.set i (some (.ob C dx (ns ++ [f]) (ws ++ [v]) (as ++ [av])))) σ i = p :: (ownAs as ws ++ own av v) := by
    unfold ownK
    rw [ej, f1, ← eo]
    rfl
  have g : Gr [p] U1 H1 U1 (upd H1 p (.ins C dx (putF f v (ns.zip ws)))) := (Gr.refl I1.vh).mut (hu p List.mem_cons_self) (.inl (List.mem_singleton.mpr rfl)) (I1.pl p (f6 p List.mem_cons_self))
  refine ⟨.ref p, f1, p, C, dx, _, rfl, f3, hc, hn, by rw [List.length_zip, ← f4, Nat.min_self]; exact nl, P.nx U1 _ σ _ g1.vv (I1.multiG (M := [p]) (fun k => k == i) g (List.length_set ..) (fun k hk => ?_) (fun k hk => ?_) (fun q hq => ⟨i, by simp, by rw [ok1, List.mem_singleton.mp hq]; exact List.mem_cons_self⟩) (fun k q hk hq => ?_) (fun k l q hkl h1 h2 => ?_)) (z2 v)⟩
  · rw [List.getElem?_set_ne fun z => by rw [z] at hk; simp at hk]
  · have : k = i := by simpa using hk
    subst this
    refine ⟨_, _, .ref p, e1, ej, f1, rfl, ⟨p, rfl, by rw [upd_same, putF_new f4 nf], by rw [List.length_append, List.length_append, f4]; rfl, repAs_snoc (RepAs.keep (Same.refl U1) as ws (fun q hq => ⟨upd_ne (fun z => np (z ▸ hq)), hu q (List.mem_cons_of_mem _ hq)⟩) f5) (RepA.keep (Same.refl U1) av v (fun q hq => ⟨upd_ne (fun z => pa (z ▸ hq)), (n1.out q hq).1⟩) r1)⟩, ?_⟩
    show (p :: ownAs (as ++ [av]) (ws ++ [v])).Nodup
    rw [eo]
    refine List.nodup_cons.mpr ⟨fun z => ?_, List.nodup_append.mpr ⟨nd2, n1.nd, fun x hx' y hy e => d1 y hy (f6 y (by rw [← e]; exact List.mem_cons_of_mem _ hx'))⟩⟩
    rcases List.mem_append.mp z with z | z
    · exact np z
    · exact pa z
  · have : k = i := by simpa using hk
    subst this
    rw [ok2] at hq
    rw [ok1]
    rcases List.mem_cons.mp hq with rfl | hq
    · exact ⟨hu q List.mem_cons_self, .inl List.mem_cons_self⟩
    · rcases List.mem_append.mp hq with hq | hq
      · exact ⟨hu q (List.mem_cons_of_mem _ hq), .inl (List.mem_cons_of_mem _ hq)⟩
      · exact ⟨(n1.out q hq).1, .inr ⟨d1 q hq, I.gr.fresh (n1.out q hq).2⟩⟩
  · have a1 : k = i := by simpa using h1
    have a2 : l = i := by simpa using h2
    exact absurd (a1.trans a2.symm) hkl
def aDNew : AO := fun _ Q _ => Q (.ok [] [])
@[reducible] def DC.no (c : DC) : DC := ⟨c.K, c.ks, c.pk, c.pv, c.O, c.M, c.U0, c.H0, fun _ _ => False, c.E, c.tb⟩
theorem DI.no (I : DI c U H σ ρ) : DI c.no U H σ ρ := ⟨I.gr, I.rep, I.nd, I.out, I.par, ⟨fun _ _ _ _ _ _ _ _ _ _ _ _ z => z.elim, I.ko.tb⟩, I.ow, I.on⟩
def kD : Key → D
  | .inl i => .int i
  | .inr x => .str x
def okQ (Q : List Key → List D → Prop) : AV → Prop
  | .ok ks ds => Q ks ds
  | _ => False
/-- a comprehension over a dict of the instance in a slot -/
def aLcD (i : Nat) (C : Addr) (f : Str) (ag : AG) (at' : AT) (e : AE) (vs : List Nat) : AO := fun ρ Q _ => obfQ ρ i C f fun dx ns ws as n av => okQ (fun ks _ => aComp ag at' e (wipeA (ρ.set i (some (.ob C dx ns ws (as.set n .un)))) vs) (fun _ => False) (ks.map kD) [] (fun acc => Q (.ol acc))) av
def aDPutF (i : Nat) (C : Addr) (f : Str) (ky e : AE) : AS := fun N ρ => e ρ (fun d => obfQ ρ i C f fun dx ns ws as n av => okQ (fun ks ds => ky ρ (fun y => someQ (fun kk => ks.length < 1000000 ∧ ks.Nodup ∧ N.nx (ρ.set i (some (.ob C dx ns ws (as.set n (.ok (dputK ks kk) (dputD ks ds kk d)))))) ) (keyD y)) (fun x => N.ex x ρ)) av) (fun x => N.ex x ρ)
def mMe (C : Addr) (m : Str) (A : AFM) (i : Nat) (r : AA) : AMO := fun ρ Q X => obQ ρ i C fun _ ns _ _ => ns.contains m = false ∧ r ρ (fun as => callM A ρ Q X (.slot i :: as)) (fun x => X x ρ)
end
section
variable {c : DC} {U H U' H' : Hp} {σ : L2.St} {ρ ρ' : Env}
def mMe0 (C : Addr) (m : Str) (A : AFM) (i : Nat) (r : AA) : AMO := fun ρ Q X => obQ ρ i C fun _ ns _ _ => ns.contains m = false ∧ r ρ (fun as => callM A ρ Q (fun _ _ => False) (.slot i :: as)) (fun x => X x ρ)
theorem simM_me0 {C : Addr} {m : Str} {A : AFM} {i : Nat} {tr : TA} {r : AA} {E : L2.St → XK} (hr : SimA c tr r) : SimMO c (tMeS C m (spM c.K c.tb A) [] E (tVar i) tr) (mMe0 C m A i r) := fun U H σ ρ Q q I z k => by
  obtain ⟨dx, ns, ws, as, e1, nm, z1⟩ := obQ_of z
  obtain ⟨v0, f1, ⟨p0, rfl, q1, q2, q3⟩, _⟩ := rep_at I.rep i _ e1
  refine ⟨.ref p0, f1, p0, dx, _, rfl, q1, lookup_none nm, hr U H σ ρ _ _ I z1 fun U1 H1 bs vs g1 I1 r1 z2 => ?_⟩
  rw [List.append_nil]
  exact run_spM I1 (as := .slot i :: bs) (vs := .ref p0 :: vs) (.cons f1 r1) z2 (fun U2 H2 ρ2 av v g2 I2 o2 r2 n2 d2 z3 => k U2 H2 ρ2 av v ((g1.weak drs_sub).trans g2) I2 (OldNew.trans g1 .refl o2) r2 (n2.back fun _ h => g1.fresh h) d2 z3) (fun _ _ _ _ _ _ _ _ z => z.elim)
def mMeN0 (C : Addr) (m : Str) (n mm : Nat) (A : AFM) (arr : List KA) (i : Nat) (r rk : AL) : AMO := fun ρ Q X => obQ ρ i C fun _ ns _ _ => ns.contains m = false ∧ r ρ (fun ds => rk ρ (fun es => ds.length = n ∧ es.length = mm ∧ arr.all (kaOk mm) = true ∧ callM A ρ Q (fun _ _ => False) (.slot i :: (ds.map .val ++ arr.map fun a => .val (kaD es a)))) (fun x => X x ρ)) (fun x => X x ρ)
/-- C() -/
def aMk00 (C : Addr) (A : AFM) : AO := fun _ Q _ => mkQ C A Q (fun _ => False) []
/-- a tuple that is read is as good as one that never changes -/
def aTupE (e : AE) : AE := fun ρ Q X => e ρ (tupQ fun ds => Q (.tup ds)) X
/-- a method with defaults alone, on the instance in a slot; nothing is raised -/
def mMeD0 (C : Addr) (m : Str) (A : AFM) (ns0 : List Int) (i : Nat) (r : AL) : AMO := fun ρ Q X => obQ ρ i C fun _ ns _ _ => ns.contains m = false ∧ r ρ (fun ds => callM A ρ Q (fun _ _ => False) (.slot i :: (ds.map .val ++ ns0.map fun a => .val (.int a)))) (fun x => X x ρ)
end
end SW
namespace SW
open PySem PySem.Spec PyProof.Rows L2 SWS
variable [QN]
section
variable {ρ : Env} {nx : Env → Prop} {rt : AV → Env → Prop} {bk ct : Env → Prop} {ex : Exn → Env → Prop} {i j k : Nat} {a b e : AE} {Q : D → Prop} {O : AV → Prop} {X : Exn → Prop} {C dx : Addr} {f : Str} {ns : List Str} {ws : List V} {as : List AV} {av : AV} {d : D} {ks : List Key} {ds : List D}
theorem w_dInF (q : a ρ (fun y => someQ (fun k => b ρ (dKQ fun ks _ => Q (.bl (decide (k ∈ ks)))) X) (keyD y)) X) : aDIn false a b ρ Q X := q
instance s_dInF  : Stp (aDIn false a b ρ Q X) (a ρ (fun y => someQ (fun k => b ρ (dKQ fun ks _ => Q (.bl (decide (k ∈ ks)))) X) (keyD y)) X) := ⟨w_dInF⟩
theorem w_dInT (q : a ρ (fun y => someQ (fun k => b ρ (dKQ fun ks _ => Q (.bl (!decide (k ∈ ks)))) X) (keyD y)) X) : aDIn true a b ρ Q X := q
instance s_dInT  : Stp (aDIn true a b ρ Q X) (a ρ (fun y => someQ (fun k => b ρ (dKQ fun ks _ => Q (.bl (!decide (k ∈ ks)))) X) (keyD y)) X) := ⟨w_dInT⟩
theorem w_dGet (q : b ρ (dKQ fun ks ds => a ρ (fun y => someQ (fun k => someQ Q (dval ks ds k)) (keyD y)) X) X) : aDGet b a ρ Q X := q
instance s_dGet  : Stp (aDGet b a ρ Q X) (b ρ (dKQ fun ks ds => a ρ (fun y => someQ (fun k => someQ Q (dval ks ds k)) (keyD y)) X) X) := ⟨w_dGet⟩
theorem w_keyS {P : Key → Prop} {x : Str} (q : P (.inr x)) : someQ P (keyD (.str x)) := q
instance s_keyS {P : Key → Prop} {x : Str} : Stp (someQ P (keyD (.str x))) (P (.inr x)) := ⟨w_keyS⟩
theorem w_dKQ {P : List Key → List D → Prop} (q : P ks ds) : dKQ P (.dK ks ds) := q
instance s_dKQ {P : List Key → List D → Prop} : Stp (dKQ P (.dK ks ds)) (P ks ds) := ⟨w_dKQ⟩
theorem w_obfQ {P : Addr → List Str → List V → List AV → Nat → AV → Prop} (h1 : ρ[i]? = some (some (.ob C dx ns ws as))) (h2 : fldIx f ns 0 = some k) (h3 : as[k]? = some av) (q : P dx ns ws as k av) : obfQ ρ i C f P := by
  unfold obfQ obQ
  rw [h1]
  refine ⟨rfl, ?_⟩
  dsimp only
  rw [h2]
  dsimp only
  rw [h3]
  exact q
theorem w_fldS (h1 : ρ[i]? = some (some (.ob C dx ns ws as))) (h2 : fldIx f ns 0 = some k) (h3 : as[k]? = some av) (h4 : av.sh = some d) (q : Q d) : aFldS i C f ρ Q X := w_obfQ h1 h2 h3 (by show someQ Q av.sh; rw [h4]; exact q)
theorem w_lcD {ag : AG} {at' : AT} {vs : List Nat} (h1 : ρ[i]? = some (some (.ob C dx ns ws as))) (h2 : fldIx f ns 0 = some k) (h3 : as[k]? = some (.ok ks ds)) (q : aComp ag at' e (wipeA (ρ.set i (some (.ob C dx ns ws (as.set k .un)))) vs) (fun _ => False) (ks.map kD) [] (fun acc => O (.ol acc))) : aLcD i C f ag at' e vs ρ O X := w_obfQ h1 h2 h3 q
theorem w_dPutF (q : e ρ (fun d => obfQ ρ i C f fun dx ns ws as n av => okQ (fun ks ds => a ρ (fun y => someQ (fun kk => ks.length < 1000000 ∧ ks.Nodup ∧ nx (ρ.set i (some (.ob C dx ns ws (as.set n (.ok (dputK ks kk) (dputD ks ds kk d))))))) (keyD y)) (fun x => ex x ρ)) av) (fun x => ex x ρ)) : aDPutF i C f a e ⟨nx, rt, bk, ct, ex⟩ ρ := q
instance s_dPutF  : Stp (aDPutF i C f a e ⟨nx, rt, bk, ct, ex⟩ ρ) (e ρ (fun d => obfQ ρ i C f fun dx ns ws as n av => okQ (fun ks ds => a ρ (fun y => someQ (fun kk => ks.length < 1000000 ∧ ks.Nodup ∧ nx (ρ.set i (some (.ob C dx ns ws (as.set n (.ok (dputK ks kk) (dputD ks ds kk d))))))) (keyD y)) (fun x => ex x ρ)) av) (fun x => ex x ρ)) := ⟨w_dPutF⟩
theorem w_okQ {P : List Key → List D → Prop} (q : P ks ds) : okQ P (.ok ks ds) := q
instance s_okQ {P : List Key → List D → Prop} : Stp (okQ P (.ok ks ds)) (P ks ds) := ⟨w_okQ⟩
theorem w_mk00 {A : AFM} (q : mkQ C A O (fun _ => False) []) : aMk00 C A ρ O X := q
instance s_mk00 {A : AFM} : Stp (aMk00 C A ρ O X) (mkQ C A O (fun _ => False) []) := ⟨w_mk00⟩
end
section
variable {ρ : Env} {O : AV → Env → Prop} {X : Exn → Env → Prop} {C dx : Addr} {m : Str} {A : AFM} {i n mm : Nat} {r : AA} {ra rk : AL} {arr : List KA} {ns : List Str} {ws : List V} {as : List AV}
theorem w_obQ {P : Addr → List Str → List V → List AV → Prop} (h1 : ρ[i]? = some (some (.ob C dx ns ws as))) (q : P dx ns ws as) : obQ ρ i C P := by
  unfold obQ
  rw [h1]
  exact ⟨rfl, q⟩
theorem m_me (h1 : ρ[i]? = some (some (.ob C dx ns ws as))) (h2 : ns.contains m = false) (q : r ρ (fun as => callM A ρ O X (.slot i :: as)) (fun x => X x ρ)) : mMe C m A i r ρ O X := w_obQ h1 ⟨h2, q⟩
theorem m_me0 (h1 : ρ[i]? = some (some (.ob C dx ns ws as))) (h2 : ns.contains m = false) (q : r ρ (fun as => callM A ρ O (fun _ _ => False) (.slot i :: as)) (fun x => X x ρ)) : mMe0 C m A i r ρ O X := w_obQ h1 ⟨h2, q⟩
theorem m_meN0 (h1 : ρ[i]? = some (some (.ob C dx ns ws as))) (h2 : ns.contains m = false) (q : ra ρ (fun ds => rk ρ (fun es => ds.length = n ∧ es.length = mm ∧ arr.all (kaOk mm) = true ∧ callM A ρ O (fun _ _ => False) (.slot i :: (ds.map .val ++ arr.map fun a => .val (kaD es a)))) (fun x => X x ρ)) (fun x => X x ρ)) : mMeN0 C m n mm A arr i ra rk ρ O X := w_obQ h1 ⟨h2, q⟩
end
end SW
namespace SW
open PySem PySem.Spec PyProof.Rows L2 SWS
end SW
namespace SW
open PySem PySem.Spec PyProof.Rows L2 SWS
variable [QN]
section
variable {c : DC} {U H : Hp} {σ : L2.St} {ρ : Env}
def lenQ (Q : D → Env → Prop) : AV → Env → Prop
  | .fz (.int n), ρ => (0 ≤ n ∧ n < 2 ^ 63) ∧ Q (.int n) ρ
  | _, _ => False
def mLenOwn (C : Addr) (A : AFM) (i : Nat) : AM := fun ρ Q _ => obQ ρ i C fun _ _ _ _ => callM A ρ (lenQ Q) (fun _ _ => False) [.slot i]
/-- len(d) -/
def oLenD : List D → (D → Prop) → Prop := fun ds Q => oneQ (dKQ fun ks _ => Q (.int ks.length)) ds
end
end SW
namespace SW
open PySem PySem.Spec PyProof.Rows L2 SWS
variable [QN]
abbrev AMT := Env → (Bool → Env → Prop) → (Exn → Env → Prop) → Prop
def SimMT (c : DC) (t : TT) (e : AMT) : Prop := ∀ (U H : Hp) (σ : L2.St) (ρ : Env) (Q : Bool → Env → Prop) (q : Bool → Hp → Prop), DI c U H σ ρ → e ρ Q (fun x ρ => c.x ρ x) →
  (∀ U' H' ρ' b, Gr (owns ρ σ) U H U' H' → DI c U' H' σ ρ' → OldNew H ρ ρ' σ → Q b ρ' → q b H') → t σ H q
section
variable {c : DC} {t u : TT} {ta tb te : TE} {m m1 : AM} {a b : AE} {e e1 e2 : AMT} {st su : TS} {sa sb : AS}
def mT (e : AT) : AMT := fun ρ Q X => e ρ (fun b => Q b ρ) (fun x => X x ρ)
def mTest (m : AM) : AMT := fun ρ Q X => m ρ (fun d ρ1 => blQ (fun b => Q b ρ1) d) X
theorem simM_test (h : SimM c te m) : SimMT c (tTest te) (mTest m) := fun U H σ ρ Q q I z k => h U H σ ρ _ _ I z fun U1 H1 ρ1 d v g1 I1 o1 r1 z1 => by
  cases d with
  | bl b => exact ⟨b, r1, k U1 H1 ρ1 b g1 I1 o1 z1⟩
  | _ => exact z1.elim
def mNot (e : AMT) : AMT := fun ρ Q X => e ρ (fun b ρ1 => Q (!b) ρ1) X
theorem simM_not (h : SimMT c t e) : SimMT c (tNot t) (mNot e) := fun U H σ ρ Q q I z k => h U H σ ρ _ _ I z fun U1 H1 ρ1 b g1 I1 o1 z1 => k U1 H1 ρ1 (!b) g1 I1 o1 z1
def mOr (e1 e2 : AMT) : AMT := fun ρ Q X => e1 ρ (fun b ρ1 => cond b (Q true ρ1) (e2 ρ1 Q X)) X
def mAnd (e1 e2 : AMT) : AMT := fun ρ Q X => e1 ρ (fun b ρ1 => cond b (e2 ρ1 Q X) (Q false ρ1)) X
def mIf (e : AMT) (sa sb : AS) : AS := fun N ρ => e ρ (fun b ρ1 => cond b (sa N ρ1) (sb N ρ1)) N.ex
theorem simM_if (h : SimMT c t e) (ha : SimS c st sa) (hb : SimS c su sb) : SimS c (tIfS t st su) (mIf e sa sb) := fun U H σ ρ N n hx I z P => by
  unfold mIf at z
  rw [hx] at z
  refine h U H σ ρ _ _ I z fun U1 H1 ρ1 b g1 I1 o1 z1 => ?_
  cases b with
  | true => exact ha U1 H1 σ ρ1 N n hx I1 z1 (P.mono g1.vv)
  | false => exact hb U1 H1 σ ρ1 N n hx I1 z1 (P.mono g1.vv)
/-- an operator whose left side changes slots -/
def mOpL (f : D → D → (D → Prop) → Prop) (m : AM) (b : AE) : AM := fun ρ Q X => m ρ (fun d ρ1 => b ρ1 (fun e => f d e (fun y => Q y ρ1)) (fun x => X x ρ1)) X
end
section
variable {ρ : Env} {Q : D → Env → Prop} {QT : Bool → Env → Prop} {O : AV → Env → Prop} {X : Exn → Env → Prop} {nx bk ct : Env → Prop} {rt : AV → Env → Prop} {ex : Exn → Env → Prop} {m : AM} {a b : AE} {e e1 e2 : AMT} {sa sb : AS} {C dx : Addr} {ns : List Str} {ws : List V} {as : List AV} {i : Nat} {A : AFM}
theorem m_ifM (q : e ρ (fun x ρ1 => cond x (sa ⟨nx, rt, bk, ct, ex⟩ ρ1) (sb ⟨nx, rt, bk, ct, ex⟩ ρ1)) ex) : mIf e sa sb ⟨nx, rt, bk, ct, ex⟩ ρ := q
instance sm_ifM  : Stp (mIf e sa sb ⟨nx, rt, bk, ct, ex⟩ ρ) (e ρ (fun x ρ1 => cond x (sa ⟨nx, rt, bk, ct, ex⟩ ρ1) (sb ⟨nx, rt, bk, ct, ex⟩ ρ1)) ex) := ⟨m_ifM⟩
theorem m_T {t : AT} (q : t ρ (fun x => QT x ρ) (fun x => X x ρ)) : mT t ρ QT X := q
instance sm_T {t : AT} : Stp (mT t ρ QT X) (t ρ (fun x => QT x ρ) (fun x => X x ρ)) := ⟨m_T⟩
theorem m_test (q : m ρ (fun d ρ1 => blQ (fun x => QT x ρ1) d) X) : mTest m ρ QT X := q
instance sm_test  : Stp (mTest m ρ QT X) (m ρ (fun d ρ1 => blQ (fun x => QT x ρ1) d) X) := ⟨m_test⟩
theorem m_not (q : e ρ (fun x ρ1 => QT (!x) ρ1) X) : mNot e ρ QT X := q
instance sm_not  : Stp (mNot e ρ QT X) (e ρ (fun x ρ1 => QT (!x) ρ1) X) := ⟨m_not⟩
theorem m_or (q : e1 ρ (fun x ρ1 => cond x (QT true ρ1) (e2 ρ1 QT X)) X) : mOr e1 e2 ρ QT X := q
instance sm_or  : Stp (mOr e1 e2 ρ QT X) (e1 ρ (fun x ρ1 => cond x (QT true ρ1) (e2 ρ1 QT X)) X) := ⟨m_or⟩
theorem m_and (q : e1 ρ (fun x ρ1 => cond x (e2 ρ1 QT X) (QT false ρ1)) X) : mAnd e1 e2 ρ QT X := q
instance sm_and  : Stp (mAnd e1 e2 ρ QT X) (e1 ρ (fun x ρ1 => cond x (e2 ρ1 QT X) (QT false ρ1)) X) := ⟨m_and⟩
theorem m_opL {f : D → D → (D → Prop) → Prop} (q : m ρ (fun d ρ1 => b ρ1 (fun y => f d y (fun z => Q z ρ1)) (fun x => X x ρ1)) X) : mOpL f m b ρ Q X := q
instance sm_opL {f : D → D → (D → Prop) → Prop} : Stp (mOpL f m b ρ Q X) (m ρ (fun d ρ1 => b ρ1 (fun y => f d y (fun z => Q z ρ1)) (fun x => X x ρ1)) X) := ⟨m_opL⟩
theorem m_lenOwn (h1 : ρ[i]? = some (some (.ob C dx ns ws as))) (q : callM A ρ (lenQ Q) (fun _ _ => False) [.slot i]) : mLenOwn C A i ρ Q X := w_obQ h1 q
theorem m_meD0 {mn : Str} {ns0 : List Int} {r : AL} (h1 : ρ[i]? = some (some (.ob C dx ns ws as))) (h2 : ns.contains mn = false) (q : r ρ (fun ds => callM A ρ O (fun _ _ => False) (.slot i :: (ds.map .val ++ ns0.map fun a => .val (.int a)))) (fun x => X x ρ)) : mMeD0 C mn A ns0 i r ρ O X := w_obQ h1 ⟨h2, q⟩
theorem w_tupE {XE : Exn → Prop} {QE : D → Prop} (q : a ρ (tupQ fun ds => QE (.tup ds)) XE) : aTupE a ρ QE XE := q
instance s_tupE {XE : Exn → Prop} {QE : D → Prop} : Stp (aTupE a ρ QE XE) (a ρ (tupQ fun ds => QE (.tup ds)) XE) := ⟨w_tupE⟩
theorem w_lenD {ks : List Key} {ds : List D} {QE : D → Prop} (q : QE (.int ks.length)) : oLenD [.dK ks ds] QE := q
instance s_lenD {ks : List Key} {ds : List D} {QE : D → Prop} : Stp (oLenD [.dK ks ds] QE) (QE (.int ks.length)) := ⟨w_lenD⟩
end
end SW
namespace SW
open PySem PySem.Spec PyProof.Rows L2 SWS
variable [QN]
open Sem (wp)
open AutoSeq1 (wpAny_loadPart')
section
variable {c : DC} {U H : Hp} {σ : L2.St} {ρ : Env}
def aEnumT (r : AL) : AL := fun ρ Q X => r ρ (oneQ (tupQ fun xs => Q (enumD xs))) X
def rngC (lo st : Int) (n : Nat) : List D := (List.range n).map fun i => .int (lo + (i : Nat) * st)
def threeQ (Q : D → D → D → Prop) : List D → Prop
  | [a, b, e] => Q a b e
  | _ => False
/-- range(i, j, k), n items -/
def aRng3 (r : AL) : AL := fun ρ Q X => r ρ (threeQ fun a b e => intQ (fun i => intQ (fun j => intQ (fun k => ∃ n : Nat, RgC i j k n ∧ Q (rngC i k n)) e) b) a) X
/-- an operator whose right side changes slots -/
def mOpRO (f : D → D → (AV → Prop) → Prop) (a : AE) (m : AM) : AMO := fun ρ Q X => a ρ (fun d => m ρ (fun e ρ1 => f d e (fun y => Q y ρ1)) X) (fun x => X x ρ)
end
section
variable {ρ : Env} {Q : D → Env → Prop} {L : List D → Prop} {O : AV → Env → Prop} {X : Exn → Env → Prop} {XE : Exn → Prop} {m : AM} {a : AE} {r : AL}
theorem w_enumT (q : r ρ (oneQ (tupQ fun xs => L (enumD xs))) XE) : aEnumT r ρ L XE := q
instance s_enumT  : Stp (aEnumT r ρ L XE) (r ρ (oneQ (tupQ fun xs => L (enumD xs))) XE) := ⟨w_enumT⟩
theorem w_rng3 (q : r ρ (threeQ fun a b e => intQ (fun i => intQ (fun j => intQ (fun k => ∃ n : Nat, RgC i j k n ∧ L (rngC i k n)) e) b) a) XE) : aRng3 r ρ L XE := q
instance s_rng3  : Stp (aRng3 r ρ L XE) (r ρ (threeQ fun a b e => intQ (fun i => intQ (fun j => intQ (fun k => ∃ n : Nat, RgC i j k n ∧ L (rngC i k n)) e) b) a) XE) := ⟨w_rng3⟩
theorem w_threeQ {P : D → D → D → Prop} {d1 d2 d3 : D} (q : P d1 d2 d3) : threeQ P [d1, d2, d3] := q
instance s_threeQ {P : D → D → D → Prop} {d1 d2 d3 : D} : Stp (threeQ P [d1, d2, d3]) (P d1 d2 d3) := ⟨w_threeQ⟩
theorem w_fltB {QE : D → Prop} {x : Bool} (q : QE (.bl x)) : fltQ QE (.fz (.bl x)) := ⟨rfl, q⟩
instance s_fltB {QE : D → Prop} {x : Bool} : Stp (fltQ QE (.fz (.bl x))) (QE (.bl x)) := ⟨w_fltB⟩
theorem m_opRO {f : D → D → (AV → Prop) → Prop} (q : a ρ (fun d => m ρ (fun e ρ1 => f d e (fun y => O y ρ1)) X) (fun x => X x ρ)) : mOpRO f a m ρ O X := q
instance sm_opRO {f : D → D → (AV → Prop) → Prop} : Stp (mOpRO f a m ρ O X) (a ρ (fun d => m ρ (fun e ρ1 => f d e (fun y => O y ρ1)) X) (fun x => X x ρ)) := ⟨m_opRO⟩
end
end SW
namespace SW
open PySem PySem.Spec PyProof.Rows L2
variable [QN]
def leD (d e : D) : Bool := PySem.W.dataLe false toPy d e
def leP {α : Type} (a b : α × D) : Bool := PySem.W.dataLe false (fun x : α × D => toPy x.2) a b
def alikeD (ds : List D) : Bool := ds.all fun d => ds.all fun e => PySem.W.alike (toPy d) (toPy e)
def tupNE : D → Bool
  | .tup (_ :: _) => true
  | _ => false
def noTup : D → Bool
  | .int _ => true
  | .bl _ => true
  | .str _ => true
  | .lst _ => true
  | _ => false
def sortableD (ds : List D) : Bool := ds.all tupNE || ds.all noTup
theorem alikeD_all {ds : List D} (h : alikeD ds = true) {α : Type} {l : List (α × D)} (hl : ∀ x ∈ l, x.2 ∈ ds) : PySem.W.AllAlike (l.map fun x => toPy x.2) := fun d hd e he => by
  obtain ⟨x, hx, rfl⟩ := List.mem_map.mp hd
  obtain ⟨y, hy, rfl⟩ := List.mem_map.mp he
  exact List.all_eq_true.mp (List.all_eq_true.mp h _ (hl x hx)) _ (hl y hy)
theorem sortable_all {ds : List D} (h : sortableD ds = true) {α : Type} {l : List (α × D)} (hl : ∀ x ∈ l, x.2 ∈ ds) : PySem.W.Sortable (l.map fun x => toPy x.2) := by
  rcases Bool.or_eq_true _ _ |>.mp h with h | h
  · refine .inl fun d hd => ?_
    obtain ⟨x, hx, rfl⟩ := List.mem_map.mp hd
    have := List.all_eq_true.mp h _ (hl x hx)
    unfold tupNE at this
    split at this
    · rename_i d r e
      rw [e]
      exact ⟨toPy d, toPys r, rfl⟩
    · cases this
  · refine .inr fun d hd => ?_
    obtain ⟨x, hx, rfl⟩ := List.mem_map.mp hd
    have := List.all_eq_true.mp h _ (hl x hx)
    unfold noTup at this
    split at this
    · rename_i e; rw [e]; exact ⟨(fun z => by cases z), (fun xs z => by cases z)⟩
    · rename_i e; rw [e]; exact ⟨(fun z => by cases z), (fun xs z => by cases z)⟩
    · rename_i e; rw [e]; exact ⟨(fun z => by cases z), (fun xs z => by cases z)⟩
    · rename_i e; rw [e]; exact ⟨(fun z => by cases z), (fun xs z => by cases z)⟩
    · cases this
theorem okDs_depth {n : Nat} : ∀ {ds : List D}, okDs n ds = true → ∀ d ∈ ds, (toPy d).depth ≤ n
  | d :: ds, h, e, he => by
    unfold okDs at h
    rw [Bool.and_eq_true] at h
    rcases List.mem_cons.mp he with rfl | he
    · exact (okD_lay n _ h.1).2
    · exact okDs_depth h.2 e he
theorem dps_each {X : Cx} {pins : List (Addr × Obj)} {σ : L2.St} {H : Hp} {s : Shared} (I : Inv X pins σ H s) : ∀ {xs : List V} {ds : List D} {us : List Value}, DpAll X.K H xs (toPys ds) → Vals xs us → PySem.W.EachIs (fun (v : Value) (b : V × D) => ∃ as, Reads s.heap v (toPy b.2) as) us (xs.zip ds)
  | [], [], _, _, .nil => .nil
  | [], d :: ds, _, h, _ => by cases h
  | x :: xs, [], _, h, _ => by cases h
  | x :: xs, d :: ds, _, .cons h t, .cons r q => .cons (Dp.reads I _ _ _ h r) (dps_each I t q)
theorem rel_each : ∀ {xs : List V} {ds : List D} {us : List Value}, xs.length = ds.length → Vals xs us → PySem.W.EachIs (fun (v : Value) (b : V × D) => RelV b.1 v) us (xs.zip ds)
  | [], [], _, _, .nil => .nil
  | [], d :: ds, _, h, _ => by cases h
  | x :: xs, [], _, h, _ => by cases h
  | x :: xs, d :: ds, _, h, .cons r q => .cons r (rel_each (Nat.succ.inj h) q)
theorem each_vals : ∀ {l : List (V × D)} {us : List Value}, PySem.W.EachIs (fun (v : Value) (b : V × D) => RelV b.1 v) us l → Vals (l.map (·.1)) us
  | _, _, .nil => .nil
  | _, _, .cons h t => .cons h (each_vals t)
def rSortA (K : PySem.W.Frag) : List V → Hp → VK → Prop := fun vs H Q => ∃ (a : Addr) (xs : List V) (ds : List D), vs = [V.ref a] ∧ SqL K H a xs ∧ DpAll K H xs (toPys ds) ∧ xs.length = ds.length ∧ okDs 8 ds = true ∧ alikeD ds = true ∧ sortableD ds = true ∧
  ∀ p, H p = none → Q (.ref p) (upd H p (.lst (((xs.zip ds).mergeSort leP).map (·.1))))
theorem cr_sortA {X : Cx} {K : PySem.W.Frag} (hK : X.K = K) (hu : X.A.units + 65 < cLine) : CallR X (.builtin "sorted") (rSortA K) := by
  subst hK
  intro pins s σ H vs us Q I r h
  obtain ⟨a, xs, ds, rfl, hs, hd, hl, ok, al, so, q⟩ := h
  rw [Vals.ref1 r]
  obtain ⟨its, rv, hL, hz⟩ := I.list hs
  have mem2 : ∀ x ∈ xs.zip ds, x.2 ∈ ds := fun x hx => (List.of_mem_zip hx).2
  have lz : (xs.zip ds).length = xs.length := by rw [List.length_zip, hl, Nat.min_self]
  refine PySem.W.sorted_data (enc := fun x : V × D => toPy x.2) (R := fun v b => RelV b.1 v) (bs := xs.zip ds) hL.isList (rel_each hl rv) (dps_each I hd rv) (alikeD_all al mem2) (sortable_all so mem2) (by rw [lz]; exact hz) (fun b hb => ?_) fun out lo eo => ?_
  · have := okDs_depth ok b.2 (mem2 b hb)
    omega
  · obtain ⟨ep, he'⟩ := PyProof.Rows.sortedAll_at s.heap its (List.toArray out)
    have ev := each_vals eo
    have hlen : (((xs.zip ds).mergeSort leP).map (·.1)).length ≤ sizeLine := by
      rw [List.length_map, List.length_mergeSort, lz]
      exact hz
    exact ⟨.ref _, upd H (s.heap.objs.size + 1) (.lst (((xs.zip ds).mergeSort leP).map (·.1))), I.laid (t' := s.toks) (fun _ _ => PyProof.Rows.sortedAll_old) (Nat.le_succ _) ⟨hlen, out, ep, ev, he'⟩, rfl, q _ (I.hok.fresh (Nat.le_succ _))⟩
theorem zip_snd {α : Type} : ∀ {xs : List α} {ds : List D}, xs.length = ds.length → (xs.zip ds).map (·.2) = ds
  | [], [], _ => rfl
  | [], d :: ds, h => by cases h
  | x :: xs, [], h => by cases h
  | x :: xs, d :: ds, h => by rw [List.zip_cons_cons, List.map_cons, zip_snd (Nat.succ.inj h)]
theorem sort_snd {xs : List V} {ds : List D} (h : xs.length = ds.length) : ((xs.zip ds).mergeSort leP).map (·.2) = ds.mergeSort leD := by
  rw [PySem.W.sort_maps (r := leP) (s := leD) (fun x : V × D => x.2) (fun a _ b _ => rfl), zip_snd h]
theorem rs_zip {K : PySem.W.Frag} {U : Hp} : ∀ {l : List (V × D)}, (∀ x ∈ l, R K U x.2 x.1) → Rs K U (l.map (·.2)) (l.map (·.1))
  | [], _ => rfl
  | x :: l, h => ⟨x.1, l.map (·.1), rfl, h x List.mem_cons_self, rs_zip fun y hy => h y (List.mem_cons_of_mem _ hy)⟩
theorem rs_mem {K : PySem.W.Frag} {U : Hp} : ∀ {ds : List D} {xs : List V}, Rs K U ds xs → ∀ x ∈ xs.zip ds, R K U x.2 x.1
  | [], _, h, x, hx => by rw [show _ = [] from h] at hx; cases hx
  | d :: ds, _, ⟨v, r, e, h1, h2⟩, x, hx => by
    subst e
    rcases List.mem_cons.mp hx with rfl | hx
    · exact h1
    · exact rs_mem h2 x hx
theorem rs_sort {K : PySem.W.Frag} {U : Hp} {ds : List D} {xs : List V} (h : Rs K U ds xs) : Rs K U (ds.mergeSort leD) (((xs.zip ds).mergeSort leP).map (·.1)) := by
  rw [← sort_snd h.len.symm]
  exact rs_zip fun x hx => rs_mem h x (List.mem_mergeSort.mp hx)
def oSortA : List D → (AV → Prop) → Prop := fun ds Q => oneQ (lstQ fun xs => okDs 8 xs = true ∧ alikeD xs = true ∧ sortableD xs = true ∧ Q (.ol (xs.mergeSort leD))) ds
theorem bu_sortA {K : PySem.W.Frag} : BuO K (rSortA K) oSortA := fun U H vs ds Q q s r z k => by
  obtain ⟨e, rfl, z⟩ := oneQ_of z
  obtain ⟨xs, rfl, h1, h2, h3, z⟩ := lstQ_of z
  obtain ⟨w, rfl, ce⟩ := paired1 r
  obtain ⟨a, ys, rfl, hs, hr⟩ := ce.lst s
  refine ⟨a, ys, xs, rfl, SqL.of hs, okDs_dp s 8 xs ys h1 hr, hr.len.symm, h1, h2, h3, fun p np => ?_⟩
  exact own_new s np (rs_sort hr) z k
theorem w_sortA {xs : List D} {O : AV → Prop} (h1 : okDs 8 xs = true) (h2 : alikeD xs = true) (h3 : sortableD xs = true) (q : O (.ol (xs.mergeSort leD))) : oSortA [.lst xs] O := ⟨h1, h2, h3, q⟩
end SW
namespace SW
open PySem PySem.Spec PyProof.Rows L2
variable [QN]
section
variable {X : Cx} {pins : List (Addr × Obj)} {σ : L2.St} {H : Hp} {s : Shared}
/-- tables grow, all else stands -/
structure Grown (H H' : Hp) : Prop where
  keep : ∀ b o, H b = some o → (∀ ps, o ≠ .tbl ps) → H' b = some o
  tab : ∀ P, LamX.TabS H P (QN.qn P) → LamX.TabS H' P (QN.qn P)
  dom : ∀ b, H b ≠ none → H' b ≠ none
theorem Grown.refl (H : Hp) : Grown H H := ⟨fun _ _ h _ => h, fun _ h => h, fun _ h => h⟩
end
def leK {α : Type} (a b : α × Str) : Bool := PySem.W.dataLe false (fun x : α × Str => PyData.str x.2) a b
end SW
namespace SWS
open PySem PySem.Spec PyProof.Rows L2
/-- every st-th item -/
def pickS {α : Type} (xs : List α) (lo hi : Option Int) (st : Int) : List α :=
  (List.range (Builtin.Slice.slicePlaces (Builtin.Slice.sliceAdjust lo hi st (xs.length : Nat)).1 (Builtin.Slice.sliceAdjust lo hi st (xs.length : Nat)).2 st)).filterMap fun k : Nat => xs[((Builtin.Slice.sliceAdjust lo hi st (xs.length : Nat)).1 + (k : Int) * st).toNat]?
end SWS
namespace SW
open PySem PySem.Spec PyProof.Rows L2 SWS
variable [QN]
section
variable {c : DC} {te : TE} {e : AE} {tl th : TO} {l h : AP}
def aSlT (st : Int) (a : AE) (lo hi : AP) : AE := fun ρ Q X => a ρ (tupQ fun ds => lo ρ (fun l => hi ρ (fun h => (pickS ds l h st).length ≤ 1000000 ∧ Q (.tup (pickS ds l h st))) X) X) X
def keyOf1 (C : Addr) (f : Str) : D → Option Str
  | .obj C' ns ds => if C' = C then (match lookD f ns ds with | some (.str k) => some k | _ => none) else none
  | _ => none
def keysOf (C : Addr) (f : Str) : List D → Option (List Str)
  | [] => some []
  | d :: ds => match keyOf1 C f d, keysOf C f ds with
    | some k, some ks => some (k :: ks)
    | _, _ => none
def sortK {α : Type} (ds : List α) (ks : List Str) : List α := ((ds.zip ks).mergeSort leK).map (·.1)
def aSortK (C : Addr) (f : Str) (a : AE) : AO := fun ρ Q X => a ρ (lstQ fun ds => someQ (fun ks => Q (.ol (sortK ds ks))) (keysOf C f ds)) X
theorem w_stT {ρ : Env} {Q : D → Prop} {X : Exn → Prop} {st : Int} (q : e ρ (tupQ fun ds => l ρ (fun lo => h ρ (fun hi => (pickS ds lo hi st).length ≤ 1000000 ∧ Q (.tup (pickS ds lo hi st))) X) X) X) : aSlT st e l h ρ Q X := q
instance s_stT {ρ : Env} {Q : D → Prop} {X : Exn → Prop} {st : Int} : Stp (aSlT st e l h ρ Q X) (e ρ (tupQ fun ds => l ρ (fun lo => h ρ (fun hi => (pickS ds lo hi st).length ≤ 1000000 ∧ Q (.tup (pickS ds lo hi st))) X) X) X) := ⟨w_stT⟩
theorem w_sortK {ρ : Env} {Q : AV → Prop} {X : Exn → Prop} {C : Addr} {f : Str} (q : e ρ (lstQ fun ds => someQ (fun ks => Q (.ol (sortK ds ks))) (keysOf C f ds)) X) : aSortK C f e ρ Q X := q
instance s_sortK {ρ : Env} {Q : AV → Prop} {X : Exn → Prop} {C : Addr} {f : Str} : Stp (aSortK C f e ρ Q X) (e ρ (lstQ fun ds => someQ (fun ks => Q (.ol (sortK ds ks))) (keysOf C f ds)) X) := ⟨w_sortK⟩
end
end SW
namespace SWS
open PySem PySem.Spec PyProof.Rows L2
end SWS
namespace SW
open PySem PySem.Spec PyProof.Rows L2 SWS
end SW
namespace SW
open PySem PySem.Spec PyProof.Rows L2 SWS
variable [QN]
structure CA where
  it : AL
  g : AG
  tt : AT
  vs : List Nat
def aWk (f : D → List D → (List D → Prop) → Prop) : List D → List D → (List D → Prop) → Prop
  | [], acc, K => K acc
  | d :: ds, acc, K => f d acc fun acc' => aWk f ds acc' K
def aCl (e : AE) : List CA → Env → (Exn → Prop) → List D → (List D → Prop) → Prop
  | [], ρ, X, acc, K => e ρ (fun d => acc.length < 1000000 ∧ K (acc ++ [d])) X
  | a :: r, ρ, X, acc, K => a.it ρ (fun ds => aWk (fun d acc K => a.g d (wipeA ρ a.vs) fun ρ2 => a.tt ρ2 (fun b => cond b (aCl e r ρ2 X acc K) (K acc)) X) ds acc K) X
def aLcN (cs : List CA) (e : AE) : AO := fun ρ Q X => aCl e cs ρ X [] fun acc => Q (.ol acc)
section
variable {c : DC} {U H U' H' : Hp} {σ : L2.St} {ρ : Env} {te : TE} {e : AE}
theorem w_lcN {O : AV → Prop} {X : Exn → Prop} {cs : List CA} (q : aCl e cs ρ X [] fun acc => O (.ol acc)) : aLcN cs e ρ O X := q
instance s_lcN {O : AV → Prop} {X : Exn → Prop} {cs : List CA} : Stp (aLcN cs e ρ O X) (aCl e cs ρ X [] fun acc => O (.ol acc)) := ⟨w_lcN⟩
end
end SW
namespace SW
open PySem PySem.Spec PyProof.Rows L2 SWS
variable [QN]
section
variable {c : DC} {U H U' H' : Hp} {σ : L2.St} {ρ : Env} {tr tk : TA} {r rk : AL}
def aCallN (n m : Nat) (A : AF) (arr : List KA) (r rk : AL) : AO := fun ρ Q X => r ρ (fun ds => rk ρ (fun es => ds.length = n ∧ es.length = m ∧ arr.all (kaOk m) = true ∧ A ((ds ++ arr.map (kaD es)).map .fz) Q X) X) X
def aCallN0 (n m : Nat) (A : AF) (arr : List KA) (r rk : AL) : AO := fun ρ Q X => r ρ (fun ds => rk ρ (fun es => ds.length = n ∧ es.length = m ∧ arr.all (kaOk m) = true ∧ A ((ds ++ arr.map (kaD es)).map .fz) Q fun _ => False) X) X
/-- the keywords left out: the defaults' values behind -/
def aCallD (A : AF) (dd : List D) (r : AL) : AO := fun ρ Q X => r ρ (fun ds => A ((ds ++ dd).map .fz) Q X) X
def aCallD0 (A : AF) (dd : List D) (r : AL) : AO := fun ρ Q X => r ρ (fun ds => A ((ds ++ dd).map .fz) Q fun _ => False) X
variable {O : AV → Prop} {XE : Exn → Prop} {A : AF} {n m : Nat} {arr : List KA} {dd : List D}
theorem w_callN0 (q : r ρ (fun ds => rk ρ (fun es => ds.length = n ∧ es.length = m ∧ arr.all (kaOk m) = true ∧ A ((ds ++ arr.map (kaD es)).map .fz) O fun _ => False) XE) XE) : aCallN0 n m A arr r rk ρ O XE := q
instance s_callN0  : Stp (aCallN0 n m A arr r rk ρ O XE) (r ρ (fun ds => rk ρ (fun es => ds.length = n ∧ es.length = m ∧ arr.all (kaOk m) = true ∧ A ((ds ++ arr.map (kaD es)).map .fz) O fun _ => False) XE) XE) := ⟨w_callN0⟩
theorem w_callN (q : r ρ (fun ds => rk ρ (fun es => ds.length = n ∧ es.length = m ∧ arr.all (kaOk m) = true ∧ A ((ds ++ arr.map (kaD es)).map .fz) O XE) XE) XE) : aCallN n m A arr r rk ρ O XE := q
instance s_callN  : Stp (aCallN n m A arr r rk ρ O XE) (r ρ (fun ds => rk ρ (fun es => ds.length = n ∧ es.length = m ∧ arr.all (kaOk m) = true ∧ A ((ds ++ arr.map (kaD es)).map .fz) O XE) XE) XE) := ⟨w_callN⟩
theorem w_callD0 (q : r ρ (fun ds => A ((ds ++ dd).map .fz) O fun _ => False) XE) : aCallD0 A dd r ρ O XE := q
instance s_callD0  : Stp (aCallD0 A dd r ρ O XE) (r ρ (fun ds => A ((ds ++ dd).map .fz) O fun _ => False) XE) := ⟨w_callD0⟩
theorem w_callD (q : r ρ (fun ds => A ((ds ++ dd).map .fz) O XE) XE) : aCallD A dd r ρ O XE := q
instance s_callD  : Stp (aCallD A dd r ρ O XE) (r ρ (fun ds => A ((ds ++ dd).map .fz) O XE) XE) := ⟨w_callD⟩
end
end SW
namespace SW
open PySem PySem.Spec PyProof.Rows L2 LamX
def qnc (s : Str) : QN := ⟨fun _ => s⟩
end SW
namespace SW
open PySem PySem.Spec PyProof.Rows L2 SWS
variable [QN]
inductive KB where
  | kw (i : Nat) | df (d : D) (v : V)
def kbD (es : List D) : KB → D
  | .kw i => es.getD i .non
  | .df d _ => d
def kbOk (m : Nat) : KB → Bool
  | .kw i => decide (i < m)
  | .df _ _ => true
section
variable {c : DC} {U H U' H' : Hp} {σ : L2.St} {ρ : Env} {tr tk : TA} {r rk : AL}
def aCallV (n m : Nat) (A : AF) (arr : List KB) (r rk : AL) : AO := fun ρ Q X => r ρ (fun ds => rk ρ (fun es => ds.length = n ∧ es.length = m ∧ arr.all (kbOk m) = true ∧ A ((ds ++ arr.map (kbD es)).map .fz) Q X) X) X
def aCallV0 (n m : Nat) (A : AF) (arr : List KB) (r rk : AL) : AO := fun ρ Q X => r ρ (fun ds => rk ρ (fun es => ds.length = n ∧ es.length = m ∧ arr.all (kbOk m) = true ∧ A ((ds ++ arr.map (kbD es)).map .fz) Q fun _ => False) X) X
variable {O : AV → Prop} {XE : Exn → Prop} {A : AF} {n m : Nat} {arr : List KB}
theorem w_callV0 (q : r ρ (fun ds => rk ρ (fun es => ds.length = n ∧ es.length = m ∧ arr.all (kbOk m) = true ∧ A ((ds ++ arr.map (kbD es)).map .fz) O fun _ => False) XE) XE) : aCallV0 n m A arr r rk ρ O XE := q
instance s_callV0  : Stp (aCallV0 n m A arr r rk ρ O XE) (r ρ (fun ds => rk ρ (fun es => ds.length = n ∧ es.length = m ∧ arr.all (kbOk m) = true ∧ A ((ds ++ arr.map (kbD es)).map .fz) O fun _ => False) XE) XE) := ⟨w_callV0⟩
theorem w_callV (q : r ρ (fun ds => rk ρ (fun es => ds.length = n ∧ es.length = m ∧ arr.all (kbOk m) = true ∧ A ((ds ++ arr.map (kbD es)).map .fz) O XE) XE) XE) : aCallV n m A arr r rk ρ O XE := q
instance s_callV  : Stp (aCallV n m A arr r rk ρ O XE) (r ρ (fun ds => rk ρ (fun es => ds.length = n ∧ es.length = m ∧ arr.all (kbOk m) = true ∧ A ((ds ++ arr.map (kbD es)).map .fz) O XE) XE) XE) := ⟨w_callV⟩
end
end SW
namespace SW
open PySem PySem.Spec PyProof.Rows L2 SWS
variable [QN]
abbrev Hnd := Value × Option Nat × (Addr → Value → Option Addr → TS)
structure AHnd where
  C : Addr
  i : Option Nat
  suite : Addr → Addr → Option Addr → AS
/-- the marked slots stand as they are, of the others nothing is known -/
def fillM : List Bool → List (Option AV) → Nat → Env
  | _, _, 0 => []
  | [], _, n + 1 => none :: fillM [] [] n
  | true :: ks, a :: as, n + 1 => a :: fillM ks as n
  | true :: ks, [], n + 1 => none :: fillM ks [] n
  | false :: ks, as, n + 1 => none :: fillM ks as n
def setE (i : Option Nat) (a : AV) (ρ : Env) : Env := match i with
  | none => ρ
  | some i => ρ.set i (some a)
def goneE (i : Option Nat) (ρ : Env) : Env := match i with
  | none => ρ
  | some i => ρ.set i none
def endsE (i : Option Nat) (N : AEnds) : AEnds := ⟨fun ρ => N.nx (goneE i ρ), N.rt, fun ρ => N.bk (goneE i ρ), fun ρ => N.ct (goneE i ρ), fun _ _ => False⟩
def handleA (K : PySem.W.Frag) (z : Bool) (N : AEnds) (x : Exn) (ρ : Env) : List AHnd → Prop
  | [] => if z = true then N.ex x ρ else False
  | h :: r => ∃ b, PySem.W.exmOne K (.ref x.C) (.ref h.C) = some b ∧ (b = true → ∀ a o, h.suite a x.C o (endsE h.i N) (setE h.i (.fz (.exn a x.C o x.ns x.ds)) ρ)) ∧ (b = false → handleA K z N x ρ r)
def allSome : List (Option AV) → Bool
  | [] => true
  | some _ :: r => allSome r
  | none :: _ => false
def flat1 : Option AV → Bool
  | none => true
  | some (.fz _) => true
  | some _ => false
/-- what is one's own is marked -/
def flatM : List Bool → Env → Bool
  | _, [] => true
  | [], a :: ρ => flat1 a && flatM [] ρ
  | true :: ks, _ :: ρ => flatM ks ρ
  | false :: ks, a :: ρ => flat1 a && flatM ks ρ
def aTry (K : PySem.W.Frag) (z : Bool) (mask : List Bool) (hs : List AHnd) (body : AS) : AS := fun N ρ => allSome (selM mask ρ) = true ∧ flatM mask ρ = true ∧
  body ⟨N.nx, N.rt, N.bk, N.ct, fun x ρ' => handleA K z N x (fillM mask (selM mask ρ') ρ.length) hs⟩ ρ
section
variable {K : PySem.W.Frag} {c : DC} {U H U1 H1 : Hp} {σ σ1 : L2.St} {ρ ρ1 : Env}
theorem DI.gone (h : DI c U H σ ρ) {i : Nat} (hi : noPar c i = true) : DI c U H (σ.set i none) (ρ.set i none) := by
  have hn := noPar_of hi
  refine ⟨h.gr, Paired.setAt (F := RepS c.K U H) (show RepS c.K U H none none from True.intro) i h.rep, (owns_set_sub ρ σ i none none rfl).nodup h.nd, fun p hp => h.out p ((owns_set_sub ρ σ i none none rfl).mem hp), par_set (sel_set _ _ _ _ hn) (sel_set _ _ _ _ hn) h.par, h.ko, fun k av w e1 e2 p hp => ?_, by rw [List.length_set]; exact h.on⟩
  by_cases z : i = k
  · subst z
    rw [List.getElem?_set] at e1
    simp at e1
  · rw [List.getElem?_set_ne z] at e1 e2
    exact h.ow k av w e1 e2 p hp
variable {mask : List Bool} {pk : List Nat} {pv : List V} {X : Exn → List (Option AV) → Prop} {E : L2.St → XK} {avs0 : List AV}
inductive HndsR (c : DC) : List Hnd → List AHnd → Prop
  | nil : HndsR c [] []
  | only {C : Addr} {ts : Addr → Value → Option Addr → TS} {su : Addr → Addr → Option Addr → AS} {l : List Hnd} {ls : List AHnd} (h : ∀ a D o, SimS c.no (ts a (.ref D) o) (su a D o)) (r : HndsR c l ls) : HndsR c ((.ref C, none, ts) :: l) (⟨C, none, su⟩ :: ls)
  | named {C : Addr} {i j : Nat} {ts : Addr → Value → Option Addr → TS} {su : Addr → Addr → Option Addr → AS} {l : List Hnd} {ls : List AHnd} (hi : noPar c i = true) (hj : j = i) (h : ∀ a D o, SimS c.no (ts a (.ref D) o) (su a D o)) (r : HndsR c l ls) : HndsR c ((.ref C, some j, ts) :: l) (⟨C, some i, su⟩ :: ls)
end
end SW
namespace SW
open PySem PySem.Spec PyProof.Rows L2 SWS
open PySem.W (AlikeAll iter_listW cmpIn_lt moved_old argBest_fold)
variable [QN]
def gDecMem {κ : Type} [DecidableEq κ] (y : κ) : (ks : List κ) → Decidable (y ∈ ks)
  | [] => Decidable.isFalse (by simp)
  | k :: ks => if h : y = k then Decidable.isTrue (h ▸ List.mem_cons_self) else match gDecMem y ks with
    | Decidable.isTrue t => Decidable.isTrue (List.mem_cons_of_mem _ t)
    | Decidable.isFalse t => Decidable.isFalse fun z => (List.mem_cons.mp z).elim h t
section
local instance gDec {κ : Type} [DecidableEq κ] (y : κ) (ks : List κ) : Decidable (y ∈ ks) := gDecMem y ks
def gval {κ : Type} [DecidableEq κ] : List κ → List D → κ → Option D
  | k :: ks, d :: ds, y => if k = y then some d else gval ks ds y
  | _, _, _ => none
/-- in its place, or at the end -/
def gputK {κ : Type} [DecidableEq κ] (ks : List κ) (y : κ) : List κ := if y ∈ ks then ks else ks ++ [y]
def gputD {κ : Type} [DecidableEq κ] : List κ → List D → κ → D → List D
  | k :: ks, d :: ds, y, e => if k = y then e :: ds else d :: gputD ks ds y e
  | _, _, _, e => [e]
end
instance gDecT (y : List Key) (ks : List (List Key)) : Decidable (y ∈ ks) := gDecMem y ks
def keyT : List D → Option (List Key)
  | [] => some []
  | d :: ds => match keyD d, keyT ds with
    | some k, some r => some (k :: r)
    | _, _ => none
def dTQ (Q : List (List Key) → List D → Prop) : D → Prop
  | .dT ks ds => Q ks ds
  | _ => False
section
variable {c : DC} {U H U' H' : Hp} {σ : L2.St} {ρ ρ' : Env} {ta tb : TE} {a b : AE} {tr : TA} {r : AL}
def aDInT (neg : Bool) (r : AL) (b : AE) : AE := fun ρ Q X => r ρ (fun ds => ds.length ≤ 1000000 ∧ someQ (fun k => b ρ (dTQ fun ks _ => Q (.bl (if neg then !decide (k ∈ ks) else decide (k ∈ ks)))) X) (keyT ds)) X
def aDGetT (b : AE) (r : AL) : AE := fun ρ Q X => b ρ (dTQ fun ks es => r ρ (fun ds => ds.length ≤ 1000000 ∧ someQ (fun k => someQ Q (gval ks es k)) (keyT ds)) X) X
/-- d.get((..), x) -/
def aDGet2T (b : AE) (r : AL) (e : AE) : AE := fun ρ Q X => b ρ (dTQ fun ks es => r ρ (fun ds => ds.length ≤ 1000000 ∧ someQ (fun k => e ρ (fun x => Q ((gval ks es k).getD x)) X) (keyT ds)) X) X
/-- a dict of one's own is written: plain keys, tuples as keys -/
def okS (ρ : Env) (i : Nat) (Q : List Key → List D → Prop) : Prop := match ρ[i]? with
  | some (some (.ok ks ds)) => Q ks ds
  | _ => False
def otS (ρ : Env) (i : Nat) (Q : List (List Key) → List D → Prop) : Prop := match ρ[i]? with
  | some (some (.ot ks ds)) => Q ks ds
  | _ => False
def aDPutS (i : Nat) (ky e : AE) : AS := fun N ρ => e ρ (fun d => okS ρ i fun ks ds => ky ρ (fun y => someQ (fun kk => ks.length < 1000000 ∧ ks.Nodup ∧ N.nx (ρ.set i (some (.ok (dputK ks kk) (dputD ks ds kk d))))) (keyD y)) (fun x => N.ex x ρ)) (fun x => N.ex x ρ)
def aDPutT (i : Nat) (r : AL) (e : AE) : AS := fun N ρ => e ρ (fun d => otS ρ i fun ks es => r ρ (fun ds => ds.length ≤ 1000000 ∧ someQ (fun k => ks.length < 1000000 ∧ ks.Nodup ∧ N.nx (ρ.set i (some (.ot (gputK ks k) (gputD ks es k d))))) (keyT ds)) (fun x => N.ex x ρ)) (fun x => N.ex x ρ)
def aDNewT : AO := fun _ Q _ => Q (.ot [] [])
/-- len(d) -/
def oLenT : List D → (D → Prop) → Prop := fun ds Q => oneQ (dTQ fun ks _ => Q (.int ks.length)) ds
def aCompT (g : AG) (rk : AL) (ev : AE) (ρ : Env) (X : Exn → Prop) : List D → List (List Key) → List D → (List (List Key) → List D → Prop) → Prop
  | [], ks, es, Q => Q ks es
  | d :: r, ks, es, Q => g d ρ (fun ρ2 => rk ρ2 (fun ds => ds.length ≤ 1000000 ∧ someQ (fun k => ev ρ2 (fun x => ks.length < 1000000 ∧ ks.Nodup ∧ aCompT g rk ev ρ X r (gputK ks k) (gputD ks es k x) Q) X) (keyT ds)) X)
def aDcT (it : AL) (g : AG) (rk : AL) (ev : AE) (vs : List Nat) : AO := fun ρ Q X => it ρ (fun ds => aCompT g rk ev (wipeA ρ vs) X ds [] [] (fun ks es => Q (.ot ks es))) X
end
section
variable {c : DC} {tr : TA} {r : AL}
def aMkA (C : Addr) (A : AFM) (r : AL) : AO := fun ρ Q X => r ρ (fun ds => mkQ C A Q X (ds.map .fz)) X
def aMkA0 (C : Addr) (A : AFM) (r : AL) : AO := fun ρ Q X => r ρ (fun ds => mkQ C A Q (fun _ => False) (ds.map .fz)) X
end
section
variable {ρ : Env} {nx : Env → Prop} {rt : AV → Env → Prop} {bk ct : Env → Prop} {ex : Exn → Env → Prop} {i : Nat} {a b e : AE} {r rk : AL} {Q : D → Prop} {O : AV → Prop} {XE : Exn → Prop} {ks : List (List Key)} {es : List D} {it : AL} {g : AG} {vs : List Nat} {C : Addr} {A : AFM}
theorem w_dInTF (q : r ρ (fun ds => ds.length ≤ 1000000 ∧ someQ (fun k => b ρ (dTQ fun ks _ => Q (.bl (decide (k ∈ ks)))) XE) (keyT ds)) XE) : aDInT false r b ρ Q XE := q
instance s_dInTF  : Stp (aDInT false r b ρ Q XE) (r ρ (fun ds => ds.length ≤ 1000000 ∧ someQ (fun k => b ρ (dTQ fun ks _ => Q (.bl (decide (k ∈ ks)))) XE) (keyT ds)) XE) := ⟨w_dInTF⟩
theorem w_dInTT (q : r ρ (fun ds => ds.length ≤ 1000000 ∧ someQ (fun k => b ρ (dTQ fun ks _ => Q (.bl (!decide (k ∈ ks)))) XE) (keyT ds)) XE) : aDInT true r b ρ Q XE := q
instance s_dInTT  : Stp (aDInT true r b ρ Q XE) (r ρ (fun ds => ds.length ≤ 1000000 ∧ someQ (fun k => b ρ (dTQ fun ks _ => Q (.bl (!decide (k ∈ ks)))) XE) (keyT ds)) XE) := ⟨w_dInTT⟩
theorem w_dGetT (q : b ρ (dTQ fun ks es => r ρ (fun ds => ds.length ≤ 1000000 ∧ someQ (fun k => someQ Q (gval ks es k)) (keyT ds)) XE) XE) : aDGetT b r ρ Q XE := q
instance s_dGetT  : Stp (aDGetT b r ρ Q XE) (b ρ (dTQ fun ks es => r ρ (fun ds => ds.length ≤ 1000000 ∧ someQ (fun k => someQ Q (gval ks es k)) (keyT ds)) XE) XE) := ⟨w_dGetT⟩
theorem w_dGet2T (q : b ρ (dTQ fun ks es => r ρ (fun ds => ds.length ≤ 1000000 ∧ someQ (fun k => e ρ (fun x => Q ((gval ks es k).getD x)) XE) (keyT ds)) XE) XE) : aDGet2T b r e ρ Q XE := q
instance s_dGet2T  : Stp (aDGet2T b r e ρ Q XE) (b ρ (dTQ fun ks es => r ρ (fun ds => ds.length ≤ 1000000 ∧ someQ (fun k => e ρ (fun x => Q ((gval ks es k).getD x)) XE) (keyT ds)) XE) XE) := ⟨w_dGet2T⟩
theorem w_dTQ {P : List (List Key) → List D → Prop} (q : P ks es) : dTQ P (.dT ks es) := q
instance s_dTQ {P : List (List Key) → List D → Prop} : Stp (dTQ P (.dT ks es)) (P ks es) := ⟨w_dTQ⟩
theorem w_dPutS (q : e ρ (fun d => okS ρ i fun ks ds => a ρ (fun y => someQ (fun kk => ks.length < 1000000 ∧ ks.Nodup ∧ nx (ρ.set i (some (.ok (dputK ks kk) (dputD ks ds kk d))))) (keyD y)) (fun x => ex x ρ)) (fun x => ex x ρ)) : aDPutS i a e ⟨nx, rt, bk, ct, ex⟩ ρ := q
instance s_dPutS  : Stp (aDPutS i a e ⟨nx, rt, bk, ct, ex⟩ ρ) (e ρ (fun d => okS ρ i fun ks ds => a ρ (fun y => someQ (fun kk => ks.length < 1000000 ∧ ks.Nodup ∧ nx (ρ.set i (some (.ok (dputK ks kk) (dputD ks ds kk d))))) (keyD y)) (fun x => ex x ρ)) (fun x => ex x ρ)) := ⟨w_dPutS⟩
theorem w_okS {P : List Key → List D → Prop} {ks : List Key} {ds : List D} (h : ρ[i]? = some (some (.ok ks ds))) (q : P ks ds) : okS ρ i P := by unfold okS; rw [h]; exact q
instance s_okS {P : List Key → List D → Prop} : St2 (β := List Key) (γ := List D) (okS ρ i P) (fun ks ds => ρ[i]? = some (some (.ok ks ds))) (fun ks ds => True) (fun ks ds => P ks ds) := ⟨fun _ _ h _ q => w_okS h q⟩
theorem w_dPutT (q : e ρ (fun d => otS ρ i fun ks es => r ρ (fun ds => ds.length ≤ 1000000 ∧ someQ (fun k => ks.length < 1000000 ∧ ks.Nodup ∧ nx (ρ.set i (some (.ot (gputK ks k) (gputD ks es k d))))) (keyT ds)) (fun x => ex x ρ)) (fun x => ex x ρ)) : aDPutT i r e ⟨nx, rt, bk, ct, ex⟩ ρ := q
instance s_dPutT  : Stp (aDPutT i r e ⟨nx, rt, bk, ct, ex⟩ ρ) (e ρ (fun d => otS ρ i fun ks es => r ρ (fun ds => ds.length ≤ 1000000 ∧ someQ (fun k => ks.length < 1000000 ∧ ks.Nodup ∧ nx (ρ.set i (some (.ot (gputK ks k) (gputD ks es k d))))) (keyT ds)) (fun x => ex x ρ)) (fun x => ex x ρ)) := ⟨w_dPutT⟩
theorem w_otS {P : List (List Key) → List D → Prop} (h : ρ[i]? = some (some (.ot ks es))) (q : P ks es) : otS ρ i P := by unfold otS; rw [h]; exact q
instance s_otS {P : List (List Key) → List D → Prop} : St2 (β := List (List Key)) (γ := List D) (otS ρ i P) (fun ks es => ρ[i]? = some (some (.ot ks es))) (fun ks es => True) (fun ks es => P ks es) := ⟨fun _ _ h _ q => w_otS h q⟩
theorem w_dNew (q : O (.ok [] [])) : aDNew ρ O XE := q
instance s_dNew  : Stp (aDNew ρ O XE) (O (.ok [] [])) := ⟨w_dNew⟩
theorem w_dNewT (q : O (.ot [] [])) : aDNewT ρ O XE := q
instance s_dNewT  : Stp (aDNewT ρ O XE) (O (.ot [] [])) := ⟨w_dNewT⟩
theorem w_lenTD (q : Q (.int ks.length)) : oLenT [.dT ks es] Q := q
instance s_lenTD  : Stp (oLenT [.dT ks es] Q) (Q (.int ks.length)) := ⟨w_lenTD⟩
theorem w_dcT (q : it ρ (fun ds => aCompT g rk e (wipeA ρ vs) XE ds [] [] (fun ks es => O (.ot ks es))) XE) : aDcT it g rk e vs ρ O XE := q
instance s_dcT  : Stp (aDcT it g rk e vs ρ O XE) (it ρ (fun ds => aCompT g rk e (wipeA ρ vs) XE ds [] [] (fun ks es => O (.ot ks es))) XE) := ⟨w_dcT⟩
theorem w_mkA0 (q : r ρ (fun ds => mkQ C A O (fun _ => False) (ds.map .fz)) XE) : aMkA0 C A r ρ O XE := q
instance s_mkA0  : Stp (aMkA0 C A r ρ O XE) (r ρ (fun ds => mkQ C A O (fun _ => False) (ds.map .fz)) XE) := ⟨w_mkA0⟩
theorem w_mkA (q : r ρ (fun ds => mkQ C A O XE (ds.map .fz)) XE) : aMkA C A r ρ O XE := q
instance s_mkA  : Stp (aMkA C A r ρ O XE) (r ρ (fun ds => mkQ C A O XE (ds.map .fz)) XE) := ⟨w_mkA⟩
theorem w_try {K : PySem.W.Frag} {z : Bool} {mask : List Bool} {hs : List AHnd} {body : AS} {N : AEnds} (h1 : allSome (selM mask ρ) = true) (h2 : flatM mask ρ = true) (q : body ⟨N.nx, N.rt, N.bk, N.ct, fun x ρ' => handleA K z N x (fillM mask (selM mask ρ') ρ.length) hs⟩ ρ) : aTry K z mask hs body N ρ := ⟨h1, h2, q⟩
end
end SW
namespace SW
open PySem PySem.Spec PyProof.Rows L2 SWS
variable [QN]
def aRaiseX1 (C : Addr) (f : Str) (r : AL) : AS := fun N ρ => r ρ (oneQ fun d => N.ex ⟨C, [f], [d]⟩ ρ) (fun x => N.ex x ρ)
def aRaiseX2 (C : Addr) (f g : Str) (r : AL) : AS := fun N ρ => r ρ (twoQ fun d e => N.ex ⟨C, [g, f], [e, d]⟩ ρ) (fun x => N.ex x ρ)
section
variable {ρ : Env} {N : AEnds} {C : Addr} {f g : Str} {r : AL}
theorem w_raiseX1 (q : r ρ (oneQ fun d => N.ex ⟨C, [f], [d]⟩ ρ) (fun x => N.ex x ρ)) : aRaiseX1 C f r N ρ := q
instance s_raiseX1  : Stp (aRaiseX1 C f r N ρ) (r ρ (oneQ fun d => N.ex ⟨C, [f], [d]⟩ ρ) (fun x => N.ex x ρ)) := ⟨w_raiseX1⟩
theorem w_raiseX2 (q : r ρ (twoQ fun d e => N.ex ⟨C, [g, f], [e, d]⟩ ρ) (fun x => N.ex x ρ)) : aRaiseX2 C f g r N ρ := q
instance s_raiseX2  : Stp (aRaiseX2 C f g r N ρ) (r ρ (twoQ fun d e => N.ex ⟨C, [g, f], [e, d]⟩ ρ) (fun x => N.ex x ρ)) := ⟨w_raiseX2⟩
end
section
variable {c : DC} {ρ : Env} {i : Nat}
def aClr (i : Nat) : AS := fun N ρ => olQ ρ i fun _ => N.nx (ρ.set i (some (.ol [])))
theorem w_clr {ds : List D} {nx bk ct : Env → Prop} {rt : AV → Env → Prop} {ex : Exn → Env → Prop} (h : ρ[i]? = some (some (.ol ds))) (q : nx (ρ.set i (some (.ol [])))) : aClr i ⟨nx, rt, bk, ct, ex⟩ ρ := by
  unfold aClr olQ
  rw [h]
  exact q
instance s_clr {nx bk ct : Env → Prop} {rt : AV → Env → Prop} {ex : Exn → Env → Prop} : St1 (β := List D) (aClr i ⟨nx, rt, bk, ct, ex⟩ ρ) (fun ds => ρ[i]? = some (some (.ol ds))) (fun ds => nx (ρ.set i (some (.ol [])))) := ⟨fun _ h q => w_clr h q⟩
end
section
variable {c : DC} {ρ : Env}
def aMe (C : Addr) (m : Str) (A : AF) (a : AE) (r : AA) : AO := fun ρ Q X => a ρ (objQ C m fun d => r ρ (fun as => callQ A ρ Q X (.val d :: as)) X) X
theorem sim_me {C : Addr} {m : Str} {A : AF} {ta : TE} {a : AE} {tr : TA} {r : AA} {E : L2.St → XK} (hE : ∀ σ, E σ = c.E σ) (ha : SimE c ta a) (hr : SimA c tr r) : SimO c (tMeS C m (spD c.K c.tb A) [] E ta tr) (aMe C m A a r) := fun U H σ ρ Q q I z k =>
  ha U H σ ρ _ _ I z fun U1 H1 d v g1 I1 r1 z1 => by
    obtain ⟨ns, ds, rfl, nm, z2⟩ := objQ_of z1
    obtain ⟨p, dx, xs, rfl, hp, hl, hrs⟩ := r1
    refine ⟨p, dx, _, rfl, I1.vh _ _ hp, lookup_none nm, hr U1 H1 σ ρ _ _ I1 z2 fun U2 H2 as vs g2 I2 r2 z3 => ?_⟩
    rw [List.append_nil]
    have r1' : R c.K U2 (.obj C ns ds) (.ref p) := R.mono g2.vv _ _ ⟨p, dx, xs, rfl, hp, hl, hrs⟩
    exact run_spD I2 (as := .val (.obj C ns ds) :: as) (vs := .ref p :: vs) (.cons r1' r2) z3 (fun U3 H3 av v g3 I3 r3 n3 z4 => k U3 H3 av v ((g1.trans g2).trans g3) I3 r3 (n3.back fun _ h => (g1.trans g2).fresh h) z4) (fun U3 H3 x cls o I3 xr z => by rw [hE]; exact I3.raise xr z)
theorem w_me {C : Addr} {m : Str} {A : AF} {a : AE} {r : AA} {O : AV → Prop} {X : Exn → Prop} (q : a ρ (objQ C m fun d => r ρ (fun as => callQ A ρ O X (.val d :: as)) X) X) : aMe C m A a r ρ O X := q
end
end SW
namespace SW
open PySem PySem.Spec PyProof.Rows L2 SWS
variable [QN]
def b2n (b : Bool) : Int := if b = true then 1 else 0
def numD : D → Option Int
  | .int i => some i
  | .bl b => some (b2n b)
  | _ => none
end SW
namespace SW
open PySem PySem.Spec PyProof.Rows L2 SWS
variable [QN]
theorem putF_old {f : Str} {v : V} : ∀ {ns : List Str} {ws : List V} {j k : Nat}, fldIx f ns j = some k → ns.length = ws.length → putF f v (ns.zip ws) = ns.zip (ws.set (k - j) v)
  | [], ws, j, k, h, _ => by cases h
  | n :: ns, [], j, k, _, l => by cases l
  | n :: ns, w :: ws, j, k, h, l => by
    unfold fldIx at h
    by_cases hn : n = f
    · rw [if_pos hn] at h
      cases h
      rw [Nat.sub_self]
      show (if n = f then (n, v) :: ns.zip ws else _) = _
      rw [if_pos hn]
      rfl
    · rw [if_neg hn] at h
      have i1 := (fldIx_look (ws := ws) (v := v) h (Nat.succ.inj l)).1
      rw [show k - j = (k - (j + 1)) + 1 by omega]
      show (if n = f then (n, v) :: ns.zip ws else (n, w) :: putF f v (ns.zip ws)) = _
      rw [if_neg hn, putF_old h (Nat.succ.inj l)]
      rfl
theorem ownAs_re : ∀ {as : List AV} {ws : List V} {n : Nat} {a a' : AV} {x x' : V}, as[n]? = some a → ws[n]? = some x → ∃ l r, ownAs as ws = l ++ (own a x ++ r) ∧ ownAs (as.set n a') (ws.set n x') = l ++ (own a' x' ++ r)
  | [], _, n, a, a', x, x', e, _ => by simp at e
  | _ :: _, [], n, a, a', x, x', _, e => by simp at e
  | b :: as, y :: ws, 0, a, a', x, x', e, f => by
    cases e
    cases f
    exact ⟨[], ownAs as ws, rfl, rfl⟩
  | b :: as, y :: ws, n + 1, a, a', x, x', e, f => by
    obtain ⟨l, r, h1, h2⟩ := ownAs_re (as := as) (ws := ws) (n := n) (a' := a') (x' := x') e f
    refine ⟨own b y ++ l, r, ?_, ?_⟩
    · show own b y ++ ownAs as ws = _
      rw [h1, List.append_assoc]
    · show own b y ++ ownAs (as.set n a') (ws.set n x') = _
      rw [h2, List.append_assoc]
theorem repAs_re {K : PySem.W.Frag} {U H : Hp} : ∀ {as : List AV} {ws : List V} {n : Nat} {a' : AV} {x' : V}, RepAs K U H as ws → RepA K U H a' x' → RepAs K U H (as.set n a') (ws.set n x')
  | [], _, n, a', x', h, _ => by
    rw [show _ = [] from h]
    exact rfl
  | b :: as, _, 0, a', x', ⟨v, r, e, h1, h2⟩, k => by
    subst e
    exact ⟨x', r, rfl, k, h2⟩
  | b :: as, _, n + 1, a', x', ⟨v, r, e, h1, h2⟩, k => by
    subst e
    exact ⟨v, r.set n x', rfl, h1, repAs_re h2 k⟩
section
variable {K : PySem.W.Frag} {U H : Hp}
theorem nx_of {p : Addr} {o : HO} (h : H p = some o) (n : ∀ fs, o ≠ .xd fs) : ∀ fs, H p ≠ some (.xd fs) := fun fs z => by
  rw [h] at z
  exact n fs (Option.some.inj z)
mutual
theorem own_nx : ∀ (av : AV) (v : V), RepA K U H av v → ∀ p ∈ own av v, ∀ fs, H p ≠ some (.xd fs)
  | .fz _, v, _, p, hp => by cases hp
  | .ol _, _, ⟨q, xs, e, h, _⟩, p, hp => by
    subst e
    rw [List.mem_singleton.mp hp]
    exact nx_of h fun _ z => nomatch z
  | .ok _ _, _, ⟨q, xs, e, h, _⟩, p, hp => by
    subst e
    rw [List.mem_singleton.mp hp]
    exact nx_of h fun _ z => nomatch z
  | .ot _ _, _, ⟨q, xs, e, h, _⟩, p, hp => by
    subst e
    rw [List.mem_singleton.mp hp]
    exact nx_of h fun _ z => nomatch z
  | .dr, _, ⟨q, e, h⟩, p, hp => by
    subst e
    rw [List.mem_singleton.mp hp]
    obtain ⟨l, ns, i, b, e, h1, _⟩ := h.ex
    exact nx_of h1 fun _ z => nomatch z
  | .on ws as, _, ⟨q, e, h, k⟩, p, hp => by
    subst e
    rcases List.mem_cons.mp hp with z | z
    · rw [z]
      exact nx_of h fun _ z => nomatch z
    · exact ownAs_nx as ws k p z
  | .ob _ _ _ ws as, _, ⟨q, e, h, _, k⟩, p, hp => by
    subst e
    rcases List.mem_cons.mp hp with z | z
    · rw [z]
      exact nx_of h fun _ z => nomatch z
    · exact ownAs_nx as ws k p z
  | .ut ws as, _, ⟨q, e, h, k⟩, p, hp => by
    subst e
    exact ownAs_nx as ws k p hp
  | .un, v, _, p, hp => by cases hp
theorem ownAs_nx : ∀ (as : List AV) (vs : List V), RepAs K U H as vs → ∀ p ∈ ownAs as vs, ∀ fs, H p ≠ some (.xd fs)
  | [], vs, _, p, hp => by cases vs <;> cases hp
  | a :: as, _, ⟨v, r, e, h1, h2⟩, p, hp => by
    subst e
    rcases List.mem_append.mp hp with z | z
    · exact own_nx a v h1 p z
    · exact ownAs_nx as r h2 p z
end
theorem owns_nx : ∀ {ρ : Env} {σ : L2.St}, Paired (RepS K U H) ρ σ → ∀ p ∈ owns ρ σ, ∀ fs, H p ≠ some (.xd fs)
  | _, _, .nil, p, hp => by cases hp
  | _, _, .cons (a := a) (b := b) h t, p, hp => by
    rcases List.mem_append.mp hp with hp | hp
    · cases a with
      | none => cases hp
      | some av =>
        cases b with
        | none => cases hp
        | some v => exact own_nx av v h p hp
    · exact owns_nx t p hp
end
section
variable {c : DC} {U H U' H' : Hp} {σ : L2.St} {ρ ρ' : Env}
def aFldRe (i : Nat) (C : Addr) (f : Str) (e : AO) : AS := fun N ρ => e ρ (fun av => obfQ ρ i C f fun dx ns ws as n _ => ns.length < 1000 ∧ ∀ v : V, N.nx (ρ.set i (some (.ob C dx ns (ws.set n v) (as.set n av))))) (fun x => N.ex x ρ)
theorem sim_fldRe {i : Nat} {C : Addr} {f : Str} {te : TE} {e : AO} (hc : Cls c.K C) (hn : NoAttr c.K C f) (he : SimO c te e) : SimS c (sFld c.K (tVar i) te f) (aFldRe i C f e) := fun U H σ ρ N n hx I z P => by
  unfold aFldRe at z
  rw [hx] at z
  refine he U H σ ρ _ _ I z fun U1 H1 av v g1 I1 r1 n1 z1 => ?_
  obtain ⟨dx, ns, ws, as, m, av0, e1, e2, e3, nl, z2⟩ := obfQ_of z1
  obtain ⟨v0, f1, ⟨p, rfl, f3, f4, f5⟩, f6⟩ := rep_at I1.rep i _ e1
  have lm : m < as.length := (List.getElem?_eq_some_iff.mp e3).1
  have lw : m < ws.length := by rw [← f5.len]; exact lm
  obtain ⟨l, r, q1, q2⟩ := ownAs_re (a' := av) (x' := v) e3 (List.getElem?_eq_getElem lw)
  have nd := own_nd I1.nd e1 f1
  obtain ⟨np, nd2⟩ := List.nodup_cons.mp (show (p :: ownAs as ws).Nodup from nd)
  have hu : ∀ q ∈ p :: ownAs as ws, U1 q = none := fun q hq => (I1.out q (f6 q hq)).1
  have d1 : ∀ q ∈ own av v, q ∉ owns ρ σ := fun q hq zz => I.ex q zz (n1.out q hq).2
  have pa : p ∉ own av v := fun zz => d1 p zz (f6 p List.mem_cons_self)
  have sub : ∀ q, q ∈ l ++ r → q ∈ ownAs as ws := fun q hq => by
    rw [q1]
    rcases List.mem_append.mp hq with hq | hq
    · exact List.mem_append_left _ hq
    · exact List.mem_append_right _ (List.mem_append_right _ hq)
  have ej : (ρ.set i (some (.ob C dx ns (ws.set m v) (as.set m av))))[i]? = some (some (.ob C dx ns (ws.set m v) (as.set m av))) := List.getElem?_set_self (List.getElem?_eq_some_iff.mp e1).1
  have ok1 : ownK ρ σ i = p :: ownAs as ws := by unfold ownK; rw [e1, f1]; rfl
  have ok2 : ownK (ρ.set i (some (.ob C dx ns (ws.set m v) (as.set m av)))) σ i = p :: (l ++ (own av v ++ r)) := by
    unfold ownK
    rw [ej, f1, ← q2]
    rfl
  have g : Gr [p] U1 H1 U1 (upd H1 p (.ins C dx (putF f v (ns.zip ws)))) := (Gr.refl I1.vh).mut (hu p List.mem_cons_self) (.inl (List.mem_singleton.mpr rfl)) (I1.pl p (f6 p List.mem_cons_self))
  refine ⟨.ref p, f1, p, C, dx, _, rfl, f3, hc, hn, by rw [List.length_zip, ← f4, Nat.min_self]; exact nl, P.nx U1 _ σ _ g1.vv (I1.multiG (M := [p]) (fun k => k == i) g (List.length_set ..) (fun k hk => ?_) (fun k hk => ?_) (fun q hq => ⟨i, by simp, by rw [ok1, List.mem_singleton.mp hq]; exact List.mem_cons_self⟩) (fun k q hk hq => ?_) (fun k l q hkl h1 h2 => ?_)) (z2 v)⟩
  · rw [List.getElem?_set_ne fun z => by rw [z] at hk; simp at hk]
  · have : k = i := by simpa using hk
    subst this
    refine ⟨_, _, .ref p, e1, ej, f1, rfl, ⟨p, rfl, ?_, by rw [List.length_set]; exact f4, repAs_re (RepAs.keep (Same.refl U1) as ws (fun q hq => ⟨upd_ne (fun z => np (z ▸ hq)), hu q (List.mem_cons_of_mem _ hq)⟩) f5) (RepA.keep (Same.refl U1) av v (fun q hq => ⟨upd_ne (fun z => pa (z ▸ hq)), (n1.out q hq).1⟩) r1)⟩, ?_⟩
    · rw [upd_same, putF_old e2 f4, Nat.sub_zero]
    · show (p :: ownAs (as.set m av) (ws.set m v)).Nodup
      rw [q2]
      rw [q1] at nd2
      obtain ⟨n2, n3, n4⟩ := List.nodup_append.mp nd2
      obtain ⟨n5, n6, n7⟩ := List.nodup_append.mp n3
      refine List.nodup_cons.mpr ⟨fun z => ?_, List.nodup_append.mpr ⟨n2, List.nodup_append.mpr ⟨n1.nd, n6, fun x hx' y hy e => d1 x hx' (f6 x (List.mem_cons_of_mem _ (sub x (List.mem_append_right _ (e ▸ hy)))))⟩, fun x hx' y hy e => ?_⟩⟩
      · rcases List.mem_append.mp z with z | z
        · exact np (sub p (List.mem_append_left _ z))
        · rcases List.mem_append.mp z with z | z
          · exact pa z
          · exact np (sub p (List.mem_append_right _ z))
      · rcases List.mem_append.mp hy with hy | hy
        · exact d1 y hy (f6 y (List.mem_cons_of_mem _ (sub y (List.mem_append_left _ (e ▸ hx')))))
        · exact n4 x hx' y (List.mem_append_right _ hy) e
  · have : k = i := by simpa using hk
    subst this
    rw [ok2] at hq
    rw [ok1]
    rcases List.mem_cons.mp hq with rfl | hq
    · exact ⟨hu q List.mem_cons_self, .inl List.mem_cons_self⟩
    · rcases List.mem_append.mp hq with hq | hq
      · exact ⟨hu q (List.mem_cons_of_mem _ (sub q (List.mem_append_left _ hq))), .inl (List.mem_cons_of_mem _ (sub q (List.mem_append_left _ hq)))⟩
      · rcases List.mem_append.mp hq with hq | hq
        · exact ⟨(n1.out q hq).1, .inr ⟨d1 q hq, I.gr.fresh (n1.out q hq).2⟩⟩
        · exact ⟨hu q (List.mem_cons_of_mem _ (sub q (List.mem_append_right _ hq))), .inl (List.mem_cons_of_mem _ (sub q (List.mem_append_right _ hq)))⟩
  · have a1 : k = i := by simpa using h1
    have a2 : l = i := by simpa using h2
    exact absurd (a1.trans a2.symm) hkl
def olA (Q : List D → Prop) : AV → Prop
  | .ol ds => Q ds
  | _ => False
theorem olA_of {Q : List D → Prop} {av : AV} (h : olA Q av) : ∃ ds, av = .ol ds ∧ Q ds := by
  cases av <;> first | exact ⟨_, rfl, h⟩ | exact h.elim
def aPutLF (i : Nat) (C : Addr) (f : Str) (ai e : AE) : AS := fun N ρ => e ρ (fun d => obfQ ρ i C f fun _ _ _ _ _ _ => ai ρ (fun k => obfQ ρ i C f fun dx ns ws as n av => olA (fun ds => ixQ ds.length (fun j => N.nx (ρ.set i (some (.ob C dx ns ws (as.set n (.ol (ds.set j d))))))) k) av) (fun x => N.ex x ρ)) (fun x => N.ex x ρ)
theorem sim_putLF {i : Nat} {C : Addr} {f : Str} {ti te : TE} {ai e : AE} (hc : Cls c.K C) (hn : NoAttr c.K C f) (hi : SimW c ti ai) (he : SimE c te e) : SimS c (tAsg te (gSub (tFld c.K (tVar i) f) ti rSetL)) (aPutLF i C f ai e) := fun U H σ ρ N n hx I z P => by
  unfold aPutLF at z
  rw [hx] at z
  refine he U H σ ρ _ _ I z fun U1 H1 d v g1 I1 r1 z1 => ?_
  obtain ⟨dx0, ns0, ws0, as0, m0, av0, a1, a2, a3, z1⟩ := obfQ_of z1
  obtain ⟨v0, f1, ⟨p0, rfl, q1, q2, q3⟩, f6⟩ := rep_at I1.rep i _ a1
  obtain ⟨w, w1, w2⟩ := Paired.at' q3.paired m0 _ a3
  have hl := (fldIx_look (v := w) a2 q2).2 (by rw [Nat.sub_zero]; exact w1)
  refine ⟨.ref p0, f1, p0, C, dx0, _, w, rfl, q1, hc, hn, hl, hi U1 H1 σ ρ _ _ I1 z1 fun U2 H2 k y g2 I2 r2 z2 => ?_⟩
  obtain ⟨dx, ns, ws, as, m, av, e1, e2, e3, z3⟩ := obfQ_of z2
  rw [a1] at e1
  cases e1
  rw [a2] at e2
  cases e2
  rw [a3] at e3
  cases e3
  obtain ⟨ds, rfl, z4⟩ := olA_of z3
  obtain ⟨k', j, rfl, ek, z5⟩ := ixQ_of z4
  obtain ⟨v1, f1', ⟨p0', k0, q1', q2', q3'⟩, f6'⟩ := rep_at I2.rep i _ a1
  rw [f1] at f1'
  cases f1'
  cases k0
  obtain ⟨p', xs', k1, h1', h2'⟩ := RepAs.at q3' _ _ _ a3 w1
  subst k1
  have nd := own_nd I2.nd a1 f1
  obtain ⟨np0, nd2⟩ := List.nodup_cons.mp (show (p0 :: ownAs as0 ws0).Nodup from nd)
  have pin : p' ∈ ownAs as0 ws0 := ownAs_at a3 w1 p' (List.mem_singleton.mpr rfl)
  have p0p : p0 ≠ p' := fun z => np0 (z ▸ pin)
  have eo : ownAs (as0.set m0 (.ol (ds.set j d))) ws0 = ownAs as0 ws0 := ownAs_set a3 w1 rfl
  have hu : ∀ q ∈ ownAs as0 ws0, U2 q = none := fun q hq => (I2.out q (f6' q (List.mem_cons_of_mem _ hq))).1
  refine ⟨p', xs', k', j, rfl, (r2.cr I2).int, h1', by rw [← h2'.len]; exact ek, P.nx U2 _ σ _ (g1.vv.trans g2.vv) (I2.swap (b := .ob C dx0 ns0 ws0 as0) (b' := .ob C dx0 ns0 ws0 (as0.set m0 (.ol (ds.set j d)))) a1 f1 .here ⟨p0, rfl, (upd_ne p0p).trans q1', q2', repAs_set q3' a3 w1 ⟨p', xs'.set j v, rfl, upd_same, h2'.set j (R.mono g2.vv d v r1)⟩ nd2 (fun q hq => upd_ne fun z => hq (by rw [z]; exact List.mem_singleton.mpr rfl)) hu⟩ (by show p0 :: ownAs _ _ = p0 :: ownAs _ _; rw [eo]) rfl (fun x hx' => upd_ne fun z => hx' (by rw [z]; exact List.mem_cons_of_mem _ pin)) (fun x hx' => ?_)) z5⟩
  by_cases z : x = p'
  · rw [z, upd_same]; intro z; cases z
  · rw [upd_ne z]
    exact I2.ex x (f6' x hx')
def fltO (Q : AV → Prop) : AV → Prop
  | .fz d => fltD d = true ∧ Q (.fz d)
  | .ol ds => ds.all fltD = true ∧ Q (.ol ds)
  | _ => False
theorem flts_r {K : PySem.W.Frag} {U U' : Hp} : ∀ {ds : List D} {vs : List V}, ds.all fltD = true → Rs K U ds vs → Rs K U' ds vs
  | [], _, _, h => h
  | d :: ds, _, f, ⟨v, r, e, h1, h2⟩ => by
    rw [List.all_cons, Bool.and_eq_true] at f
    exact ⟨v, r, e, flt_r f.1 h1, flts_r f.2 h2⟩
def fltX (X : Exn → Prop) (x : Exn) : Prop := x.ns = [] ∧ x.ds = [] ∧ X x
def callFO (A : AF) (ρ : Env) (Q : AV → Prop) (X : Exn → Prop) (as : List Arg) : Prop := match argsF ρ as with
  | some avs => A avs (fltO Q) (fltX X)
  | none => False
def aMeF (C : Addr) (m : Str) (A : AF) (i : Nat) (r : AA) : AO := fun ρ Q X => obQ ρ i C fun _ ns _ _ => ns.contains m = false ∧ r ρ (fun as => callFO A ρ Q X (.slot i :: as)) X
def aMeF0 (C : Addr) (m : Str) (A : AF) (i : Nat) (r : AA) : AO := fun ρ Q X => obQ ρ i C fun _ ns _ _ => ns.contains m = false ∧ r ρ (fun as => callFO A ρ Q (fun _ => False) (.slot i :: as)) X
theorem run_spF {A : AF} {as : List Arg} {vs : List V} {Q : AV → Prop} {q : VK} {E : XK} {X : Exn → Prop} (I : DI c U H σ ρ) (r : Paired (ArgR c.K U σ) as vs) (h : callFO A ρ Q X as)
    (k : ∀ U' H' av v, Gr (drs ρ σ) U H U' H' → DI c U' H' σ ρ → RepA c.K U' H' av v → Fresh U' H av v → Q av → q v H')
    (kx : ∀ U' H' x cls o, DI c U' H' σ ρ → XRep c.K U' H' x cls o → X x → E cls o H') : spD c.K c.tb A vs H q E := by
  unfold callFO at h
  split at h
  · rename_i avs ea
    obtain ⟨k1, k2⟩ := argsF_rep I r ea
    have e0 : ownAs avs vs = [] := ownAs_fz k2
    have gr : ∀ {U2 H2 : Hp}, Gr [] (sealU U H (owns ρ σ)) H U2 H2 → Gr [] U H U H2 := fun g2 => ⟨Same.refl U, fun x o e => g2.hh x o (by simp) (fun ps z => I.tbs.2 x ps (by rw [e, z])) (I.vh x o e), g2.hh, g2.dom, fun _ e _ => e, g2.tb, id⟩
    refine ⟨sealU U H (owns ρ σ), avs, _, _, seal_vh I.vh, ⟨I.tbs.1, seal_nt I.tbs.2 I.pl⟩, k1, fun a ha => .inr (k2 a ha), by rw [e0]; exact Nat.zero_le _, h, fun U2 H2 av v g2 r2 n2 _ z2 => ?_, fun U2 H2 ex cls o g2 xr _ z2 => ?_⟩
    · rw [e0] at g2
      have g3 := gr g2
      cases av with
      | fz d =>
        obtain ⟨fd, z3⟩ := z2
        exact k U H2 (.fz d) v g3.any (I.grow g3) (flt_r fd r2) Fresh.fz z3
      | ol ds =>
        obtain ⟨fd, z3⟩ := z2
        obtain ⟨p, xs, rfl, hp, hr⟩ := r2
        have np := n2.out p (List.mem_singleton.mpr rfl)
        exact k U H2 (.ol ds) (.ref p) g3.any (I.grow g3) ⟨p, xs, rfl, hp, flts_r fd hr⟩ (.one rfl (I.vh.free np.2) np.2) z3
      | _ => exact (show False from z2).elim
    · rw [e0] at g2
      have g3 := gr g2
      obtain ⟨e1, e2, z3⟩ := z2
      obtain ⟨rfl, h2⟩ := xr
      rcases h2 with h2 | ⟨dd, xs, rfl, hd, hl, _⟩
      · exact kx U H2 ex _ o (I.grow g3) ⟨rfl, .inl h2⟩ z3
      · rw [e1] at hl hd
        obtain rfl : xs = [] := List.length_eq_zero_iff.mp hl.symm
        have hd' : U2 dd = some (.xd []) := hd
        have fin : ∀ U4, Gr [] U H U4 H2 → U4 dd = some (.xd []) → E (.ref ex.C) (some dd) H2 := fun U4 g4 hu => kx U4 H2 ex _ _ (I.grow g4) ⟨rfl, .inr ⟨dd, [], rfl, by rw [e1]; exact hu, by rw [e1]; rfl, by rw [e2]; rfl⟩⟩ z3
        have hs : ∀ p ∈ owns ρ σ, U p = none := fun p hp => (I.out p hp).1
        cases eU : U dd with
        | some o' =>
          have : U2 dd = some o' := g2.vv _ _ (seal_same hs _ _ eU)
          rw [hd'] at this
          exact fin U g3 (by rw [eU, ← this])
        | none =>
          cases eH : H dd with
          | none => exact fin _ ⟨same_new eU, fun a y e => by
              by_cases z : a = dd
              · subst z
                rw [upd_same] at e
                rw [← e]
                exact g2.vh _ _ hd'
              · rw [upd_ne z] at e
                exact g3.vh _ _ e, g3.hh, g3.dom, fun a e n => by
              by_cases z : a = dd
              · subst z
                exact absurd eH n
              · rw [upd_ne z]
                exact e, g3.tb, fun h => nt_upd (g3.nt h) fun _ z => (by cases z)⟩ upd_same
          | some y =>
            exfalso
            by_cases ho : dd ∈ owns ρ σ
            · have : U2 dd = some y := g2.vv _ _ (by rw [seal_in ho]; exact eH)
              rw [hd'] at this
              exact owns_nx I.rep dd ho [] (by rw [eH, ← this])
            · have := g2.fr dd (by rw [seal_out ho]; exact eU) (by rw [eH]; intro z; cases z)
              rw [hd'] at this
              cases this
  · exact h.elim
theorem sim_meF0 {C : Addr} {m : Str} {A : AF} {i : Nat} {tr : TA} {r : AA} {E : XK} (hr : SimA c tr r) : SimO c (tMeth C m (spD c.K c.tb A) [] E (tVar i) tr) (aMeF0 C m A i r) := fun U H σ ρ Q q I z k => by
  obtain ⟨dx, ns, ws, as, e1, nm, z1⟩ := obQ_of z
  obtain ⟨v0, f1, ⟨p0, rfl, q1, q2, q3⟩, _⟩ := rep_at I.rep i _ e1
  refine ⟨.ref p0, f1, p0, dx, _, rfl, q1, lookup_none nm, hr U H σ ρ _ _ I z1 fun U1 H1 bs vs g1 I1 r1 z2 => ?_⟩
  rw [List.append_nil]
  exact run_spF (X := fun _ => False) I1 (as := .slot i :: bs) (vs := .ref p0 :: vs) (.cons f1 r1) z2 (fun U3 H3 av v g3 I3 r3 n3 z4 => k U3 H3 av v (g1.trans g3) I3 r3 (n3.back fun _ h => g1.fresh h) z4) (fun _ _ _ _ _ _ _ z => z.elim)
theorem sim_meF {C : Addr} {m : Str} {A : AF} {i : Nat} {tr : TA} {r : AA} {E : L2.St → XK} (hE : ∀ σ, E σ = c.E σ) (hr : SimA c tr r) : SimO c (tMeS C m (spD c.K c.tb A) [] E (tVar i) tr) (aMeF C m A i r) := fun U H σ ρ Q q I z k => by
  obtain ⟨dx, ns, ws, as, e1, nm, z1⟩ := obQ_of z
  obtain ⟨v0, f1, ⟨p0, rfl, q1, q2, q3⟩, _⟩ := rep_at I.rep i _ e1
  refine ⟨.ref p0, f1, p0, dx, _, rfl, q1, lookup_none nm, hr U H σ ρ _ _ I z1 fun U1 H1 bs vs g1 I1 r1 z2 => ?_⟩
  rw [List.append_nil]
  exact run_spF I1 (as := .slot i :: bs) (vs := .ref p0 :: vs) (.cons f1 r1) z2 (fun U3 H3 av v g3 I3 r3 n3 z4 => k U3 H3 av v (g1.trans g3) I3 r3 (n3.back fun _ h => g1.fresh h) z4) (fun U3 H3 x cls o I3 xr z => by rw [hE]; exact I3.raise xr z)
end
section
variable {ρ : Env} {nx : Env → Prop} {rt : AV → Env → Prop} {bk ct : Env → Prop} {ex : Exn → Env → Prop} {i m : Nat} {C dx : Addr} {f : Str} {ns : List Str} {ws : List V} {as : List AV} {av : AV}
theorem w_callFO {A : AF} {as : List Arg} {avs : List AV} {Q : AV → Prop} {X : Exn → Prop} (h : argsF ρ as = some avs) (q : A avs (fltO Q) (fltX X)) : callFO A ρ Q X as := by
  unfold callFO
  rw [h]
  exact q
end
end SW
namespace SW
open PySem PySem.Spec PyProof.Rows L2 SWS
end SW
namespace SW
open PySem PySem.Spec PyProof.Rows L2 SWS
end SW
namespace SW
open PySem PySem.Spec PyProof.Rows L2 SWS
end SW
namespace SW
open PySem PySem.Spec PyProof.Rows L2 SWS
variable [QN]
section
variable {c : DC} {U H : Hp} {σ : L2.St} {ρ : Env}
def lenAV (Q : D → Prop) : AV → Prop
  | .fz (.int n) => (0 ≤ n ∧ n < 2 ^ 63) ∧ Q (.int n)
  | _ => False
end
end SW
namespace SW
open PySem PySem.Spec PyProof.Rows L2 SWS
end SW
namespace SW
open PySem PySem.Spec PyProof.Rows L2 SWS
end SW
namespace SW
open PySem PySem.Spec PyProof.Rows L2 SWS
variable [QN]
def kTD (k : List Key) : D := .tup (k.map kD)
def leT (a b : List Key) : Bool := leD (kTD a) (kTD b)
end SW
namespace SW
open PySem PySem.Spec PyProof.Rows L2 SWS
variable [QN]
section
variable {c : DC} {U H : Hp} {σ : L2.St} {ρ : Env}
def aLcST (b : AE) (ag : AG) (at' : AT) (e : AE) (vs : List Nat) : AO := fun ρ Q X => b ρ (dTQ fun ks _ => okDs 8 (ks.map kTD) = true ∧ alikeD (ks.map kTD) = true ∧ sortableD (ks.map kTD) = true ∧ aComp ag at' e (wipeA ρ vs) X ((ks.mergeSort leT).map kTD) [] (fun acc => Q (.ol acc))) X
end
end SW
namespace SW
open PySem PySem.Spec PyProof.Rows L2 SWS
end SW
namespace SW
open PySem PySem.Spec PyProof.Rows L2 SWS
variable [QN]
section
variable {c : DC} {U H : Hp} {σ : L2.St} {ρ : Env}
def aZipS (r : AL) : AL := fun ρ Q X => r ρ (twoQ fun d e => lstQ (fun xs => lstQ (fun ys => xs.length = ys.length ∧ Q (zipD xs ys)) e) d) X
end
section
variable {ρ : Env} {L : List D → Prop} {XE : Exn → Prop} {r : AL}
theorem w_zipS (q : r ρ (twoQ fun d e => lstQ (fun xs => lstQ (fun ys => xs.length = ys.length ∧ L (zipD xs ys)) e) d) XE) : aZipS r ρ L XE := q
instance s_zipS  : Stp (aZipS r ρ L XE) (r ρ (twoQ fun d e => lstQ (fun xs => lstQ (fun ys => xs.length = ys.length ∧ L (zipD xs ys)) e) d) XE) := ⟨w_zipS⟩
end
end SW
namespace SW
open PySem PySem.Spec PyProof.Rows L2 SWS
variable [QN]
section
variable {c : DC} {U H : Hp} {σ : L2.St} {ρ : Env}
def isObj (C : Addr) : D → Prop
  | .obj C' _ _ => C' = C
  | _ => False
def aLenO (C : Addr) (A : AF) (a : AE) : AE := fun ρ Q X => a ρ (fun d => isObj C d ∧ A [.fz d] (lenAV Q) fun _ => False) X
theorem w_lenO {C : Addr} {A : AF} {a : AE} {Q : D → Prop} {X : Exn → Prop} (q : a ρ (fun d => isObj C d ∧ A [.fz d] (lenAV Q) fun _ => False) X) : aLenO C A a ρ Q X := q
instance s_lenO {C : Addr} {A : AF} {a : AE} {Q : D → Prop} {X : Exn → Prop} : Stp (aLenO C A a ρ Q X) (a ρ (fun d => isObj C d ∧ A [.fz d] (lenAV Q) fun _ => False) X) := ⟨w_lenO⟩
end
section
variable {ρ : Env} {O : AV → Prop} {X : Exn → Prop} {b e : AE} {ag : AG} {at' : AT} {vs : List Nat}
theorem w_lcST (q : b ρ (dTQ fun ks _ => okDs 8 (ks.map kTD) = true ∧ alikeD (ks.map kTD) = true ∧ sortableD (ks.map kTD) = true ∧ aComp ag at' e (wipeA ρ vs) X ((ks.mergeSort leT).map kTD) [] (fun acc => O (.ol acc))) X) : aLcST b ag at' e vs ρ O X := q
instance s_lcST  : Stp (aLcST b ag at' e vs ρ O X) (b ρ (dTQ fun ks _ => okDs 8 (ks.map kTD) = true ∧ alikeD (ks.map kTD) = true ∧ sortableD (ks.map kTD) = true ∧ aComp ag at' e (wipeA ρ vs) X ((ks.mergeSort leT).map kTD) [] (fun acc => O (.ol acc))) X) := ⟨w_lcST⟩
end
end SW
namespace SW
open PySem PySem.Spec PyProof.Rows L2 SWS
end SW
namespace SW
open PySem PySem.Spec PyProof.Rows L2 SWS
variable [QN]
section
variable {c : DC} {U H : Hp} {σ : L2.St} {ρ : Env}
mutual
def noL : D → Bool
  | .int _ => true
  | .bl _ => true
  | .str _ => true
  | .non => true
  | .ty _ => true
  | .tup ds => noLs ds
  | _ => false
def noLs : List D → Bool
  | [] => true
  | d :: ds => noL d && noLs ds
end
end
end SW
namespace SW
open PySem PySem.Spec PyProof.Rows L2 SWS
variable [QN]
section
variable {c : DC} {U H : Hp} {σ : L2.St} {ρ : Env}
def aAsg2 (e : AE) (g1 g2 : AG) : AS := fun N ρ => e ρ (fun d => g1 d ρ fun ρ1 => g2 d ρ1 N.nx) (fun x => N.ex x ρ)
theorem w_asg2 {ρ : Env} {nx bk ct : Env → Prop} {rt : AV → Env → Prop} {ex : Exn → Env → Prop} {e : AE} {g1 g2 : AG} (q : e ρ (fun d => g1 d ρ fun ρ1 => g2 d ρ1 nx) (fun x => ex x ρ)) : aAsg2 e g1 g2 ⟨nx, rt, bk, ct, ex⟩ ρ := q
instance s_asg2 {ρ : Env} {nx bk ct : Env → Prop} {rt : AV → Env → Prop} {ex : Exn → Env → Prop} {e : AE} {g1 g2 : AG} : Stp (aAsg2 e g1 g2 ⟨nx, rt, bk, ct, ex⟩ ρ) (e ρ (fun d => g1 d ρ fun ρ1 => g2 d ρ1 nx) (fun x => ex x ρ)) := ⟨w_asg2⟩
def fzA (Q : D → Prop) : AV → Prop
  | .fz d => Q d
  | _ => False
def aFldE (i : Nat) (C : Addr) (f : Str) : AE := fun ρ Q _ => obfQ ρ i C f fun _ _ _ _ _ av => fzA Q av
def aAppLF (i : Nat) (C : Addr) (f : Str) (e : AE) : AS := fun N ρ => obfQ ρ i C f fun _ _ _ _ _ av0 => olA (fun _ => e ρ (fun d => obfQ ρ i C f fun dx ns ws as n av => olA (fun ds => ds.length < 1000000 ∧ N.nx (ρ.set i (some (.ob C dx ns ws (as.set n (.ol (ds ++ [d]))))))) av) (fun x => N.ex x ρ)) av0
end
section
variable {ρ : Env} {nx bk ct : Env → Prop} {rt : AV → Env → Prop} {ex : Exn → Env → Prop} {Q : D → Prop} {X : Exn → Prop} {i k : Nat} {C dx : Addr} {f : Str} {ns : List Str} {ws : List V} {as : List AV} {ds : List D} {d : D} {e : AE}
theorem w_fldE (h1 : ρ[i]? = some (some (.ob C dx ns ws as))) (h2 : fldIx f ns 0 = some k) (h3 : as[k]? = some (.fz d)) (q : Q d) : aFldE i C f ρ Q X := w_obfQ h1 h2 h3 q
theorem w_appLF (h1 : ρ[i]? = some (some (.ob C dx ns ws as))) (h2 : fldIx f ns 0 = some k) (h3 : as[k]? = some (.ol ds)) (q : e ρ (fun d => ds.length < 1000000 ∧ nx (ρ.set i (some (.ob C dx ns ws (as.set k (.ol (ds ++ [d]))))))) (fun x => ex x ρ)) : aAppLF i C f e ⟨nx, rt, bk, ct, ex⟩ ρ := by
  refine w_obfQ h1 h2 h3 ?_
  show e ρ _ _
  have e1 : (fun d => obfQ ρ i C f fun dx ns ws as n av => olA (fun ds => ds.length < 1000000 ∧ nx (ρ.set i (some (.ob C dx ns ws (as.set n (.ol (ds ++ [d]))))))) av) = fun d => ds.length < 1000000 ∧ nx (ρ.set i (some (.ob C dx ns ws (as.set k (.ol (ds ++ [d])))))) := funext fun d => propext ⟨fun h => by
      obtain ⟨_, _, _, _, _, _, k1, k2, k3, h⟩ := obfQ_of h
      rw [h1] at k1
      cases k1
      rw [h2] at k2
      cases k2
      rw [h3] at k3
      cases k3
      exact h, fun h => w_obfQ h1 h2 h3 h⟩
  rw [e1]
  exact q
end
end SW
namespace SW
open PySem PySem.Spec PyProof.Rows L2 SWS
end SW
namespace SW
open PySem PySem.Spec PyProof.Rows L2
end SW
namespace SW
open PySem PySem.Spec PyProof.Rows L2 SWS
variable [QN]
section
variable {c : DC} {U H : Hp} {σ : L2.St} {ρ : Env} {te : TE} {e : AE}
def aLstR (e : AE) : AO := fun ρ Q X => e ρ (intQ fun n => (0 ≤ n ∧ n ≤ 1000000) ∧ Q (.ol (rngD 0 n.toNat))) X
theorem w_lstR {O : AV → Prop} {X : Exn → Prop} (q : e ρ (intQ fun n => (0 ≤ n ∧ n ≤ 1000000) ∧ O (.ol (rngD 0 n.toNat))) X) : aLstR e ρ O X := q
instance s_lstR {O : AV → Prop} {X : Exn → Prop} : Stp (aLstR e ρ O X) (e ρ (intQ fun n => (0 ≤ n ∧ n ≤ 1000000) ∧ O (.ol (rngD 0 n.toNat))) X) := ⟨w_lstR⟩
end
end SW
namespace SW
open PySem PySem.Spec PyProof.Rows L2 SWS
variable [QN]
def pickL {α : Type} (xs : List α) (lo hi : Option Int) (st : Int) : List α :=
  (sliceRange (sliceBounds lo hi (some st) xs.length).1 (sliceBounds lo hi (some st) xs.length).2.1 (sliceBounds lo hi (some st) xs.length).2.2).filterMap (xs[·]?)
section
variable {c : DC} {U H : Hp} {σ : L2.St} {ρ : Env} {te : TE} {e : AE} {tl th : TO} {l h : AP}
def aSlLs (st : Int) (a : AE) (lo hi : AP) : AE := fun ρ Q X => a ρ (lstQ fun ds => lo ρ (fun l => hi ρ (fun h => (pickL ds l h st).length ≤ 1000000 ∧ Q (.lst (pickL ds l h st))) X) X) X
theorem w_slLs {Q : D → Prop} {X : Exn → Prop} {st : Int} (q : e ρ (lstQ fun ds => l ρ (fun lo => h ρ (fun hi => (pickL ds lo hi st).length ≤ 1000000 ∧ Q (.lst (pickL ds lo hi st))) X) X) X) : aSlLs st e l h ρ Q X := q
instance s_slLs {Q : D → Prop} {X : Exn → Prop} {st : Int} : Stp (aSlLs st e l h ρ Q X) (e ρ (lstQ fun ds => l ρ (fun lo => h ρ (fun hi => (pickL ds lo hi st).length ≤ 1000000 ∧ Q (.lst (pickL ds lo hi st))) X) X) X) := ⟨w_slLs⟩
/-- a, *b = a list: both are only read from here on -/
def consQ (Q : D → List D → Prop) : List D → Prop
  | d :: ds => Q d ds
  | [] => False
def aStar (i j : Nat) (e : AE) : AS := fun N ρ => e ρ (lstQ (consQ fun d ds => N.nx ((ρ.set i (some (.fz d))).set j (some (.fz (.lst ds)))))) (fun x => N.ex x ρ)
theorem w_star {i j : Nat} {nx bk ct : Env → Prop} {rt : AV → Env → Prop} {ex : Exn → Env → Prop} (q : e ρ (lstQ (consQ fun d ds => nx ((ρ.set i (some (.fz d))).set j (some (.fz (.lst ds)))))) (fun x => ex x ρ)) : aStar i j e ⟨nx, rt, bk, ct, ex⟩ ρ := q
instance s_star {i j : Nat} {nx bk ct : Env → Prop} {rt : AV → Env → Prop} {ex : Exn → Env → Prop} : Stp (aStar i j e ⟨nx, rt, bk, ct, ex⟩ ρ) (e ρ (lstQ (consQ fun d ds => nx ((ρ.set i (some (.fz d))).set j (some (.fz (.lst ds)))))) (fun x => ex x ρ)) := ⟨w_star⟩
def strAV (Q : D → Prop) : AV → Prop
  | .fz (.str x) => Q (.str x)
  | _ => False
def aStrO (C : Addr) (A : AF) (a : AE) : AE := fun ρ Q X => a ρ (fun d => isObj C d ∧ A [.fz d] (strAV Q) fun _ => False) X
theorem w_strO {C : Addr} {A : AF} {a : AE} {Q : D → Prop} {X : Exn → Prop} (q : a ρ (fun d => isObj C d ∧ A [.fz d] (strAV Q) fun _ => False) X) : aStrO C A a ρ Q X := q
instance s_strO {C : Addr} {A : AF} {a : AE} {Q : D → Prop} {X : Exn → Prop} : Stp (aStrO C A a ρ Q X) (a ρ (fun d => isObj C d ∧ A [.fz d] (strAV Q) fun _ => False) X) := ⟨w_strO⟩
def fmtQ (Q : D → Prop) : D → Prop
  | .str y => y.length ≤ 1000000 ∧ Q (.str y)
  | .int i => i.natAbs.log2 < 1920 ∧ Q (.str (toString i))
  | _ => False
def aFmt (a : AE) : AE := fun ρ Q X => a ρ (fmtQ Q) X
theorem w_fmt {a : AE} {Q : D → Prop} {X : Exn → Prop} (q : a ρ (fmtQ Q) X) : aFmt a ρ Q X := q
instance s_fmt {a : AE} {Q : D → Prop} {X : Exn → Prop} : Stp (aFmt a ρ Q X) (a ρ (fmtQ Q) X) := ⟨w_fmt⟩
def aBmO (f : D → List D → (AV → Prop) → Prop) (a : AE) (r : AL) : AO := fun ρ Q X => a ρ (strQ fun x => r ρ (fun ds => f (.str x) ds Q) X) X
theorem w_bmO {f : D → List D → (AV → Prop) → Prop} {a : AE} {r : AL} {O : AV → Prop} {X : Exn → Prop} (q : a ρ (strQ fun x => r ρ (fun ds => f (.str x) ds O) X) X) : aBmO f a r ρ O X := q
instance s_bmO {f : D → List D → (AV → Prop) → Prop} {a : AE} {r : AL} {O : AV → Prop} {X : Exn → Prop} : Stp (aBmO f a r ρ O X) (a ρ (strQ fun x => r ρ (fun ds => f (.str x) ds O) X) X) := ⟨w_bmO⟩
end
end SW
namespace SW
open PySem PySem.Spec PyProof.Rows L2 SWS
end SW
namespace SW
open PySem PySem.Spec PyProof.Rows L2 SWS
variable [QN]
section
variable {c : DC} {ta tb te : TE} {a b e : AE} {ρ : Env} {Q : D → Prop} {XE : Exn → Prop}
def aDGet2 (b a e : AE) : AE := fun ρ Q X => b ρ (dKQ fun ks ds => a ρ (fun y => someQ (fun k => e ρ (fun x => Q ((dval ks ds k).getD x)) X) (keyD y)) X) X
theorem w_dGet2 (q : b ρ (dKQ fun ks ds => a ρ (fun y => someQ (fun k => e ρ (fun x => Q ((dval ks ds k).getD x)) XE) (keyD y)) XE) XE) : aDGet2 b a e ρ Q XE := q
instance s_dGet2 : Stp (aDGet2 b a e ρ Q XE) (b ρ (dKQ fun ks ds => a ρ (fun y => someQ (fun k => e ρ (fun x => Q ((dval ks ds k).getD x)) XE) (keyD y)) XE) XE) := ⟨w_dGet2⟩
end
def aZipT (r : AL) : AL := fun ρ Q X => r ρ (twoQ fun d e => tupQ (fun xs => tupQ (fun ys => Q (zipD xs ys)) e) d) X
section
variable {c : DC} {ρ : Env} {L : List D → Prop} {XE : Exn → Prop} {r : AL}
theorem w_zipTT (q : r ρ (twoQ fun d e => tupQ (fun xs => tupQ (fun ys => L (zipD xs ys)) e) d) XE) : aZipT r ρ L XE := q
instance s_zipTT : Stp (aZipT r ρ L XE) (r ρ (twoQ fun d e => tupQ (fun xs => tupQ (fun ys => L (zipD xs ys)) e) d) XE) := ⟨w_zipTT⟩
end
end SW
namespace SW
open PySem PySem.Spec PyProof.Rows L2
variable [QN]
def PinO (o : Obj) : HO := .frz o (.own 0)
section
variable {P : Program} {w : World} {K : PySem.W.Frag} {mg : Str → Option Value} {base : Heap}
/-- what stands where it is called: the function, its code, the cell that it captured -/
structure LamH (H : Hp) (f c' cy : Addr) (fo oc : Obj) (q : Str) : Prop where
  hf : H f = some (PinO fo)
  hc : H c' = some (LamX.CodeO c' q)
  hy : H cy = some (PinO oc)
  n1 : f ≠ cy
  n2 : c' ≠ cy
theorem LamH.gr {U H U' H' : Hp} {f c' cy : Addr} {fo oc : Obj} {q : Str} (L : LamH H f c' cy fo oc q) (g : Gr [] U H U' H') : LamH H' f c' cy fo oc q :=
  ⟨g.hh f _ (by simp) (ntb rfl) L.hf, g.hh c' _ (by simp) (fun ps z => LamX.codeO_ne ps z) L.hc, g.hh cy _ (by simp) (ntb rfl) L.hy, L.n1, L.n2⟩
end
end SW
namespace SW
open PySem PySem.Spec PyProof.Rows L2
end SW
namespace SW
open PySem PySem.Spec PyProof.Rows L2
end SW
namespace SW
open PySem PySem.Spec PyProof.Rows L2
variable [QN]
structure FnOkG (P : Program) (w : World) (K : PySem.W.Frag) (mg : Str → Option Value) (base : Heap) (CX : CXT) (k : Nat) (f : Addr) (fd : FuncData) (ps : List Str) (sp : Sp) : Prop where
  len : ∀ vs H Q E, sp vs H Q E → vs.length = ps.length
  run : ∀ (A : Around) (outer : List PySem.Env) (s : Shared) (H : Hp) (args : Args) (us : List Value) (vs : List V) (Q : VK) (E : XK), A.guards = some [] → Room k A → Env0 P w K mg base A outer s H → BindsTo s fd args (ps.zip us) → Vals vs us → sp vs H Q E → codeAny (model P w) A (.call (.ref f) args) (L2.CR CX outer P w H s Q E) s
section
variable {P : Program} {w : World} {K : PySem.W.Frag} {mg : Str → Option Value} {base : Heap} {CX : CXT} {k : Nat} {f : Addr} {fd : FuncData} {ps : List Str} {sp : Sp}
theorem FnOkG.of (F : FnOk P w K mg base CX k f fd ps sp) : FnOkG P w K mg base CX k f fd ps sp := ⟨F.len, fun A o s H as us vs Q E _ => F.run A o s H as us vs Q E⟩
theorem fun_okG {x qual : Str} {st : Stmt} {N : List Str} (F : Fun K x qual st f fd) (S : FnScope N ps (defScope st)) (len : ∀ vs H Q E, sp vs H Q E → vs.length = ps.length)
    (hb : ∀ (cdv : Value), fd.code = cdv → ∀ (A : Around), A.guards = some [] → ∀ (outer : List PySem.Env) (s : Shared) (H : Hp) (vs : List V) (Q : VK) (E : XK), Room k (A.deeper (envOfC qual (defScope st) s.heap.objs.size f cdv)) → sp vs H Q E →
      ∃ t, PSs (cxOf CX0 P w K mg base N qual (defScope st) f cdv A outer s H E).nox (defBody st) t ∧ t { nx := fun _ H' => Q .non H', rt := Q } (start N vs) H) : FnOkG P w K mg base CX0 (k + 1) f fd ps sp := by
  obtain ⟨oc, od, kV, doc, pm, an, cdv, ct, osl, rfl, lk, hcd⟩ := F.ex
  exact ⟨len, fun A outer s H args us vs Q E g hr e0 bt r h => LamX.run_ofS lk hcd S hr e0 bt r (len vs H Q E h) fun hr' => (hb cdv rfl A g outer s H vs Q E hr' h).imp fun t z => ⟨z.1.nox, z.2⟩⟩
end
/-- f(e, ..) -/
theorem pe_callG {X : Cx} {k : Nat} {f : Addr} {fd : FuncData} {ps : List Str} {sp : Sp} {x : Str} {p pos : Pos} {e : Expr} {es : List Expr} {t : TA} (F : FnOkG X.prog X.w X.K X.mg X.base CX0 k f fd ps sp) (gd : X.A.guards = some []) (hr : Room k X.A) (hg : Gl X x) (hm : X.mg x = some (.ref f)) (hk : PySem.W.keepIn X.K (.ref f) = true) (hb : Binds X.K fd ps [])
    (ha : PA X (e :: es) t) (hdb : (x == ("__debug__" : Str)) = false := by decide) (he : starEach (e :: es) X.env = (false, eval e X.env) :: starEach es X.env := by rfl) (hpl : (backTo pos (starEach es X.env)).any (·.1) = false := by rfl) :
    PE X (.Call (.Name x p) (e :: es) [] pos) (tCall sp [] (fun _ _ _ => False) t) := by
  refine ⟨fun pins s σ H Q I h => ?_⟩
  refine wpAny_Call_Name_kw (ld_glob I hg hm ?_ hdb)
  refine PySem.W.callWith_K (h₀ := X.base) I.ok.mod.kin hk (thn (ha.run pos pins s σ H _ I h) fun us s1 ⟨vs, H1, I1, r, q⟩ => ⟨I1.kIn, ?_⟩) he hpl
  have q' : sp (vs ++ []) H1 Q (fun _ _ _ => False) := q
  rw [List.append_nil] at q'
  have ll : us.length = ps.length := by
    rw [← r.length]
    exact F.len _ _ _ _ q'
  have bt := hb s1 us I1.kIn (by rw [List.append_nil]; exact ll)
  rw [List.append_nil] at bt
  refine wpAny_call (codeAny_mono (F.run X.A X.stack s1 H1 ⟨us, []⟩ us vs Q _ gd hr I1.env0 bt r q') fun fl s' hq => ?_)
  cases fl with
  | error e => exact (show False from hq).elim
  | ok fl =>
    cases fl with
    | ret u => exact I1.after hq
    | next => exact False.elim hq
    | brk => exact False.elim hq
    | cont => exact False.elim hq
def seenS (K : PySem.W.Frag) (a : Addr) (o : Obj) (xs : List V) : Hp := fun b => if b = a ∧ K.lookup a = none then some (.frz o (.lst xs)) else none
theorem seenS_is {K : PySem.W.Frag} {a b : Addr} {o : Obj} {xs : List V} {u : HO} (e : seenS K a o xs b = some u) : b = a ∧ K.lookup a = none ∧ u = .frz o (.lst xs) := by
  unfold seenS at e
  split at e
  · rename_i h
    exact ⟨h.1, h.2, (Option.some.inj e).symm⟩
  · cases e
theorem law_callG {P : Program} {w : World} {K : PySem.W.Frag} {mg mb : Str → Option Value} {k : Nat} {fa a : Addr} {fd : FuncData} {x : Str} {sp : Sp} {s : Shared} {vs : List Value} {ns : List Int} (inK : K.In s.heap) (nsG : s.heap.Ns mainGlobals mg) (nsB : s.heap.Ns builtinsNs mb) (eqB : ∀ y : Str, y ≠ "__name__" → mb y = bootBuiltins y)
    (noL : s.heap.NoLimit) (noG : s.gens = #[]) (at' : s.heap.get? a = some { cls := .type "list", data := .seq vs.toArray }) (hi : IntsAre vs ns) (few : ns.length ≤ sizeLine) (room : Room k callerA)
    (F : ∀ base : Heap, K.In base → base.Ns mainGlobals mg → FnOkG P w K mg base CX0 k fa fd [x] sp) (bind : ∀ (t : Shared) (u : Value), BindsTo t fd ⟨[u], []⟩ [(x, u)]) (hsp : ∀ H : Hp, SqL K H a (ns.map V.int) → sp [.ref a] H (fun v _ => v = .bl true) fun _ _ _ => False) :
    codeAny (model P w) callerA (.call (.ref fa) ⟨[.ref a], []⟩) (fun r t => r = .ok (.ret (.bool true)) ∧ OldK s.heap t.heap ∧ t.os = s.os ∧ AllBare t.gens) s := by
  obtain ⟨S, eS⟩ : ∃ S, S = seenS K a { cls := .type "list", data := .seq vs.toArray } (ns.map V.int) := ⟨_, rfl⟩
  have isS : ∀ {b u}, S b = some u → b = a ∧ K.lookup a = none ∧ u = .frz { cls := .type "list", data := .seq vs.toArray } (.lst (ns.map V.int)) := fun e => by rw [eS] at e; exact seenS_is e
  have vals := vals_ints hi
  -- the script, seen or one of the module's own
  have sq : SqL K S a (ns.map V.int) := by
    by_cases own : K.lookup a = none
    · exact .inl (.inr ⟨_, by rw [eS]; exact if_pos ⟨rfl, own⟩⟩)
    · obtain ⟨o, ho⟩ := Option.ne_none_iff_exists'.mp own
      have same := inK a o ho
      rw [at'] at same
      cases same
      exact .inr ⟨_, vs.toArray, _, ho, rfl, rfl, rfl, by rw [List.size_toArray, hi.length]; exact few, by simpa using vals⟩
  have okS : HOk P w S s.heap := fun b u e => by
    obtain ⟨rfl, _, rfl⟩ := isS e
    exact ⟨at', by rw [List.length_map]; exact few, vs, _, vals, at'⟩
  -- what is no such list stays in the hidden heap
  have stay : ∀ {b o}, s.heap.get? b = some o → b ≠ a ∨ K.lookup a ≠ none → (hidT s.heap S).get? b = some o := fun {b o} e h => hidT_get e (by
    cases z : S b with
    | none => rfl
    | some u =>
      obtain ⟨y1, y2, _⟩ := isS z
      exact (h.elim (fun n => n y1) fun n => n y2).elim)
  have dict : ∀ {b m}, s.heap.Ns b m → (hidT s.heap S).Ns b m := fun {b m} ⟨o, es, ep, e, d, r⟩ => ⟨o, es, ep, stay e (.inl fun z => by
    rw [z, at'] at e
    cases e
    cases d), d, r⟩
  have kin : K.In (hidT s.heap S) := fun b o e => stay (inK b o e) (by
    by_cases z : b = a
    · exact .inr (by rw [← z, e]; intro y; cases y)
    · exact .inl z)
  have md : Mod K mg (hidT s.heap S) := ⟨kin, dict nsG, ⟨mb, dict nsB, eqB⟩, noL.imp fun m h => ⟨dict h.1, h.2⟩⟩
  have e0 : Env0 P w K mg (hidT s.heap S) callerA [] s S := ⟨rfl, md, fun b o e => of_hidT e, Nat.le_of_eq (hidT_size s.heap S), trivial, fun b hb => absurd hb List.not_mem_nil, okS, .of_eq noG⟩
  refine codeAny_mono ((F _ kin (dict nsG)).run callerA [] s S ⟨[.ref a], []⟩ [.ref a] [.ref a] _ _ rfl room e0 (bind s (.ref a)) (.cons rfl .nil) (hsp S sq)) fun r t h => ?_
  cases r with
  | error e => exact (show False from h).elim
  | ok fl =>
    cases fl with
    | next => exact h.elim
    | brk => exact h.elim
    | cont => exact h.elim
    | ret u =>
      obtain ⟨v, S', os, bare, un, ok', rv, tv⟩ := h
      have tv' : v = .bl true := tv
      rw [tv'] at rv
      have eu : u = Value.bool true := rv
      rw [eu]
      refine ⟨rfl, OldK.of_keep fun b o e => ?_, os, bare⟩
      cases z : S b with
      | none => exact un.keep b o e z (fun m => absurd m List.not_mem_nil) (fun m => absurd m List.not_mem_nil)
      | some q =>
        obtain ⟨rfl, _, rfl⟩ := isS z
        obtain ⟨k1, _⟩ := ok' _ _ (un.frzs _ _ _ z)
        rw [at'] at e
        cases e
        exact k1
/-- the head's goal, by such a promise (a law whose defs make no lambda) -/
theorem walk_G {l : PySem.W.OpenLaw} {n k : Nat} {q : Program} {loose : List Str} {XP : (Str → Option Value) → Heap → Prop} {YP : World → Heap → Prop} {d : DefRec} {K : Params → PySem.W.Frag} {sp : World → Sp} {x : Str} (hn : l.most = some n) (hn2 : n ≤ sizeLine) (hdf : d.params.defaults = []) (hr : Room k callerA) (inK : ∀ (w : World) (h : Heap), YP w h → (K w.params).In h)
    (F : ∀ (w : World) (mg : Str → Option Value) (fa : Addr) (h : Heap), (K w.params).In h → h.Ns mainGlobals mg → mg d.name = some (.ref fa) → ∃ fd : FuncData, (∀ (s : Shared) (u : Value), BindsTo s fd ⟨[u], []⟩ [(x, u)]) ∧ ∀ base : Heap, (K w.params).In base → base.Ns mainGlobals mg → FnOkG l.prog w (K w.params) mg base CX0 k fa fd [x] (sp w))
    (hsp : ∀ (w : World) (H : Hp) (a : Addr) (ns : List Int), ns.length ≤ n → (∀ z ∈ ns, Builtin.Int.intBits z ≤ 1048576) → SqL (K w.params) H a (ns.map V.int) → sp w [.ref a] H (fun v _ => v = .bl true) fun _ _ _ => False) : PySem.W.WalkO q loose XP YP l.row.toRowW d [] (fun f vs => PySem.call f vs) := by
  refine Att.attach_callB hn hdf fun w _ s mg mb fa _ _ _ _ a vs ns G Y _ _ _ named list whole len bits none => ?_
  obtain ⟨fd, bd, hF⟩ := F w mg fa _ (inK w _ Y) G.T.g named
  exact law_callG (inK w _ Y) G.T.g G.T.b G.T.builtins G.T.nolimit none list whole (Nat.le_trans len hn2) hr hF bd fun H sq => hsp w H a ns len bits sq
theorem bt_repr : bootBuiltins "repr" = some (.builtin "repr") := by decide +kernel
def rRepr (K : PySem.W.Frag) : List V → Hp → VK → Prop := fun vs H Q => ∃ (a : Addr) (d : PyData), vs = [.ref a] ∧ Dp K H (.ref a) d ∧ d.showable = true ∧ d.hasDict = false ∧ d.depth ≤ 8 ∧ d.shown.length ≤ sizeLine ∧ Q (.str d.shown) H
theorem cr_repr {X : Cx} {K : PySem.W.Frag} (hK : X.K = K) (gd : X.A.guards = some []) (hu : X.A.units + 65 < cLine) : CallR X (.builtin "repr") (rRepr K) := by
  subst hK
  intro pins s σ H vs us Q I r h
  obtain ⟨a, d, rfl, hd, sh, nd, dp, sz, q⟩ := h
  rw [Vals.ref1 r]
  obtain ⟨as, rd⟩ := Dp.reads I d (.ref a) (.ref a) hd rfl
  refine repr_of_reads' rd sh (fun z => by rw [nd] at z; cases z) gd (by omega) (fun _ _ e => e) (fun h' u tk kp => ?_) sz
  exact ⟨.str d.shown, H, I.kept kp, ⟨u, rfl⟩, q⟩
/-- repr of a list: its text -/
def oRepr : List D → (D → Prop) → Prop := fun ds Q => oneQ (fun d => (∃ xs, d = .lst xs) ∧ okD 8 d = true ∧ (toPy d).showable = true ∧ (toPy d).hasDict = false ∧ (toPy d).depth ≤ 8 ∧ (toPy d).shown.length ≤ sizeLine ∧ Q (.str (toPy d).shown)) ds
theorem bu_repr {K : PySem.W.Frag} : BuD K (rRepr K) oRepr := fun U H vs ds Q q s r z k => by
  obtain ⟨d, rfl, ⟨xs, rfl⟩, h1, h2, h3, h4, h5, z⟩ := oneQ_of z
  obtain ⟨v, rfl, cd⟩ := paired1 r
  obtain ⟨a, ys, rfl, hs, hr⟩ := cd.lst s
  exact ⟨a, _, rfl, .lst (SqL.of hs) (okDs_dp s 7 xs ys h1 hr), h2, h3, h4, h5, k U H (.str _) _ (Gr.refl s) rfl z⟩
theorem w_repr {xs : List D} {Q : D → Prop} (h1 : okD 8 (.lst xs) = true) (h2 : (toPy (.lst xs)).showable = true) (h3 : (toPy (.lst xs)).hasDict = false) (h4 : (toPy (.lst xs)).depth ≤ 8) (h5 : (toPy (.lst xs)).shown.length ≤ sizeLine) (q : Q (.str (toPy (.lst xs)).shown)) : oRepr [.lst xs] Q := ⟨⟨xs, rfl⟩, h1, h2, h3, h4, h5, q⟩
section
variable {c : DC} {ρ : Env} {i : Nat}
def aRevS (i : Nat) : AS := fun N ρ => olQ ρ i fun ds => N.nx (ρ.set i (some (.ol ds.reverse)))
theorem sim_revS : SimS c (tDrop (tBM c.K "list" rReverse (tVar i) tNil)) (aRevS i) := fun U H σ ρ N n hx I z P => by
  obtain ⟨ds, e0, z⟩ := olQ_of z
  obtain ⟨p, xs, hs, hp, hr⟩ := ol_at I e0
  exact ⟨.ref p, hs, .inl ⟨rfl, xs, SqL.of hp⟩, p, xs, rfl, rfl, hp, P.nx U _ σ _ (Gr.refl (M := []) I.vh).vv (I.mutL e0 hs hr.rev) z⟩
theorem w_revS {ds : List D} {nx bk ct : Env → Prop} {rt : AV → Env → Prop} {ex : Exn → Env → Prop} (h : ρ[i]? = some (some (.ol ds))) (q : nx (ρ.set i (some (.ol ds.reverse)))) : aRevS i ⟨nx, rt, bk, ct, ex⟩ ρ := by
  unfold aRevS olQ
  rw [h]
  exact q
end
end SW
namespace SW
open PySem PySem.Spec PyProof.Rows L2 SWS
variable [QN]
def fltB : AV → Bool
  | .fz _ => true
  | .ol ds => ds.all fltD
  | _ => false
def fltA : AV → Bool
  | .dr => true
  | .ob _ _ _ _ as => as.all fltB
  | a => fltB a
def fltE : Env → Bool
  | [] => true
  | none :: ρ => fltE ρ
  | some a :: ρ => fltA a && fltE ρ
theorem fltE_at : ∀ {ρ : Env} {i : Nat} {a : AV}, fltE ρ = true → ρ[i]? = some (some a) → fltA a = true
  | [], i, a, _, e => by simp at e
  | none :: ρ, 0, a, _, e => by cases e
  | none :: ρ, i + 1, a, h, e => fltE_at (ρ := ρ) (i := i) h e
  | some b :: ρ, 0, a, h, e => by
    have e' : b = a := Option.some.inj (Option.some.inj e)
    subst e'
    exact ((Bool.and_eq_true _ _).mp (show (fltA b && fltE ρ) = true from h)).1
  | some b :: ρ, i + 1, a, h, e => fltE_at (ρ := ρ) (i := i) ((Bool.and_eq_true _ _).mp (show (fltA b && fltE ρ) = true from h)).2 e
theorem flt_det {K : PySem.W.Frag} {U U' : Hp} {d : D} {v w : V} (f : fltD d = true) (h : R K U d v) (k : R K U' d w) : v = w := by
  cases d <;> first | exact (show v = _ from h).trans (show w = _ from k).symm | cases f
theorem flts_det {K : PySem.W.Frag} {U U' : Hp} : ∀ {ds : List D} {xs ys : List V}, ds.all fltD = true → Rs K U ds xs → Rs K U' ds ys → xs = ys
  | [], _, _, _, h, k => (show _ = [] from h).trans (show _ = [] from k).symm
  | d :: ds, _, _, f, ⟨v, r, e, h1, h2⟩, ⟨w, s, e', k1, k2⟩ => by
    rw [List.all_cons, Bool.and_eq_true] at f
    rw [e, e', flt_det f.1 h1 k1, flts_det f.2 h2 k2]
theorem kept_B {K : PySem.W.Frag} {U U' H H' : Hp} {a : AV} {v : V} (f : fltB a = true) (h : RepA K U H a v) (k : RepA K U' H' a v) : ∀ p ∈ own a v, H' p = H p := fun p hp => by
  cases a with
  | fz d => cases v <;> cases hp
  | ol ds =>
    obtain ⟨q, xs, rfl, h1, h2⟩ := h
    obtain ⟨q', ys, e, k1, k2⟩ := k
    cases e
    rw [List.mem_singleton.mp hp, h1, k1, flts_det f h2 k2]
  | _ => cases f
theorem kept_Bs {K : PySem.W.Frag} {U U' H H' : Hp} : ∀ {as : List AV} {vs : List V}, as.all fltB = true → RepAs K U H as vs → RepAs K U' H' as vs → ∀ p ∈ ownAs as vs, H' p = H p
  | [], _, _, _, _, p, hp => by unfold ownAs at hp; cases hp
  | a :: as, _, f, ⟨v, r, e, h1, h2⟩, ⟨w, s, e', k1, k2⟩, p, hp => by
    subst e
    cases e'
    rw [List.all_cons, Bool.and_eq_true] at f
    rcases List.mem_append.mp (show p ∈ own a v ++ ownAs as r from hp) with z | z
    · exact kept_B f.1 h1 k1 p z
    · exact kept_Bs f.2 h2 k2 p z
theorem kept_A {K : PySem.W.Frag} {U U' H H' : Hp} {a : AV} {v : V} (f : fltA a = true) (n : a ≠ .dr) (h : RepA K U H a v) (k : RepA K U' H' a v) : ∀ p ∈ own a v, H' p = H p := fun p hp => by
  cases a with
  | dr => exact absurd rfl n
  | ob C dx ns ws as =>
    obtain ⟨q, rfl, h1, h2, h3⟩ := h
    obtain ⟨q', e, k1, k2, k3⟩ := k
    cases e
    rcases List.mem_cons.mp (show p ∈ q :: ownAs as ws from hp) with z | z
    · rw [z, h1, k1]
    · exact kept_Bs f h3 k3 p z
  | fz d => exact kept_B (a := .fz d) f h k p hp
  | ol ds => exact kept_B (a := .ol ds) f h k p hp
  | ok ks ds => cases f
  | ot ks ds => cases f
  | on ws as => cases f
  | ut ws as => cases f
  | un => cases f
section
variable {c : DC} {U H : Hp} {σ : L2.St} {ρ : Env}
/-- a call that draws and reads lists of one's own: they are as they were behind it -/
def aCallK (A : AFM) (r : AA) : AO := fun ρ Q X => fltE ρ = true ∧ r ρ (callM A ρ (fun av ρ' => ρ' = ρ ∧ Q av) (fun _ _ => False)) X
theorem sim_callK {A : AFM} {tr : TA} {r : AA} {E : XK} (hr : SimA c tr r) : SimO c (tCall (spM c.K c.tb A) [] E tr) (aCallK A r) := fun U H σ ρ Q q I z k =>
  hr U H σ ρ _ _ I z.2 fun U1 H1 as vs g1 I1 r1 z1 => by
    rw [List.append_nil]
    refine run_spM I1 r1 z1 (fun U2 H2 ρ2 av v g2 I2 o2 r2 n2 d2 z2 => ?_) (fun _ _ _ _ _ _ _ _ z => z.elim)
    obtain ⟨rfl, z3⟩ := z2
    have g3 : Gr (drs ρ2 σ) U1 H1 U2 H2 := ⟨g2.vv, g2.vh, fun x o hx nt e => ?_, g2.dom, g2.fr, g2.tb, g2.nt⟩
    · exact k U2 H2 av v (g1.trans g3) I2 r2 (n2.back fun _ h => g1.fresh h) z3
    · by_cases hz : x ∈ owns ρ2 σ
      · obtain ⟨i, hi⟩ := ownK_mem.mp hz
        unfold ownK at hi
        cases e1 : ρ2[i]? with
        | none => rw [e1] at hi; cases hi
        | some a =>
          cases e2 : σ[i]? with
          | none => rw [e1, e2] at hi; cases hi
          | some w =>
            rw [e1, e2] at hi
            cases a with
            | none => cases w <;> cases hi
            | some a =>
              obtain ⟨v1, f1, f2, _⟩ := rep_at I1.rep i a e1
              obtain ⟨v2, k1, k2, _⟩ := rep_at I2.rep i a e1
              rw [e2] at f1 k1
              cases f1
              cases k1
              have hi' : x ∈ own a v1 := hi
              have nd : a ≠ .dr := fun zz => by
                subst zz
                obtain ⟨s, rfl, _⟩ := f2
                exact hx (by rw [List.mem_singleton.mp hi']; exact mem_drs e1 e2)
              rw [kept_A (fltE_at z.1 e1) nd f2 k2 x hi']
              exact e
      · exact g2.hh x o hz nt e
theorem w_callK {A : AFM} {r : AA} {O : AV → Prop} {X : Exn → Prop} (f : fltE ρ = true) (q : r ρ (callM A ρ (fun av ρ' => ρ' = ρ ∧ O av) (fun _ _ => False)) X) : aCallK A r ρ O X := ⟨f, q⟩
/-- C(x, k = ..), x a list of one's own that stays as it is -/
def mkK (C : Addr) (A : AFM) (Q : AV → Prop) (as : List AV) : Prop := ∀ dx : Addr, A (.ob C dx [] [] [] :: as) (fun av avs' => av = .fz .non ∧ ∃ a', avs' = a' :: as ∧ Q a') (fun _ _ => False)
def aMkK0 (C : Addr) (m : Nat) (A : AFM) (arr : List KA) (i : Nat) (rk : AL) : AO := fun ρ Q X => olQ ρ i fun ds => ds.all fltD = true ∧ rk ρ (fun es => es.length = m ∧ arr.all (kaOk m) = true ∧ mkK C A Q (.ol ds :: arr.map fun a => .fz (kaD es a))) X
theorem sim_mkK0 {C : Addr} {m m' i : Nat} {A : AFM} {arr : List KA} {tk : TA} {rk : AL} {E : L2.St → XK} {gV : List V → List V → List V} (hm : m' = m) (hg : ∀ vs zs : List V, zs.length = m → gV vs zs = vs ++ arr.map (kaV zs)) (hk : SimL c tk rk) : SimO c (tMkNS C 1 m' (spM c.K c.tb A) gV E (tCons (tVar i) tNil) tk) (aMkK0 C m A arr i rk) := fun U H σ ρ Q q I z k => by
  obtain ⟨ds, e1, fl, z2⟩ := olQ_of z
  obtain ⟨p, _, s1, _, _⟩ := ol_at I e1
  refine ⟨.ref p, s1, hk U H σ ρ _ _ I z2 fun U2 H2 es zs g2 I2 r2 z3 => ?_⟩
  obtain ⟨l2, ha, z4⟩ := z3
  have lz : zs.length = m := by rw [← r2.len]; exact l2
  refine ⟨rfl, lz.trans hm.symm, fun x dx nx nd ne => ?_⟩
  rw [hg _ _ lz]
  obtain ⟨p', xs, s2, hp, hr⟩ := ol_at I2 e1
  rw [s1] at s2
  cases s2
  have po : p ∈ owns ρ σ := mem_owns e1 s1 p (List.mem_singleton.mpr rfl)
  have up : U2 p = none := (I2.out p po).1
  have nx2 : upd H2 dx (.own x) x = none := by rw [upd_ne (fun z => ne z.symm)]; exact nx
  have ga : Gr [] U2 H2 U2 (upd H2 dx (.own x)) := (Gr.refl I2.vh).newM nd
  have gb : Gr [] U2 H2 U2 (upd (upd H2 dx (.own x)) x (.ins C dx [])) := ga.trans ((Gr.refl ga.vh).newM nx2)
  have hpb : upd (upd H2 dx (.own x)) x (.ins C dx []) p = some (.lst xs) := gb.hh p _ (by simp) (ntb rfl) hp
  have ux : U2 x = none := I2.vh.free nx
  have px : p ≠ x := fun zz => by rw [zz, nx] at hp; cases hp
  have ek : ownAs (arr.map fun a => AV.fz (kaD es a)) (arr.map (kaV zs)) = [] := ownAs_fz fun a ha => by
    obtain ⟨b, _, rfl⟩ := List.mem_map.mp ha
    exact ⟨_, rfl⟩
  have eo : ownAs (.ob C dx [] [] [] :: .ol ds :: arr.map fun a => AV.fz (kaD es a)) (.ref x :: .ref p :: arr.map (kaV zs)) = [x, p] := by
    show x :: (p :: ownAs (arr.map fun a => AV.fz (kaD es a)) (arr.map (kaV zs))) = [x, p]
    rw [ek]
  refine ⟨U2, .ob C dx [] [] [] :: .ol ds :: arr.map fun a => AV.fz (kaD es a), _, _, gb.vh, I2.tbs.gr gb, .cons ⟨x, rfl, upd_same, rfl, rfl⟩ (.cons ⟨p, xs, rfl, hpb, hr⟩ (kas_rep r2 (by rw [lz]; exact ha))), ?_, fun q hq => ?_, z4 dx, fun U' H' av v avs' g r nd' hf r3 n3 u3 kd per z => ?_, fun U' H' ex cls o avs' g xr r3 n3 u3 kd per z => z.elim⟩
  · show (ownAs (.ob C dx [] [] [] :: .ol ds :: arr.map fun a => AV.fz (kaD es a)) (.ref x :: .ref p :: arr.map (kaV zs))).Nodup
    rw [eo]
    simp [px.symm]
  · have hq' : q ∈ ownAs (.ob C dx [] [] [] :: .ol ds :: arr.map fun a => AV.fz (kaD es a)) (.ref x :: .ref p :: arr.map (kaV zs)) := hq
    rw [eo] at hq'
    rcases List.mem_cons.mp hq' with rfl | hq'
    · exact ux
    · rw [List.mem_singleton.mp hq']; exact up
  · have g' : Gr (ownAs (.ob C dx [] [] [] :: .ol ds :: arr.map fun a => AV.fz (kaD es a)) (.ref x :: .ref p :: arr.map (kaV zs))) U2 _ U' H' := g
    rw [eo] at g'
    obtain ⟨rfl, a', rfl, zq⟩ := z
    refine ⟨r, ?_⟩
    cases r3 with
    | cons ra rt =>
      cases rt with
      | cons rp rk3 =>
        have kp : H' p = some (.lst xs) := by
          obtain ⟨q', ys, e, k1, k2⟩ := rp
          cases e
          rw [k1, flts_det fl hr k2]
        have g3 : Gr [] U2 H2 U' H' := ⟨gb.vv.trans g'.vv, g'.vh, fun a o _ nt e => by
          by_cases za : a = p
          · rw [za] at e ⊢
            rw [hp] at e
            rw [kp]
            exact e
          · have zx : a ≠ x := fun zz => by rw [zz, nx] at e; cases e
            exact g'.hh a o (by simp [za, zx]) nt (gb.hh a o (by simp) nt e), fun a h => g'.dom a (gb.dom a h), fun a h n => g'.fr a (gb.fr a h n) (gb.dom a n), fun P h => g'.tb P (gb.tb P h), fun h => g'.nt (gb.nt h)⟩
        refine k U' H' a' (.ref x) (g2.trans g3.any) (I2.grow g3) ra ⟨(List.nodup_append.mp (show (own a' (.ref x) ++ ownAs (.ol ds :: arr.map fun a => AV.fz (kaD es a)) (.ref p :: arr.map (kaV zs))).Nodup from n3)).1, fun q hq => ⟨u3 q (List.mem_append_left _ hq), ?_⟩⟩ zq
        rcases per.1 q hq with y | y
        · have : q = x := by
            have y' : q ∈ [x] := y
            exact List.mem_singleton.mp y'
          rw [this]
          exact g2.fresh nx
        · exact g2.fresh (gb.fresh y)
theorem w_mkK0 {C : Addr} {m i : Nat} {A : AFM} {arr : List KA} {rk : AL} {O : AV → Prop} {X : Exn → Prop} {ds : List D} (h : ρ[i]? = some (some (.ol ds))) (f : ds.all fltD = true) (q : rk ρ (fun es => es.length = m ∧ arr.all (kaOk m) = true ∧ mkK C A O (.ol ds :: arr.map fun a => .fz (kaD es a))) X) : aMkK0 C m A arr i rk ρ O X := by
  unfold aMkK0 olQ
  rw [h]
  exact ⟨f, q⟩
/-- return (x, e, f), x a list of one's own: a tuple of one's own -/
def aRetU1 (a : Nat) (e1 e2 : AE) : AS := fun N ρ => olQ ρ a fun xa => e1 ρ (fun d1 => e2 ρ (fun d2 => ∀ ws : List V, ws.length = 3 → N.rt (.ut ws [.ol xa, .fz d1, .fz d2]) (ρ.set a none)) (fun x => N.ex x ρ)) (fun x => N.ex x ρ)
theorem sim_retU1 {a : Nat} {t1 t2 : TE} {e1 e2 : AE} (ha : noPar c a = true) (h1 : SimE c t1 e1) (h2 : SimE c t2 e2) :
    SimS c (tRet (tTup (tCons (tVar a) (tCons t1 (tCons t2 tNil))))) (aRetU1 a e1 e2) := fun U H σ ρ N n hx I z P => by
  unfold aRetU1 at z
  obtain ⟨xa, ea, z⟩ := olQ_of z
  rw [hx] at z
  obtain ⟨pa, _, sa, _, _⟩ := ol_at I ea
  refine ⟨.ref pa, sa, ?_⟩
  refine h1 U H σ ρ _ _ I z fun U1 H1 d1 v1 g1 I1 r1 z1 => ?_
  refine h2 U1 H1 σ ρ _ _ I1 z1 fun U2 H2 d2 v2 g2 I2 r2 z2 => ?_
  refine ⟨le_size (Nat.le_of_ble_eq_true rfl), fun p np => ?_⟩
  have g4 : Gr [] U2 H2 (upd U2 p (.tup [.ref pa, v1, v2])) (upd H2 p (.tup [.ref pa, v1, v2])) := (Gr.refl I2.vh).new np
  have I4 := I2.grow g4
  obtain ⟨pa', ya, sa', ha1, ha2⟩ := ol_at I4 ea
  rw [sa] at sa'
  cases sa'
  have s14 : Same U1 (upd U2 p (.tup [.ref pa, v1, v2])) := g2.vv.trans g4.vv
  have ma : pa ∈ own (.ol xa) (.ref pa) := List.mem_singleton.mpr rfl
  have fa : pa ∉ owns (ρ.set a none) σ := own_unset I4.nd ea sa pa ma
  refine P.rt _ _ σ (ρ.set a none) (.ut [.ref pa, v1, v2] [.ol xa, .fz d1, .fz d2]) (.ref p) (I4.unset a ha)
    ⟨p, rfl, SqT.of upd_same, ⟨_, _, rfl, ⟨pa, ya, rfl, ha1, ha2⟩, ⟨_, _, rfl, R.mono s14 _ _ r1, ⟨_, _, rfl, R.mono g4.vv _ _ r2, rfl⟩⟩⟩⟩ ?_ (fun q hq => ?_) (z2 _ rfl)
  · have eo : own (.ut [.ref pa, v1, v2] [.ol xa, .fz d1, .fz d2]) (.ref p) = [pa] := by cases v1 <;> cases v2 <;> rfl
    rw [eo]
    simp
  · have eo : own (.ut [.ref pa, v1, v2] [.ol xa, .fz d1, .fz d2]) (.ref p) = [pa] := by cases v1 <;> cases v2 <;> rfl
    rw [eo] at hq
    rw [List.mem_singleton.mp hq]
    exact ⟨(I4.out pa (mem_owns ea sa pa ma)).1, I4.nw a _ _ ha ea sa pa ma, fa⟩
theorem w_retU1 {a : Nat} {e1 e2 : AE} {xa : List D} {nx bk ct : Env → Prop} {rt : AV → Env → Prop} {ex : Exn → Env → Prop} (ha : ρ[a]? = some (some (.ol xa)))
    (q : e1 ρ (fun d1 => e2 ρ (fun d2 => ∀ ws : List V, ws.length = 3 → rt (.ut ws [.ol xa, .fz d1, .fz d2]) (ρ.set a none)) (fun x => ex x ρ)) (fun x => ex x ρ)) : aRetU1 a e1 e2 ⟨nx, rt, bk, ct, ex⟩ ρ := w_olQ ha q
/-- x, e, f = such a tuple -/
def u1Q (Q : List D → D → D → Prop) : AV → Prop
  | .ut _ [.ol xs, .fz d, .fz e] => Q xs d e
  | _ => False
theorem u1Q_of {Q : List D → D → D → Prop} {av : AV} (h : u1Q Q av) : ∃ ws xs d e, av = .ut ws [.ol xs, .fz d, .fz e] ∧ Q xs d e := by
  unfold u1Q at h
  split at h
  · exact ⟨_, _, _, _, rfl, h⟩
  · exact h.elim
def aAsgU1 (i j k : Nat) (o : AO) : AS := fun N ρ => o ρ (u1Q fun xs d e => N.nx (((ρ.set i (some (.ol xs))).set j (some (.fz d))).set k (some (.fz e)))) (fun x => N.ex x ρ)
theorem sim_asgU1 {i j k : Nat} {t : TE} {o : AO} (hi : noPar c i = true) (hj : noPar c j = true) (hk : noPar c k = true) (h : SimO c t o) : SimS c (tAsg t (gTup c.K 3 (gCons (gName i) (gCons (gName j) (gCons (gName k) gNil))))) (aAsgU1 i j k o) := fun U H σ ρ N n hx I z P => by
  unfold aAsgU1 at z
  rw [hx] at z
  refine h U H σ ρ _ _ I z fun U1 H1 av v g1 I1 r1 n1 z1 => ?_
  obtain ⟨ws, xs, d, e, rfl, z2⟩ := u1Q_of z1
  obtain ⟨p, rfl, hq, ⟨w0, _, rfl, r0, ⟨w1, _, rfl, rd, ⟨w2, _, rfl, re, rfl⟩⟩⟩⟩ := r1
  obtain ⟨q, ys, rfl, hp, hr⟩ := r0
  have n2 := n1.out q (List.mem_append_left _ (List.mem_singleton.mpr rfl))
  refine ⟨p, _, rfl, Same.tup I1.vh hq, rfl, ?_⟩
  have I2 := I1.setO (i := i) (av := .ol xs) (v := .ref q) ⟨q, ys, rfl, hp, hr⟩ (by show [q].Nodup; simp) (fun b hb => by
    rw [List.mem_singleton.mp hb]
    exact ⟨n2.1, I.gr.fresh n2.2, fun z => I.ex q z n2.2⟩) hi
  exact ⟨_, _, rfl, _, _, rfl, _, _, rfl, rfl, P.nx U1 H1 _ _ g1.vv ((I2.setF rd hj).setF re hk) z2⟩
theorem w_asgU1 {i j k : Nat} {o : AO} {nx bk ct : Env → Prop} {rt : AV → Env → Prop} {ex : Exn → Env → Prop} (q : o ρ (u1Q fun xs d e => nx (((ρ.set i (some (.ol xs))).set j (some (.fz d))).set k (some (.fz e)))) (fun x => ex x ρ)) : aAsgU1 i j k o ⟨nx, rt, bk, ct, ex⟩ ρ := q
theorem w_u1Q {Q : List D → D → D → Prop} {ws : List V} {xs : List D} {d e : D} (q : Q xs d e) : u1Q Q (.ut ws [.ol xs, .fz d, .fz e]) := q
end
end SW
open PySem L2 SW
local macro_rules | `(tactic| walk_at "sw1") => `(tactic| first
  | with_reducible refine i_seq ?_
  | with_reducible refine i_set ?_
  | with_reducible refine i_asg ?_
  | with_reducible refine i_var rfl ?_
  | with_reducible refine i_c ?_
  | with_reducible refine i_op ?_
  | with_reducible refine i_rI0 ?_
  | with_reducible refine i_cons ?_
  | with_reducible refine i_nil ?_
  | with_reducible refine i_call ?_
  | with_reducible refine i_cb ?_
  | with_reducible refine i_if ?_
  | with_reducible refine i_test ?_
  | with_reducible refine i_B ?_
  | with_reducible refine i_bl ?_
  | with_reducible refine i_blV ?_
  | with_reducible refine i_itT ?_
  | with_reducible refine i_itF ?_
  | with_reducible refine i_iteNT ?_
  | with_reducible refine i_iteNF ?_
  | with_reducible refine i_iteNN ?_
  | with_reducible refine i_ret ?_
  | with_reducible refine i_drop ?_
  | with_reducible refine i_next ?_
  | with_reducible refine i_un ?_
  | with_reducible refine i_rU ?_
  | with_reducible refine i_eqI ?_
  | with_reducible refine i_neI ?_
  | with_reducible refine i_eqS ?_
  | with_reducible refine i_neS ?_
  | with_reducible refine i_not ?_
  | with_reducible refine i_and ?_
  | with_reducible refine i_or ?_
  | with_reducible refine i_andV ?_
  | with_reducible refine i_orV ?_
  | with_reducible refine i_notV ?_
  | with_reducible refine i_ifE ?_
  | with_reducible refine i_chain ?_
  | with_reducible refine i_sub ?_
  | with_reducible refine i_lst ?_
  | with_reducible refine i_tup ?_
  | with_reducible refine i_for1 ?_
  | with_reducible refine i_for2 ?_
  | with_reducible refine i_for3 ?_
  | with_reducible refine i_forL ?_
  | with_reducible refine i_forT ?_
  | with_reducible refine i_lc1 ?_
  | with_reducible refine i_lc2 ?_
  | with_reducible refine i_lcL ?_
  | with_reducible refine i_lcT ?_
  | with_reducible refine i_gname ?_
  | with_reducible refine i_yes ?_
  | with_reducible refine i_callN ?_
  | with_reducible refine i_callW ?_
  | with_reducible refine i_callS ?_
  | with_reducible refine i_par ?_
  | with_reducible refine i_sl ?_
  | with_reducible refine i_nopart ?_
  | with_reducible refine i_part ?_
  | with_reducible refine i_partE ?_
  | with_reducible refine i_parE ?_
  | with_reducible refine i_ipI ?_
  | with_reducible refine i_asg2 ?_
  | with_reducible refine i_gcons ?_
  | with_reducible refine i_gnil ?_
  | with_reducible refine i_retN ?_
  | with_reducible refine i_brk ?_
  | with_reducible refine i_cont ?_)
local macro_rules | `(tactic| walk_at "hp") => `(tactic| first | assumption | exact upd_same | (refine upd_get (by assumption) ?_; walk_at "hp") | ((rw [upd_ne (by assumption)]); walk_at "hp"))
local macro_rules | `(tactic| walk_at "cc") => `(tactic| first | omega | decide | exact ⟨by decide, by decide⟩ | exact ⟨by omega, by omega⟩ | exact ⟨by decide, by decide, by decide⟩ | exact Or.inr ⟨by decide, by decide⟩ | exact Or.inl ⟨by decide, by decide⟩ | exact Or.inr ⟨by omega, by omega⟩ | exact Or.inl ⟨by omega, by omega⟩ | assumption)
local macro_rules | `(tactic| walk_at "sw2") => `(tactic| first
  | walk_at "sw1"
  | ((with_reducible refine' i_rI ?c1 ?_); (case c1 => (dsimp only; walk_at "cc")))
  | ((with_reducible refine' i_rI ?c1 ?_); (case c1 => (walk_at "cc")))
  | ((with_reducible refine' i_ixL ?c1 ?c2 ?_); (case c1 => walk_at "hp"); (case c2 => exact rfl))
  | ((with_reducible refine' i_ixT ?c1 ?c2 ?_); (case c1 => walk_at "hp"); (case c2 => exact rfl))
  | with_reducible refine i_isI ?_
  | with_reducible refine i_isB ?_
  | with_reducible refine i_isBB ?_
  | ((with_reducible refine' i_isL ?c1 ?_); (case c1 => walk_at "hp"))
  | ((with_reducible refine' i_isT ?c1 ?_); (case c1 => walk_at "hp"))
  | ((with_reducible refine' i_setL ?c1 ?c2 ?_); (case c1 => walk_at "hp"); (case c2 => exact rfl))
  | ((with_reducible refine' i_rI ?c1 ?_); (case c1 => first | (apply_assumption; done) | exact wide_div (b := 200) (by omega) (by omega) (by decide) (by decide)))
  | ((with_reducible refine' Exists.intro _ (Exists.intro _ (And.intro rfl (And.intro (Or.inl (SqL.of ?c1)) ?_)))); (case c1 => walk_at "hp"))
  | ((with_reducible refine' Exists.intro _ (Exists.intro _ (And.intro rfl (And.intro (Or.inr (SqT.of ?c1)) ?_)))); (case c1 => walk_at "hp"))
  | ((with_reducible refine' Exists.intro _ (And.intro (rfl : [V.int _] = [V.int _]) ?_)))
  | ((with_reducible refine' Exists.intro _ (Exists.intro _ (And.intro (rfl : [V.int _, V.int _] = [V.int _, V.int _]) ?_))))
  | (with_reducible refine And.intro (Nat.le_of_ble_eq_true rfl : List.length _ ≤ sizeLine) ?_))
local macro_rules | `(tactic| walk_at "sw3") => `(tactic| first
  | walk_at "sw2"
  | with_reducible refine i_fld ?_
  | ((with_reducible refine' i_fldI ?c1 ?c2 ?c3 ?c4 ?_); (case c1 => walk_at "hp"); (case c2 => assumption); (case c3 => assumption); (case c4 => exact rfl))
  | with_reducible refine i_sfld ?_
  | ((with_reducible refine' i_sfldI ?c1 ?c2 ?c3 ?c4 ?c5 ?_); (case c1 => walk_at "hp"); (case c2 => assumption); (case c3 => assumption); (case c4 => exact rfl); (case c5 => exact (Nat.le_of_ble_eq_true rfl)))
  | with_reducible refine i_meS ?_
  | with_reducible refine i_meth ?_
  | ((with_reducible refine' i_recv ?c1 ?c2 ?_); (case c1 => walk_at "hp"); (case c2 => exact rfl))
  | with_reducible refine i_mkS ?_
  | with_reducible refine i_mkNS ?_
  | with_reducible refine i_callNS ?_
  | with_reducible refine i_callSD ?_
  | with_reducible refine i_forE ?_
  | with_reducible refine i_forZ ?_
  | with_reducible refine i_lcE ?_
  | with_reducible refine i_lcZ ?_
  | ((with_reducible refine' i_aug ?c1 ?_); (case c1 => exact rfl))
  | with_reducible refine And.intro (rfl : V.non = V.non) ?_
  | with_reducible refine i_bm ?_
  | with_reducible refine i_bm0 ?_
  | ((with_reducible refine' i_lenL ?c1 ?_); (case c1 => walk_at "hp"))
  | ((with_reducible refine' i_lenT ?c1 ?_); (case c1 => walk_at "hp"))
  | ((with_reducible refine' i_listL ?c1 ?_); (case c1 => walk_at "hp"))
  | ((with_reducible refine' i_listT ?c1 ?_); (case c1 => walk_at "hp"))
  | ((with_reducible refine' i_tupleL ?c1 ?_); (case c1 => walk_at "hp"))
  | ((with_reducible refine' i_tupleT ?c1 ?_); (case c1 => walk_at "hp"))
  | ((with_reducible refine' i_tyL ?c1 ?_); (case c1 => walk_at "hp"))
  | ((with_reducible refine' i_app ?c1 ?c2 ?_); (case c1 => walk_at "hp"); (case c2 => first | assumption | omega | (simp; done) | ((simp only [List.length_map, List.length_append, List.length_take]); omega)))
  | ((with_reducible refine' i_slL ?c1 ?_); (case c1 => walk_at "hp"))
  | ((with_reducible refine' i_gtup ?c1 ?c2 ?_); (case c1 => walk_at "hp"); (case c2 => exact rfl)))
local macro_rules | `(tactic| walk_at "sw") => `(tactic| ((try dsimp only); repeat walk_at "sw3"))
local macro_rules | `(tactic| walk_at "arr") => `(tactic| (intro vs zs h; first
  | (match zs, h with | [_], _ => rfl)
  | (match zs, h with | [_, _], _ => rfl)
  | (match zs, h with | [_, _, _], _ => rfl)
  | (match zs, h with | [_, _, _, _], _ => rfl)))
local macro_rules | `(tactic| walk_at "aw1") => `(tactic| first
  | ((with_reducible refine' w_sealL ?c1 ?_); (case c1 => exact rfl))
  | ((with_reducible refine' w_sealF ?c1 ?_); (case c1 => exact rfl))
  | ((with_reducible refine' w_callQ ?c1 ?c2 ?_); (case c1 => exact (Nat.le_of_ble_eq_true rfl)); (case c2 => exact rfl))
  | ((with_reducible refine' w_oIC ?c1 ?_); (case c1 => (dsimp only; walk_at "cc")))
  | ((with_reducible refine' w_oIC ?c1 ?_); (case c1 => walk_at "cc"))
  | ((with_reducible refine' w_isiT ?c1 ?c2 ?c3 ?_); (case c1 => exact rfl); (case c2 => decide); (case c3 => decide))
  | ((with_reducible refine' w_isiF ?c1 ?c2 ?c3 ?_); (case c1 => exact rfl); (case c2 => decide); (case c3 => decide))
  | (with_reducible refine And.intro (Nat.le_of_ble_eq_true rfl : List.length _ ≤ 1000000) ?_)
  | (with_reducible refine And.intro (Nat.le_of_ble_eq_true rfl : List.length _ < 1000000) ?_))
local macro_rules | `(tactic| walk_at "am1") => `(tactic| first
  | ((with_reducible refine' m_appN ?c1 ?_); (case c1 => exact rfl))
  | ((with_reducible refine' m_callM ?c1 ?c2 ?_); (case c1 => exact rfl); (case c2 => exact rfl))
  | ((with_reducible refine' w_obfQ ?c1 ?c2 ?c3 ?_); (case c1 => exact rfl); (case c2 => exact rfl); (case c3 => exact rfl))
  | ((with_reducible refine' w_fldS ?c1 ?c2 ?c3 ?c4 ?_); (case c1 => exact rfl); (case c2 => exact rfl); (case c3 => exact rfl); (case c4 => exact rfl))
  | ((with_reducible refine' w_lcD ?c1 ?c2 ?c3 ?_); (case c1 => exact rfl); (case c2 => exact rfl); (case c3 => exact rfl))
  | ((with_reducible refine' m_me ?c1 ?c2 ?_); (case c1 => exact rfl); (case c2 => exact rfl))
  | ((with_reducible refine' m_me0 ?c1 ?c2 ?_); (case c1 => exact rfl); (case c2 => exact rfl))
  | ((with_reducible refine' m_meN0 ?c1 ?c2 ?_); (case c1 => exact rfl); (case c2 => exact rfl))
  | ((with_reducible refine' m_lenOwn ?c1 ?_); (case c1 => exact rfl))
  | ((with_reducible refine' m_meD0 ?c1 ?c2 ?_); (case c1 => exact rfl); (case c2 => exact rfl)))
local macro_rules | `(tactic| walk_at "aw0") => `(tactic| first
  | with_reducible refine Stp.go ?_
  | ((with_reducible refine' St1.go _ ?c1 ?_); (case c1 => exact rfl))
  | ((with_reducible refine' St0.go ?c1 ?_); (case c1 => exact rfl))
  | ((with_reducible refine' St2.go _ _ ?c1 ?c2 ?_); (case c1 => exact rfl); (case c2 => first | exact rfl | exact trivial)))
local macro_rules | `(tactic| walk_at "aw") => `(tactic| ((repeat (first | walk_at "aw0" | walk_at "aw1" | walk_at "am1")); (try dsimp only [List.set_cons_zero, List.set_cons_succ])))
local macro_rules | `(tactic| walk_at "rg") => `(tactic| ((try rw [List.length_map]); (refine ⟨⟨by omega, by omega⟩, ?_⟩); (rw [Int.toNat_natCast])))
local macro_rules | `(tactic| walk_at "awt") => `(tactic| (repeat (first | walk_at "aw0" | walk_at "aw1" | walk_at "am1" | ((with_reducible refine' w_catT ?c1 ?_); (case c1 => exact Nat.le_of_ble_eq_true rfl)) | ((with_reducible refine' w_ixT ?c1 ?_); (case c1 => exact rfl)))))
local macro_rules | `(tactic| walk_at "kbr") => `(tactic| (repeat' (first | exact trivial | exact fun _ => rfl | exact fun U => ⟨_, _, rfl, by first | exact (by assumption : ∀ H : Hp, SqT _ H _ _) U | assumption, rfl⟩ | refine And.intro ?_ ?_)))
local macro_rules | `(tactic| walk_at "drs") => `(tactic| first
  | exact fun _ => ⟨_, _, rfl, rfl, rfl⟩
  | exact fun U => ⟨_, _, rfl, rfl, _, _, rfl, ⟨_, _, rfl, (by assumption : ∀ H : Hp, SqT _ H _ _) U, rfl⟩, rfl⟩)
local macro_rules | `(tactic| walk_at "hnds") => `(tactic| (repeat' first
  | exact HndsR.nil
  | (refine HndsR.named rfl rfl (fun a D o => ?_) ?_)
  | (refine HndsR.only (fun a D o => ?_) ?_)))
local macro_rules | `(tactic| walk_at "am1") => `(tactic| first
  | ((with_reducible refine' w_try ?c1 ?c2 ?_); (case c1 => exact rfl); (case c2 => exact rfl)))
local macro_rules | `(tactic| walk_at "am1") => `(tactic| first
  | ((with_reducible refine' w_fldE ?c1 ?c2 ?c3 ?_); (case c1 => exact rfl); (case c2 => exact rfl); (case c3 => exact rfl))
  | ((with_reducible refine' w_appLF ?c1 ?c2 ?c3 ?_); (case c1 => exact rfl); (case c2 => exact rfl); (case c3 => exact rfl)))
namespace SW
open PySem L2
variable [QN]
def top (i : Nat) : Stmt := PySem.Challenge.pw_slotwright_k39_whole_clocks_in_slack.main.body.getD i (.Pass ⟨0, 0, 0, 0⟩)
abbrev s_within : Stmt := top 6
abbrev s_check : Stmt := top 7
abbrev s_middle : Stmt := top 13
abbrev s_slack_of : Stmt := top 14
abbrev s_plain : Stmt := top 15
abbrev s_Clocks_init : Stmt := inClass (top 16) 0
abbrev s_Clocks_fall : Stmt := inClass (top 16) 1
abbrev s_Clocks_rise : Stmt := inClass (top 16) 2
abbrev s_Clocks_judge_word : Stmt := inClass (top 16) 3
abbrev s_Clocks_judge : Stmt := inClass (top 16) 4
abbrev s_Clocks_turn : Stmt := inClass (top 16) 5
abbrev s_Clocks_told : Stmt := inClass (top 16) 6
abbrev s_Clocks_width : Stmt := inClass (top 16) 7
abbrev s_law_start : Stmt := top 18
abbrev s_law_draw : Stmt := top 19
abbrev s_law_whole : Stmt := top 20
abbrev s_law_heard : Stmt := top 21
abbrev s_law_middle : Stmt := top 22
abbrev s_law_clocks : Stmt := top 23
abbrev s_law_change : Stmt := top 24
abbrev s_law_turn : Stmt := top 25
abbrev s_law : Stmt := top 26
theorem sc_within : FnScope ["value", "low", "high"] ["value", "low", "high"] (defScope s_within) := ⟨rfl, rfl, rfl, by decide +kernel, rfl, by decide +kernel, by decide +kernel⟩
theorem sc_check : FnScope ["value", "low", "high"] ["value", "low", "high"] (defScope s_check) := ⟨rfl, rfl, rfl, by decide +kernel, rfl, by decide +kernel, by decide +kernel⟩
theorem sc_middle : FnScope ["numbers", "inner"] ["numbers"] (defScope s_middle) := ⟨rfl, rfl, rfl, by decide +kernel, rfl, by decide +kernel, by decide +kernel⟩
theorem sc_slack_of : FnScope ["err", "gain"] ["err", "gain"] (defScope s_slack_of) := ⟨rfl, rfl, rfl, by decide +kernel, rfl, by decide +kernel, by decide +kernel⟩
theorem sc_plain : FnScope ["value"] ["value"] (defScope s_plain) := ⟨rfl, rfl, rfl, by decide +kernel, rfl, by decide +kernel, by decide +kernel⟩
theorem sc_Clocks_init : FnScope ["self", "stands", "err", "gain", "stand"] ["self", "stands", "err", "gain"] (defScope s_Clocks_init) := ⟨rfl, rfl, rfl, by decide +kernel, rfl, by decide +kernel, by decide +kernel⟩
theorem sc_Clocks_fall : FnScope ["self", "at", "one"] ["self", "at"] (defScope s_Clocks_fall) := ⟨rfl, rfl, rfl, by decide +kernel, rfl, by decide +kernel, by decide +kernel⟩
theorem sc_Clocks_rise : FnScope ["self", "at"] ["self", "at"] (defScope s_Clocks_rise) := ⟨rfl, rfl, rfl, by decide +kernel, rfl, by decide +kernel, by decide +kernel⟩
theorem sc_Clocks_judge_word : FnScope ["self", "word", "at"] ["self", "word", "at"] (defScope s_Clocks_judge_word) := ⟨rfl, rfl, rfl, by decide +kernel, rfl, by decide +kernel, by decide +kernel⟩
theorem sc_Clocks_judge : FnScope ["self", "heard", "gains", "count", "at", "other", "word"] ["self", "heard", "gains"] (defScope s_Clocks_judge) := ⟨rfl, rfl, rfl, by decide +kernel, rfl, by decide +kernel, by decide +kernel⟩
theorem sc_Clocks_turn : FnScope ["self", "heard", "gains", "found", "at", "word", "one"] ["self", "heard", "gains"] (defScope s_Clocks_turn) := ⟨rfl, rfl, rfl, by decide +kernel, rfl, by decide +kernel, by decide +kernel⟩
theorem sc_Clocks_told : FnScope ["self", "stand", "one"] ["self"] (defScope s_Clocks_told) := ⟨rfl, rfl, rfl, by decide +kernel, rfl, by decide +kernel, by decide +kernel⟩
theorem sc_Clocks_width : FnScope ["self", "good", "stand"] ["self"] (defScope s_Clocks_width) := ⟨rfl, rfl, rfl, by decide +kernel, rfl, by decide +kernel, by decide +kernel⟩
theorem sc_law_start : FnScope ["_law_script"] ["_law_script"] (defScope s_law_start) := ⟨rfl, rfl, rfl, by decide +kernel, rfl, by decide +kernel, by decide +kernel⟩
theorem sc_law_draw : FnScope ["_law_s", "_law_many", "_law_cell", "_law_found"] ["_law_s", "_law_many"] (defScope s_law_draw) := ⟨rfl, rfl, rfl, by decide +kernel, rfl, by decide +kernel, by decide +kernel⟩
theorem sc_law_whole : FnScope ["_law_x"] ["_law_x"] (defScope s_law_whole) := ⟨rfl, rfl, rfl, by decide +kernel, rfl, by decide +kernel, by decide +kernel⟩
theorem sc_law_heard : FnScope ["_law_s", "_law_stands", "_law_good", "_law_fault", "_law_hears", "_law_heard_here", "_law_at"] ["_law_s", "_law_stands", "_law_good", "_law_fault", "_law_hears"] (defScope s_law_heard) := ⟨rfl, rfl, rfl, by decide +kernel, rfl, by decide +kernel, by decide +kernel⟩
theorem sc_law_middle : FnScope ["_law_words", "_law_rest", "_law_word"] ["_law_words"] (defScope s_law_middle) := ⟨rfl, rfl, rfl, by decide +kernel, rfl, by decide +kernel, by decide +kernel⟩
theorem sc_law_clocks : FnScope ["_law_s", "_law_fault", "_law_more", "_law_base", "_law_stands", "_law_k"] ["_law_s"] (defScope s_law_clocks) := ⟨rfl, rfl, rfl, by decide +kernel, rfl, by decide +kernel, by decide +kernel⟩
theorem sc_law_change : FnScope ["_law_s", "_law_clocks_here", "_law_state", "_law_bad", "_law_at"] ["_law_s", "_law_clocks_here", "_law_state"] (defScope s_law_change) := ⟨rfl, rfl, rfl, by decide +kernel, rfl, by decide +kernel, by decide +kernel⟩
theorem sc_law_turn : FnScope ["_law_s", "_law_clocks_here", "_law_stands", "_law_state", "_law_fault", "_law_more", "_law_good", "_law_heard_here", "_law_gains", "_law_at", "_law_text", "_law_one"] ["_law_s", "_law_clocks_here", "_law_stands", "_law_state", "_law_fault", "_law_more"] (defScope s_law_turn) := ⟨rfl, rfl, rfl, by decide +kernel, rfl, by decide +kernel, by decide +kernel⟩
theorem sc_law : FnScope ["_law_script", "_law_s", "_law_first", "_law_fault", "_law_more", "_law_stands", "_law_clocks_here", "_law_state", "_law_turn_here", "_law_due", "_law_good", "_law_found", "_law_wide", "_law_one", "_law_at"] ["_law_script"] (defScope s_law) := ⟨rfl, rfl, rfl, by decide +kernel, rfl, by decide +kernel, by decide +kernel⟩
structure Tx (K : PySem.W.Frag) (mg : Str → Option Value) (base : Heap) where
  tb : List Addr
  c_Clocks : Addr
  g_Clocks : mg "Clocks" = some (.ref c_Clocks)
  C_Clocks : Cls K c_Clocks
  N_Clocks_stands : NoAttr K c_Clocks "stands"
  N_Clocks_state : NoAttr K c_Clocks "state"
  N_Clocks_err : NoAttr K c_Clocks "err"
  N_Clocks_gain : NoAttr K c_Clocks "gain"
  f_within : Addr
  fd_within : FuncData
  F_within : Fun K "within" "within" s_within f_within fd_within
  b_within : Binds K fd_within ["value", "low", "high"] []
  g_within : mg "within" = some (.ref f_within)
  f_check : Addr
  fd_check : FuncData
  F_check : Fun K "check" "check" s_check f_check fd_check
  b_check : Binds K fd_check ["value", "low", "high"] []
  g_check : mg "check" = some (.ref f_check)
  f_middle : Addr
  fd_middle : FuncData
  F_middle : Fun K "middle" "middle" s_middle f_middle fd_middle
  b_middle : Binds K fd_middle ["numbers"] []
  g_middle : mg "middle" = some (.ref f_middle)
  f_slack_of : Addr
  fd_slack_of : FuncData
  F_slack_of : Fun K "slack_of" "slack_of" s_slack_of f_slack_of fd_slack_of
  b_slack_of : Binds K fd_slack_of ["err", "gain"] []
  g_slack_of : mg "slack_of" = some (.ref f_slack_of)
  f_plain : Addr
  fd_plain : FuncData
  F_plain : Fun K "plain" "plain" s_plain f_plain fd_plain
  b_plain : Binds K fd_plain ["value"] []
  g_plain : mg "plain" = some (.ref f_plain)
  f_Clocks_init : Addr
  fd_Clocks_init : FuncData
  F_Clocks_init : Fun K "__init__" "Clocks.__init__" s_Clocks_init f_Clocks_init fd_Clocks_init
  D_Clocks_init : FunD K "__init__" "Clocks.__init__" (defArgs s_Clocks_init) (defBody s_Clocks_init) (defScope s_Clocks_init) [] [("err", V.int 0), ("gain", V.int 0)] f_Clocks_init fd_Clocks_init
  m_Clocks_init : Meth K c_Clocks "__init__" f_Clocks_init
  f_Clocks_fall : Addr
  fd_Clocks_fall : FuncData
  F_Clocks_fall : Fun K "fall" "Clocks.fall" s_Clocks_fall f_Clocks_fall fd_Clocks_fall
  b_Clocks_fall : Binds K fd_Clocks_fall ["self", "at"] []
  m_Clocks_fall : Meth K c_Clocks "fall" f_Clocks_fall
  f_Clocks_rise : Addr
  fd_Clocks_rise : FuncData
  F_Clocks_rise : Fun K "rise" "Clocks.rise" s_Clocks_rise f_Clocks_rise fd_Clocks_rise
  b_Clocks_rise : Binds K fd_Clocks_rise ["self", "at"] []
  m_Clocks_rise : Meth K c_Clocks "rise" f_Clocks_rise
  f_Clocks_judge_word : Addr
  fd_Clocks_judge_word : FuncData
  F_Clocks_judge_word : Fun K "judge_word" "Clocks.judge_word" s_Clocks_judge_word f_Clocks_judge_word fd_Clocks_judge_word
  b_Clocks_judge_word : Binds K fd_Clocks_judge_word ["self", "word", "at"] []
  m_Clocks_judge_word : Meth K c_Clocks "judge_word" f_Clocks_judge_word
  f_Clocks_judge : Addr
  fd_Clocks_judge : FuncData
  F_Clocks_judge : Fun K "judge" "Clocks.judge" s_Clocks_judge f_Clocks_judge fd_Clocks_judge
  b_Clocks_judge : Binds K fd_Clocks_judge ["self", "heard", "gains"] []
  m_Clocks_judge : Meth K c_Clocks "judge" f_Clocks_judge
  f_Clocks_turn : Addr
  fd_Clocks_turn : FuncData
  F_Clocks_turn : Fun K "turn" "Clocks.turn" s_Clocks_turn f_Clocks_turn fd_Clocks_turn
  b_Clocks_turn : Binds K fd_Clocks_turn ["self", "heard", "gains"] []
  m_Clocks_turn : Meth K c_Clocks "turn" f_Clocks_turn
  f_Clocks_told : Addr
  fd_Clocks_told : FuncData
  F_Clocks_told : Fun K "told" "Clocks.told" s_Clocks_told f_Clocks_told fd_Clocks_told
  b_Clocks_told : Binds K fd_Clocks_told ["self"] []
  m_Clocks_told : Meth K c_Clocks "told" f_Clocks_told
  f_Clocks_width : Addr
  fd_Clocks_width : FuncData
  F_Clocks_width : Fun K "width" "Clocks.width" s_Clocks_width f_Clocks_width fd_Clocks_width
  b_Clocks_width : Binds K fd_Clocks_width ["self"] []
  m_Clocks_width : Meth K c_Clocks "width" f_Clocks_width
  f_law_start : Addr
  fd_law_start : FuncData
  F_law_start : Fun K "_law_start" "_law_start" s_law_start f_law_start fd_law_start
  b_law_start : Binds K fd_law_start ["_law_script"] []
  g_law_start : mg "_law_start" = some (.ref f_law_start)
  f_law_draw : Addr
  fd_law_draw : FuncData
  F_law_draw : Fun K "_law_draw" "_law_draw" s_law_draw f_law_draw fd_law_draw
  b_law_draw : Binds K fd_law_draw ["_law_s", "_law_many"] []
  g_law_draw : mg "_law_draw" = some (.ref f_law_draw)
  f_law_whole : Addr
  fd_law_whole : FuncData
  F_law_whole : Fun K "_law_whole" "_law_whole" s_law_whole f_law_whole fd_law_whole
  b_law_whole : Binds K fd_law_whole ["_law_x"] []
  g_law_whole : mg "_law_whole" = some (.ref f_law_whole)
  f_law_heard : Addr
  fd_law_heard : FuncData
  F_law_heard : Fun K "_law_heard" "_law_heard" s_law_heard f_law_heard fd_law_heard
  b_law_heard : Binds K fd_law_heard ["_law_s", "_law_stands", "_law_good", "_law_fault", "_law_hears"] []
  g_law_heard : mg "_law_heard" = some (.ref f_law_heard)
  f_law_middle : Addr
  fd_law_middle : FuncData
  F_law_middle : Fun K "_law_middle" "_law_middle" s_law_middle f_law_middle fd_law_middle
  b_law_middle : Binds K fd_law_middle ["_law_words"] []
  g_law_middle : mg "_law_middle" = some (.ref f_law_middle)
  f_law_clocks : Addr
  fd_law_clocks : FuncData
  F_law_clocks : Fun K "_law_clocks" "_law_clocks" s_law_clocks f_law_clocks fd_law_clocks
  b_law_clocks : Binds K fd_law_clocks ["_law_s"] []
  g_law_clocks : mg "_law_clocks" = some (.ref f_law_clocks)
  f_law_change : Addr
  fd_law_change : FuncData
  F_law_change : Fun K "_law_change" "_law_change" s_law_change f_law_change fd_law_change
  b_law_change : Binds K fd_law_change ["_law_s", "_law_clocks_here", "_law_state"] []
  g_law_change : mg "_law_change" = some (.ref f_law_change)
  f_law_turn : Addr
  fd_law_turn : FuncData
  F_law_turn : Fun K "_law_turn" "_law_turn" s_law_turn f_law_turn fd_law_turn
  b_law_turn : Binds K fd_law_turn ["_law_s", "_law_clocks_here", "_law_stands", "_law_state", "_law_fault", "_law_more"] []
  g_law_turn : mg "_law_turn" = some (.ref f_law_turn)
  f_law : Addr
  fd_law : FuncData
  F_law : Fun K "law" "law" s_law f_law fd_law
  b_law : Binds K fd_law ["_law_script"] []
  g_law : mg "law" = some (.ref f_law)
  M_Clocks : Mk K c_Clocks f_Clocks_init
  t_FALLEN : Tok
  g_FALLEN : mg "FALLEN" = some (.int 1 t_FALLEN)
  t_GOOD : Tok
  g_GOOD : mg "GOOD" = some (.int 0 t_GOOD)
  t_LISTENS : Tok
  g_LISTENS : mg "LISTENS" = some (.int 2 t_LISTENS)
  t_MOST_CLOCKS : Tok
  g_MOST_CLOCKS : mg "MOST_CLOCKS" = some (.int 7 t_MOST_CLOCKS)
  z_abs : mg "abs" = none
  z_all : mg "all" = none
  z_any : mg "any" = none
  z_bool : mg "bool" = none
  z_enumerate : mg "enumerate" = none
  z_int : mg "int" = none
  z_isinstance : mg "isinstance" = none
  z_len : mg "len" = none
  z_list : mg "list" = none
  z_max : mg "max" = none
  z_min : mg "min" = none
  z_range : mg "range" = none
  z_repr : mg "repr" = none
  z_sorted : mg "sorted" = none
  z_zip : mg "zip" = none
  c_NetError : Addr
  g_NetError : mg "NetError" = some (.ref c_NetError)
  k_base : PySem.W.subIn K (.ref c_NetError) (.type "BaseException") = some true
  k_dict : PySem.W.hasDictIn K c_NetError = true
  k_type : PySem.W.typeIn K (.ref c_NetError) = some (.type "type")
  k_get : PySem.W.specialIn K (.builtin "object.__class__") "__get__" = some (some (.builtin "getset_descriptor.__get__"))
  k_tak : PySem.W.takesIn K (.builtin "object.__class__") = some true
  c_BadNumber : Addr
  g_BadNumber : mg "BadNumber" = some (.ref c_BadNumber)
  e_BadNumber : ErrC K c_BadNumber c_NetError
  x_BadNumber : PySem.W.excIn K c_BadNumber [.type "ValueError", .type "Exception", .type "BaseException", .type "object"] "ValueError.__new__" = true
  c_NoStep : Addr
  g_NoStep : mg "NoStep" = some (.ref c_NoStep)
  e_NoStep : ErrC K c_NoStep c_NetError
  x_NoStep : PySem.W.excIn K c_NoStep [.type "ValueError", .type "Exception", .type "BaseException", .type "object"] "ValueError.__new__" = true
  c_TooFew : Addr
  g_TooFew : mg "TooFew" = some (.ref c_TooFew)
  e_TooFew : ErrC K c_TooFew c_NetError
  x_TooFew : PySem.W.excIn K c_TooFew [.type "ValueError", .type "Exception", .type "BaseException", .type "object"] "ValueError.__new__" = true
  k_nd : [c_NetError, c_BadNumber, c_NoStep, c_TooFew].Nodup
theorem kb_Clocks_init_gain_err {K : PySem.W.Frag} {mg : Str → Option Value} {base : Heap} (T : Tx K mg base) : ∃ mv : List Value, KBn K T.fd_Clocks_init ["self", "stands", "err", "gain"] 2 ["gain", "err"] (fun us ws => us ++ (((ws.drop 1).take 1) ++ ((ws.drop 0).take 1))) (fun vs zs => vs ++ (((zs.drop 1).take 1) ++ ((zs.drop 0).take 1))) :=
  T.D_Clocks_init.kbinds0 2 ["gain", "err"] [] (fun vs mz zs => vs ++ (((zs.drop 1).take 1) ++ ((zs.drop 0).take 1))) (by intro z; cases z) (fun q h => by simp at h ⊢; try (rcases h with rfl | rfl | rfl | rfl <;> simp); try (subst h; simp)) (fun a b c => a.append (((c.drop 1).take 1).append ((c.drop 0).take 1))) (fun D doc pm an cdv ct us mv ws h1 h2 h3 => by
    match us, h1, mv, h2, ws, h3 with
    | [_, _], _, [], _, [_, _], _ => exact rfl)
def spLaw (K : PySem.W.Frag) (tb : List Addr) : Sp := fun vs H Q _ => ∃ (a : Addr) (ns : List Int), vs = [.ref a] ∧ SqL K H a (ns.map V.int) ∧ ns.length ≤ 63 ∧ (∀ z ∈ ns, Builtin.Int.intBits z ≤ 1048576) ∧ (∀ p ∈ tb, LamX.TabS H p (QN.qn p)) ∧ ∀ H', Q (.bl true) H'
section
variable {P : Program} {w : World} {K : PySem.W.Frag} {mg : Str → Option Value} {base : Heap}
theorem ok_law_start (T : Tx K mg base) : FnOk P w K mg base CX0 1 T.f_law_start T.fd_law_start ["_law_script"] (spStart K) := by
  refine T.F_law_start.ok sc_law_start (fun vs H Q E h => ?_) (fun cdv A outer s H vs Q E hr h => ?_)
  · obtain ⟨a, ns, U, rfl, _⟩ := h
    rfl
  · obtain ⟨a, ns, U, rfl, hS, hU, q⟩ := h
    refine ⟨_, (pss_one (ps_ret (pe_lst (pa_cons (pe_callTy (call_listK (K := K) rfl) (by rfl) T.z_list bt_list (pa_cons (pe_slice (sl_listK (K := K) rfl) (pv 0) po_none (po_some pe_int)) pa_nil)) (pa_cons pe_int (pa_cons pe_int (pa_cons pe_int pa_nil))))))), ?_⟩
    walk_at "sw"
    refine ⟨a, _, rfl, hS, fun c nc => ?_⟩
    obtain ⟨ms, em⟩ := cut63 ns
    rw [em]
    have g1 : Gr [] U H U (upd H c (.lst (ms.map V.int))) := (Gr.refl hU).newM nc
    walk_at "sw"
    intro l nl
    have g2 := g1.new (o := .lst (ms.map V.int)) nl
    walk_at "sw"
    intro s ns'
    have g3 := g2.newM (o := .lst [.ref l, .int 0, .int 0, .int 90210]) ns'
    refine q s _ _ g3 ⟨⟨l, ms, 0, 0, 90210, upd_same, upd_same, Int.le_refl _, by omega, Int.le_refl _⟩, g2.vh.free ns'⟩ (g2.fresh ns')
theorem okh_law_draw (T : Tx K mg base) : FnOk P w K mg base CX0 1 T.f_law_draw T.fd_law_draw ["_law_s", "_law_many"] spDraw := by
  refine T.F_law_draw.ok sc_law_draw (fun vs H Q E h => ?_) (fun cdv A outer s0 H vs Q E hr h => ?_)
  · obtain ⟨s, many, U, rfl, _⟩ := h
    rfl
  · obtain ⟨s, many, U, rfl, h0, h2, hU, D, q⟩ := h
    obtain ⟨⟨l, ns, i, b, e, hs, hl, hi, hi2, hb⟩, hn⟩ := D
    have hlU := hU _ _ hl
    have sl : s ≠ l := fun z => by
      subst z
      rw [hn] at hl
      cases hl
    refine ⟨_, (pss_cons (ps_if (pt_cmpR op_eq (pe_ix (ix_listK (K := K) rfl) (pv 0) pe_int (fun _ _ => rfl)) pe_int (nomark _))
      (pss_cons (ps_set (i := 2) sc_law_draw.nd rfl (Or.inl rfl) pe_int)
      (pss_cons (ps_if (pt_cmpR op_lt (pe_ix (ix_listK (K := K) rfl) (pv 0) pe_int (fun _ _ => rfl)) (pe_callB (call_lenK (K := K) rfl) (by rfl) T.z_len bt_len (pa_cons (pe_ix (ix_listK (K := K) rfl) (pv 0) pe_int (fun _ _ => rfl)) pa_nil)) (nomark _))
      (pss_cons (ps_set (i := 2) sc_law_draw.nd rfl (Or.inl rfl) (pe_ix (ix_listK (K := K) rfl) (pe_ix (ix_listK (K := K) rfl) (pv 0) pe_int (fun _ _ => rfl)) (pe_ix (ix_listK (K := K) rfl) (pv 0) pe_int (fun _ _ => rfl)) (fun _ _ => rfl)))
      (pss_one (ps_asg (pe_op op_add (pe_ix (ix_listK (K := K) rfl) (pv 0) pe_int (fun _ _ => rfl)) pe_int) (pg_sub (pv 0) pe_int set_list))))
      pss_nil)
      (pss_one (ps_if ((pw_or (pt_cmpR op_ge (pv 2) (pe_op op_pow pe_int pe_int) (nomark _)) (pw_or1 (pt_cmpR op_le (pv 2) (pe_un un_neg (pe_op op_pow pe_int pe_int)) (nomark _))))).pt
      (pss_one (ps_asg (pe_callB call_abs (by rfl) T.z_abs bt_abs (pa_cons (pv 2) pa_nil)) (pg_sub (pv 0) pe_int set_list)))
      (pss_cons (ps_asg (pe_op op_mod (pe_op op_add (pe_op op_add (pe_op op_mul (pe_ix (ix_listK (K := K) rfl) (pv 0) pe_int (fun _ _ => rfl)) pe_int) (pe_op op_mod (pv 2) pe_int)) pe_int) pe_int) (pg_sub (pv 0) pe_int set_list))
      (pss_one (ps_ret (pe_op op_mod (pe_op op_fdiv (pe_ix (ix_listK (K := K) rfl) (pv 0) pe_int (fun _ _ => rfl)) pe_int) (pv 1)))))))))
      pss_nil)
      (pss_cons (ps_set (i := 3) sc_law_draw.nd rfl (Or.inl rfl) (pe_op op_mod (pe_ix (ix_listK (K := K) rfl) (pv 0) pe_int (fun _ _ => rfl)) (pv 1)))
      (pss_cons (ps_asg (pe_op op_fdivW (pe_ix (ix_listK (K := K) rfl) (pv 0) pe_int (fun _ _ => rfl)) (pv 1)) (pg_sub (pv 0) pe_int set_list))
      (pss_one (ps_ret (pv 3)))))), ?_⟩
    have w3 : ∀ z : Int, CDivW z many := fun z => wide_div h0 (b := 200) (by omega) (by decide) (by decide)
    -- the end, from a heap that has changed at s alone
    have fin : ∀ (H1 : Hp) (i1 b1 e1 : Int) (r : Int), (∀ a, a ≠ s → H1 a = H a) → H1 s = some (.lst [.ref l, .int i1, .int b1, .int e1]) → 0 ≤ i1 → i1 ≤ ns.length → 0 ≤ b1 → 0 ≤ r → r < many → Q (.int r) H1 := by
      intro H1 i1 b1 e1 r ho h1 a1 a2 a3 a4 a5
      refine q r H1 a4 a5 (fun a o ha => ?_) ⟨⟨l, ns, i1, b1, e1, h1, hl, a1, a2, a3⟩, hn⟩ ho
      have ne : a ≠ s := fun z => by
        subst z
        rw [hn] at ha
        cases ha
      rw [ho a ne]
      exact hU a o ha
    have tail : ∀ (H1 : Hp) (i1 b1 e1 : Int), (∀ a, a ≠ s → H1 a = H a) → H1 s = some (.lst [.ref l, .int i1, .int b1, .int e1]) → 0 ≤ i1 → i1 ≤ ns.length → 0 ≤ b1 →
        Q (.int (b1 % many)) (upd H1 s (.lst [.ref l, .int i1, .int (b1 / many), .int e1])) := by
      intro H1 i1 b1 e1 ho h1 a1 a2 a3
      refine fin _ i1 (b1 / many) e1 _ (fun a ne => ?_) upd_same a1 a2 (Int.ediv_nonneg a3 (by omega)) (Int.emod_nonneg _ (by omega)) (Int.emod_lt_of_pos _ h0)
      rw [upd_ne ne]
      exact ho a ne
    have ab : ∀ c : Int, 0 ≤ (if c < 0 then -c else c) := fun c => by split <;> omega
    have md : ∀ c : Int, 0 ≤ c % many ∧ c % many < many := fun c => ⟨Int.emod_nonneg _ (by omega), Int.emod_lt_of_pos _ h0⟩
    have un : ∀ (o : HO) (a : Addr), a ≠ s → upd H s o a = H a := fun o a ne => upd_ne ne
    have un2 : ∀ (o o' : HO) (a : Addr), a ≠ s → upd (upd H s o) s o' a = H a := fun o o' a ne => by rw [upd_ne ne, upd_ne ne]
    walk_at "sw"
    refine i_ite (fun h => ?_) (fun h => ?_)
    · walk_at "sw"
      refine i_ite (fun h => ?_) (fun h => ?_)
      · obtain ⟨j, rfl⟩ : ∃ j : Nat, i = (j : Int) := ⟨i.toNat, by omega⟩
        rw [List.length_map] at h
        have hj : j < ns.length := by omega
        walk_at "sw"
        refine i_ixL hlU (at_of (j := j) (v := V.int ns[j]) rfl (by rw [List.getElem?_map, List.getElem?_eq_getElem hj]; rfl)) ?_
        walk_at "sw"
        refine i_ite (fun h => ?_) (fun h => ?_)
        · walk_at "sw"
          exact tail _ (j + 1) _ e (un2 _ _) upd_same (by omega) (by omega) (ab _)
        · walk_at "sw"
          refine i_ite (fun h => ?_) (fun h => ?_)
          · walk_at "sw"
            exact tail _ (j + 1) _ e (un2 _ _) upd_same (by omega) (by omega) (ab _)
          · walk_at "sw"
            exact fin _ (j + 1) b _ _ (un2 _ _) upd_same (by omega) (by omega) hb (md _).1 (md _).2
      · walk_at "sw"
        refine i_ite (fun h => ?_) (fun h => ?_)
        · walk_at "sw"
          exact tail _ i _ e (un _) upd_same hi hi2 (ab _)
        · walk_at "sw"
          refine i_ite (fun h => ?_) (fun h => ?_)
          · walk_at "sw"
            exact tail _ i _ e (un _) upd_same hi hi2 (ab _)
          · walk_at "sw"
            exact fin _ i b _ _ (un _) upd_same hi hi2 hb (md _).1 (md _).2
    · walk_at "sw"
      exact tail H i b e (fun a _ => rfl) hs hi hi2 hb
abbrev A_law_draw (T : Tx K mg base) : AF := A_draw
theorem ok_law_draw (T : Tx K mg base) : FnOk P w K mg base CX0 1 T.f_law_draw T.fd_law_draw ["_law_s", "_law_many"] (spD K T.tb (A_law_draw T)) := (okh_law_draw T).imp draw_imp
def b_within (T : Tx K mg base) : AS := (aSeq (aIf (aOr (aNot (aTest (aCB oIsi (aCons (aVar 0) (aCons (aC (.ty "int")) aNil))))) (aTest (aCB oIsi (aCons (aVar 0) (aCons (aC (.ty "bool")) aNil)))))
    (aRet (aC (.bl false)))
    aNext)
    (aRet (aChain oLe oLe (aVar 1) (aVar 0) (aVar 2))))
abbrev A_within (T : Tx K mg base) : AF := bodyA [false, false, false] 0 (b_within T)
theorem A_within_of (T : Tx K mg base) {d0 d1 d2 : D} {q : AV → Prop} {x : Exn → Prop} (h : b_within T ⟨fun _ => q (.fz .non), fun av _ => q av, fun _ => False, fun _ => False, fun e _ => x e⟩ [some (.fz d0), some (.fz d1), some (.fz d2)]) : A_within T [.fz d0, .fz d1, .fz d2] q x := ⟨rfl, h⟩
theorem ok_within (T : Tx K mg base) : FnOk P w K mg base CX0 1 T.f_within T.fd_within ["value", "low", "high"] (spD K T.tb (A_within T)) := by
  refine T.F_within.ok sc_within (fun vs H Q E h => spD_len h) (fun cdv A outer s0 H vs Q E hr h => ?_)
  have hst : L2.start ["value", "low", "high"] vs = vs.map some ++ List.replicate 0 none := by
    unfold L2.start
    rw [spD_len h]
    rfl
  refine ⟨_, (pss_cons (ps_if ((pw_or (pt_not (pt_val (pe_callB (call_isiKK (K := K) rfl) (by rfl) T.z_isinstance bt_isinstance (pa_cons (pv 0) (pa_cons (pe_bltn (v := .ty "int") (by rfl) T.z_int bt_int rfl) pa_nil))))) (pw_or1 (pt_val (pe_callB (call_isiKK (K := K) rfl) (by rfl) T.z_isinstance bt_isinstance (pa_cons (pv 0) (pa_cons (pe_bltn (v := .ty "bool") (by rfl) T.z_bool bt_bool rfl) pa_nil))))))).pt
      (pss_one (ps_ret pe_bl))
      pss_nil)
      (pss_one (ps_ret (pe_chain op_le op_le (pv 1) (pv 0) (pv 2))))), run_body h hst fun pk pv O M U0 H0 X => ?_⟩
  unfold b_within
  exact (sim_seq (sim_if (sim_or (sim_not (sim_test (SimE.w (sim_cb bu_isi (sim_consW (SimE.w sim_var) (sim_consW (SimE.w sim_ty) sim_nilW)))))) (sim_test (SimE.w (sim_cb bu_isi (sim_consW (SimE.w sim_var) (sim_consW (SimE.w sim_ty) sim_nilW))))))
    (sim_ret sim_bl)
    sim_next)
    (sim_ret (sim_chain (op_i0 (fun _ _ _ => rfl)) (op_i0 (fun _ _ _ => rfl)) (SimE.w sim_var) (SimE.w sim_var) (SimE.w sim_var))))
def b_check (T : Tx K mg base) : AS := (aIf (aNot (aTest (aFz (aCall0 (A_within T) (aArg (aVar 0) (aArg (aVar 1) (aArg (aVar 2) aArgs)))))))
    (aRaise T.c_BadNumber)
    aNext)
abbrev A_check (T : Tx K mg base) : AF := bodyA [false, false, false] 0 (b_check T)
theorem A_check_of (T : Tx K mg base) {d0 d1 d2 : D} {q : AV → Prop} {x : Exn → Prop} (h : b_check T ⟨fun _ => q (.fz .non), fun av _ => q av, fun _ => False, fun _ => False, fun e _ => x e⟩ [some (.fz d0), some (.fz d1), some (.fz d2)]) : A_check T [.fz d0, .fz d1, .fz d2] q x := ⟨rfl, h⟩
theorem ok_check (T : Tx K mg base) : FnOk P w K mg base (L2.CX P w) 2 T.f_check T.fd_check ["value", "low", "high"] (spD K T.tb (A_check T)) := by
  refine T.F_check.okX sc_check (fun vs H Q E h => spD_len h) (fun cdv A outer s0 H vs Q E hr h => ?_)
  have hst : L2.start ["value", "low", "high"] vs = vs.map some ++ List.replicate 0 none := by
    unfold L2.start
    rw [spD_len h]
    rfl
  refine ⟨_, (pss_one (ps_if (pt_not (pt_val (pe_call (ok_within T) (hr.mono (by decide)) (by rfl) T.g_within T.F_within.kp T.b_within .nil pass0 (pa_cons (pv 0) (pa_cons (pv 1) (pa_cons (pv 2) pa_nil))))))
      (pss_one (ps_raise0 rfl (takes_of rfl rfl rfl rfl) (pmk_own0 PySem.F.excBase_ValueError T.x_BadNumber T.g_BadNumber T.e_BadNumber.kp T.e_BadNumber.raises (by rfl))))
      pss_nil)), run_body h hst fun pk pv O M U0 H0 X => ?_⟩
  unfold b_check
  exact (sim_if (sim_not (sim_test (SimE.w (sim_fz (sim_call (sim_arg sim_var (sim_arg sim_var (sim_arg sim_var sim_args))))))))
    (sim_raise (fun _ => rfl))
    sim_next)
def b_middle (T : Tx K mg base) : AS := (aSeq (aIf (aTest (aOp oLt (aCB oLen (aCons (aVar 0) aNil)) (aC (.int 3))))
    (aRaise T.c_TooFew)
    aNext)
    (aSeq (aSet 1 (aFz (aSlO oSlL (aFz (aCBO oSortA (aCons (aVar 0) aNil))) (aPart (aC (.int 1))) (aPart (aUn oNeg (aC (.int 1)))))))
    (aRet (aOp oDiv (aOp oAdd (aOp oIxL (aVar 1) (aC (.int 0))) (aOp oIxL (aVar 1) (aUn oNeg (aC (.int 1))))) (aC (.int 2))))))
abbrev A_middle (T : Tx K mg base) : AF := bodyA [false] 1 (b_middle T)
theorem A_middle_of (T : Tx K mg base) {d0 : D} {q : AV → Prop} {x : Exn → Prop} (h : b_middle T ⟨fun _ => q (.fz .non), fun av _ => q av, fun _ => False, fun _ => False, fun e _ => x e⟩ [some (.fz d0), none]) : A_middle T [.fz d0] q x := ⟨rfl, h⟩
theorem ok_middle (T : Tx K mg base) : FnOk P w K mg base (L2.CX P w) 1 T.f_middle T.fd_middle ["numbers"] (spD K T.tb (A_middle T)) := by
  refine T.F_middle.okX sc_middle (fun vs H Q E h => spD_len h) (fun cdv A outer s0 H vs Q E hr h => ?_)
  have hst : L2.start ["numbers", "inner"] vs = vs.map some ++ List.replicate 1 none := by
    unfold L2.start
    rw [spD_len h]
    rfl
  refine ⟨_, (pss_cons (ps_if (pt_cmpR op_lt (pe_callB (call_lenK (K := K) rfl) (by rfl) T.z_len bt_len (pa_cons (pv 0) pa_nil)) pe_int (nomark _))
      (pss_one (ps_raise0 rfl (takes_of rfl rfl rfl rfl) (pmk_own0 PySem.F.excBase_ValueError T.x_TooFew T.g_TooFew T.e_TooFew.kp T.e_TooFew.raises (by rfl))))
      pss_nil)
      (pss_cons (ps_set (i := 1) sc_middle.nd rfl (Or.inl rfl) (pe_slice (sl_listK (K := K) rfl) (pe_callB (cr_sortA (K := K) rfl (units65 hr)) (by rfl) T.z_sorted bt_sorted (pa_cons (pv 0) pa_nil)) (po_some pe_int) (po_some (pe_un un_neg pe_int))))
      (pss_one (ps_ret (pe_op op_fdiv (pe_op op_add (pe_ix (ix_listK (K := K) rfl) (pv 1) pe_int (fun _ _ => rfl)) (pe_ix (ix_listK (K := K) rfl) (pv 1) (pe_un un_neg pe_int) (fun _ _ => rfl))) pe_int))))), run_body h hst fun pk pv O M U0 H0 X => ?_⟩
  unfold b_middle
  exact (sim_seq (sim_if (sim_test (SimE.w (sim_op (op_i0 (fun _ _ _ => rfl)) (SimE.w (sim_cb bu_len (sim_consW (SimE.w sim_var) sim_nilW))) (SimE.w sim_int))))
    (sim_raise (fun _ => rfl))
    sim_next)
    (sim_seq (sim_set rfl (sim_fz (sim_slO sl_lD (SimE.w (sim_fz (sim_cbO bu_sortA (sim_consW (SimE.w sim_var) sim_nilW)))) (sim_part (SimE.w sim_int)) (sim_part (SimE.w (sim_un (un_i fun _ _ => rfl) (SimE.w sim_int)))))))
    (sim_ret (sim_op (op_ic (fun _ _ _ => rfl)) (SimE.w (sim_op (op_i0 (fun _ _ _ => rfl)) (SimE.w (sim_op op_ixL (SimE.w sim_var) (SimE.w sim_int))) (SimE.w (sim_op op_ixL (SimE.w sim_var) (SimE.w (sim_un (un_i fun _ _ => rfl) (SimE.w sim_int))))))) (SimE.w sim_int)))))
def b_slack_of (T : Tx K mg base) : AS := (aRet (aOp oAdd (aOp oMul (aC (.int 2)) (aVar 0)) (aOp oMul (aC (.int 2)) (aVar 1))))
abbrev A_slack_of (T : Tx K mg base) : AF := bodyA [false, false] 0 (b_slack_of T)
theorem A_slack_of_of (T : Tx K mg base) {d0 d1 : D} {q : AV → Prop} {x : Exn → Prop} (h : b_slack_of T ⟨fun _ => q (.fz .non), fun av _ => q av, fun _ => False, fun _ => False, fun e _ => x e⟩ [some (.fz d0), some (.fz d1)]) : A_slack_of T [.fz d0, .fz d1] q x := ⟨rfl, h⟩
theorem ok_slack_of (T : Tx K mg base) : FnOk P w K mg base CX0 1 T.f_slack_of T.fd_slack_of ["err", "gain"] (spD K T.tb (A_slack_of T)) := by
  refine T.F_slack_of.ok sc_slack_of (fun vs H Q E h => spD_len h) (fun cdv A outer s0 H vs Q E hr h => ?_)
  have hst : L2.start ["err", "gain"] vs = vs.map some ++ List.replicate 0 none := by
    unfold L2.start
    rw [spD_len h]
    rfl
  refine ⟨_, (pss_one (ps_ret (pe_op op_add (pe_op op_mul pe_int (pv 0)) (pe_op op_mul pe_int (pv 1))))), run_body h hst fun pk pv O M U0 H0 X => ?_⟩
  unfold b_slack_of
  exact (sim_ret (sim_op (op_i0 (fun _ _ _ => rfl)) (SimE.w (sim_op (op_ic (fun _ _ _ => rfl)) (SimE.w sim_int) (SimE.w sim_var))) (SimE.w (sim_op (op_ic (fun _ _ _ => rfl)) (SimE.w sim_int) (SimE.w sim_var)))))
def b_plain (T : Tx K mg base) : AS := (aRet (aAndV (aCB oIsi (aCons (aVar 0) (aCons (aC (.ty "int")) aNil))) (aNotV (aCB oIsi (aCons (aVar 0) (aCons (aC (.ty "bool")) aNil))))))
abbrev A_plain (T : Tx K mg base) : AF := bodyA [false] 0 (b_plain T)
theorem A_plain_of (T : Tx K mg base) {d0 : D} {q : AV → Prop} {x : Exn → Prop} (h : b_plain T ⟨fun _ => q (.fz .non), fun av _ => q av, fun _ => False, fun _ => False, fun e _ => x e⟩ [some (.fz d0)]) : A_plain T [.fz d0] q x := ⟨rfl, h⟩
theorem ok_plain (T : Tx K mg base) : FnOk P w K mg base CX0 1 T.f_plain T.fd_plain ["value"] (spD K T.tb (A_plain T)) := by
  refine T.F_plain.ok sc_plain (fun vs H Q E h => spD_len h) (fun cdv A outer s0 H vs Q E hr h => ?_)
  have hst : L2.start ["value"] vs = vs.map some ++ List.replicate 0 none := by
    unfold L2.start
    rw [spD_len h]
    rfl
  refine ⟨_, (pss_one (ps_ret (pe_and (pe_callB (call_isiKK (K := K) rfl) (by rfl) T.z_isinstance bt_isinstance (pa_cons (pv 0) (pa_cons (pe_bltn (v := .ty "int") (by rfl) T.z_int bt_int rfl) pa_nil))) (pe_one (pe_not (pe_callB (call_isiKK (K := K) rfl) (by rfl) T.z_isinstance bt_isinstance (pa_cons (pv 0) (pa_cons (pe_bltn (v := .ty "bool") (by rfl) T.z_bool bt_bool rfl) pa_nil)))))))), run_body h hst fun pk pv O M U0 H0 X => ?_⟩
  unfold b_plain
  exact (sim_ret (sim_andV (SimE.w (sim_cb bu_isi (sim_consW (SimE.w sim_var) (sim_consW (SimE.w sim_ty) sim_nilW)))) (sim_notV (SimE.w (sim_cb bu_isi (sim_consW (SimE.w sim_var) (sim_consW (SimE.w sim_ty) sim_nilW)))))))
def b_Clocks_init (T : Tx K mg base) : AS := (aSeq (aIf (aTest (aOp oLt (aCB oLen (aCons (aVarW 1) aNil)) (aC (.int 4))))
    (aRaise T.c_TooFew)
    aNext)
    (aSeq (aIf (aTest (aOp oGt (aCB oLen (aCons (aVarW 1) aNil)) (aC (.int 7))))
    (aRaise T.c_BadNumber)
    aNext)
    (aSeq (aDrop (aFz (aCall (A_check T) (aArg (aVar 2) (aArg (aC (.int 0)) (aArg (aC (.int 1000)) aArgs))))))
    (aSeq (aDrop (aFz (aCall (A_check T) (aArg (aVar 3) (aArg (aC (.int 0)) (aArg (aC (.int 1000)) aArgs))))))
    (aSeq (aIf (aNot (aTest (aCB oAll (aCons (aFz (aLc (aItL (aVarW 1)) (gN 4) aYes (aFz (aCall0 (A_plain T) (aArg (aVar 4) aArgs))) [4])) aNil))))
    (aRaise T.c_BadNumber)
    aNext)
    (aSeq (aIf (aTest (aOp oGt (aOp oSub (aCB oMax (aCons (aVarW 1) aNil)) (aCB oMin (aCons (aVarW 1) aNil))) (aFz (aCall0 (A_slack_of T) (aArg (aVar 2) (aArg (aVar 3) aArgs))))))
    (aRaise T.c_BadNumber)
    aNext)
    (aSeq (aFldSet 0 T.c_Clocks "stands" (aFz (aCBO oList (aCons (aVarW 1) aNil))))
    (aSeq (aFldSetO 0 T.c_Clocks "state" (aOpO oRep (aFz (aLst (aCons (aC (.int 0)) aNil))) (aCB oLen (aCons (aVarW 1) aNil))))
    (aSeq (aFldSet 0 T.c_Clocks "err" (aVar 2))
    (aFldSet 0 T.c_Clocks "gain" (aVar 3)))))))))))
abbrev A_Clocks_init (T : Tx K mg base) : AFM := bodyM [6, 1, 0, 0] 1 (b_Clocks_init T)
theorem A_Clocks_init_of (T : Tx K mg base) (c0 x0 : Addr) (n0 : List Str) (w0 : List V) (a0 : List AV) (l1 : List D) (d2 : D) (d3 : D) {q : AV → List AV → Prop} {x : Exn → List AV → Prop} (h : b_Clocks_init T ⟨fun ρ => q (.fz .non) (mrg [.ob c0 x0 n0 w0 a0, .ol l1, .fz d2, .fz d3] (selM [true, true, false, false] ρ)), fun av ρ => q av (mrg [.ob c0 x0 n0 w0 a0, .ol l1, .fz d2, .fz d3] (selM [true, true, false, false] ρ)), fun _ => False, fun _ => False, fun e ρ => x e (mrg [.ob c0 x0 n0 w0 a0, .ol l1, .fz d2, .fz d3] (selM [true, true, false, false] ρ))⟩ [some (.ob c0 x0 n0 w0 a0), some (.ol l1), some (.fz d2), some (.fz d3), none]) : A_Clocks_init T [.ob c0 x0 n0 w0 a0, .ol l1, .fz d2, .fz d3] q x := ⟨rfl, h⟩
theorem ok_Clocks_init (T : Tx K mg base) : FnOk P w K mg base (L2.CX P w) 3 T.f_Clocks_init T.fd_Clocks_init ["self", "stands", "err", "gain"] (spM K T.tb (A_Clocks_init T)) := by
  refine T.F_Clocks_init.okX sc_Clocks_init (fun vs H Q E h => spM_len h) (fun cdv A outer s0 H vs Q E hr h => ?_)
  have hst : L2.start ["self", "stands", "err", "gain", "stand"] vs = vs.map some ++ List.replicate 1 none := by
    unfold L2.start
    rw [spM_len h]
    rfl
  have cl_Clocks := T.C_Clocks
  have na_Clocks_err := T.N_Clocks_err
  have na_Clocks_gain := T.N_Clocks_gain
  have na_Clocks_stands := T.N_Clocks_stands
  have na_Clocks_state := T.N_Clocks_state
  refine ⟨_, (pss_cons (ps_if (pt_cmpR op_lt (pe_callB (call_lenK (K := K) rfl) (by rfl) T.z_len bt_len (pa_cons (pv 1) pa_nil)) pe_int (nomark _))
      (pss_one (ps_raise0 rfl (takes_of rfl rfl rfl rfl) (pmk_own0 PySem.F.excBase_ValueError T.x_TooFew T.g_TooFew T.e_TooFew.kp T.e_TooFew.raises (by rfl))))
      pss_nil)
      (pss_cons (ps_if (pt_cmpR op_gt (pe_callB (call_lenK (K := K) rfl) (by rfl) T.z_len bt_len (pa_cons (pv 1) pa_nil)) (pe_glob (v := .int 7) (by rfl) T.g_MOST_CLOCKS ⟨_, rfl⟩) (nomark _))
      (pss_one (ps_raise0 rfl (takes_of rfl rfl rfl rfl) (pmk_own0 PySem.F.excBase_ValueError T.x_BadNumber T.g_BadNumber T.e_BadNumber.kp T.e_BadNumber.raises (by rfl))))
      pss_nil)
      (pss_cons (ps_expr (pe_callS (ok_check T) (hr.mono (by decide)) (by rfl) T.g_check T.F_check.kp T.b_check (fun σ => passAt (takes_of rfl rfl rfl rfl) σ) (pa_cons (pv 2) (pa_cons pe_int (pa_cons pe_int pa_nil)))))
      (pss_cons (ps_expr (pe_callS (ok_check T) (hr.mono (by decide)) (by rfl) T.g_check T.F_check.kp T.b_check (fun σ => passAt (takes_of rfl rfl rfl rfl) σ) (pa_cons (pv 3) (pa_cons pe_int (pa_cons pe_int pa_nil)))))
      (pss_cons (ps_if (pt_not (pt_val (pe_callB (cr_allK (K := K) rfl (by rfl)) (by rfl) T.z_all bt_all (pa_cons (pe_lc (own := [("stand", 4)]) (by rfl) sc_Clocks_init.nd (pi_listK (K := K) rfl (pv 1)) (blkOk_by (own := [("stand", 4)]) (N := ["self", "stands", "err", "gain", "stand"]) (sc := defScope s_Clocks_init) (by decide +kernel)) (fun _ _ _ _ _ => (pg_name (i := 4) sc_Clocks_init.nd rfl (Or.inl rfl))) (fun _ _ _ _ _ => pts_nil) (fun _ _ _ _ _ => (pe_call (ok_plain T) (hr.mono (by decide)) (by rfl) T.g_plain T.F_plain.kp T.b_plain .nil pass0 (pa_cons (pv 4) pa_nil)))) pa_nil))))
      (pss_one (ps_raise0 rfl (takes_of rfl rfl rfl rfl) (pmk_own0 PySem.F.excBase_ValueError T.x_BadNumber T.g_BadNumber T.e_BadNumber.kp T.e_BadNumber.raises (by rfl))))
      pss_nil)
      (pss_cons (ps_if (pt_cmpR op_gt (pe_op op_sub (pe_callB (cr_maxK (K := K) rfl (by rfl)) (by rfl) T.z_max bt_max (pa_cons (pv 1) pa_nil)) (pe_callB (cr_minK (K := K) rfl (by rfl)) (by rfl) T.z_min bt_min (pa_cons (pv 1) pa_nil))) (pe_call (ok_slack_of T) (hr.mono (by decide)) (by rfl) T.g_slack_of T.F_slack_of.kp T.b_slack_of .nil pass0 (pa_cons (pv 2) (pa_cons (pv 3) pa_nil))) (nomark _))
      (pss_one (ps_raise0 rfl (takes_of rfl rfl rfl rfl) (pmk_own0 PySem.F.excBase_ValueError T.x_BadNumber T.g_BadNumber T.e_BadNumber.kp T.e_BadNumber.raises (by rfl))))
      pss_nil)
      (pss_cons (ps_fldK (K := K) rfl (pv 0) (pe_callTy (call_listK (K := K) rfl) (by rfl) T.z_list bt_list (pa_cons (pv 1) pa_nil)) rfl)
      (pss_cons (ps_fldK (K := K) rfl (pv 0) (pe_op op_rep (pe_lst (pa_cons (pe_glob (v := .int 0) (by rfl) T.g_GOOD ⟨_, rfl⟩) pa_nil)) (pe_callB (call_lenK (K := K) rfl) (by rfl) T.z_len bt_len (pa_cons (pv 1) pa_nil))) rfl)
      (pss_cons (ps_fldK (K := K) rfl (pv 0) (pv 2) rfl)
      (pss_one (ps_fldK (K := K) rfl (pv 0) (pv 3) rfl))))))))))), run_bodyM h hst fun pk pv O M U0 H0 X => ?_⟩
  unfold b_Clocks_init
  exact (sim_seq (sim_if (sim_test (SimE.w (sim_op (op_i0 (fun _ _ _ => rfl)) (SimE.w (sim_cb bu_len (sim_consW sim_varW sim_nilW))) (SimE.w sim_int))))
    (sim_raise (fun _ => rfl))
    sim_next)
    (sim_seq (sim_if (sim_test (SimE.w (sim_op (op_i0 (fun _ _ _ => rfl)) (SimE.w (sim_cb bu_len (sim_consW sim_varW sim_nilW))) (SimE.w sim_int))))
    (sim_raise (fun _ => rfl))
    sim_next)
    (sim_seq (sim_drop (sim_fz (sim_callS (fun _ => rfl) (sim_arg sim_var (sim_arg sim_int (sim_arg sim_int sim_args))))))
    (sim_seq (sim_drop (sim_fz (sim_callS (fun _ => rfl) (sim_arg sim_var (sim_arg sim_int (sim_arg sim_int sim_args))))))
    (sim_seq (sim_if (sim_not (sim_test (SimE.w (sim_cb bu_all (sim_consW (SimE.w (sim_fz (sim_lc (sim_itLW sim_varW) (sim_gN rfl) sim_yes (sim_fz (sim_call (sim_arg sim_var sim_args))) rfl rfl))) sim_nilW)))))
    (sim_raise (fun _ => rfl))
    sim_next)
    (sim_seq (sim_if (sim_test (SimE.w (sim_op (op_i0 (fun _ _ _ => rfl)) (SimE.w (sim_op (op_i0 (fun _ _ _ => rfl)) (SimE.w (sim_cb bu_max (sim_consW sim_varW sim_nilW))) (SimE.w (sim_cb bu_min (sim_consW sim_varW sim_nilW))))) (SimE.w (sim_fz (sim_call (sim_arg sim_var (sim_arg sim_var sim_args))))))))
    (sim_raise (fun _ => rfl))
    sim_next)
    (sim_seq (sim_fldSet (by assumption) (by assumption) (sim_fz (sim_cbO bu_list (sim_consW sim_varW sim_nilW))))
    (sim_seq (sim_fldSetO (by assumption) (by assumption) (sim_opO op_repD (SimE.w (sim_fz (sim_lst (sim_cons sim_int sim_nil)))) (SimE.w (sim_cb bu_len (sim_consW sim_varW sim_nilW)))))
    (sim_seq (sim_fldSet (by assumption) (by assumption) sim_var)
    (sim_fldSet (by assumption) (by assumption) sim_var))))))))))
def b_Clocks_fall (T : Tx K mg base) : AS := (aSeq (aDrop (aFz (aCall (A_check T) (aArg (aVar 1) (aArg (aC (.int 0)) (aArg (aOp oSub (aCB oLen (aCons (aFldS 0 T.c_Clocks "stands") aNil)) (aC (.int 1))) aArgs))))))
    (aSeq (aIf (aTest (aCB oAny (aCons (aFz (aLc (aItL (aFldS 0 T.c_Clocks "state")) (gN 2) aYes (aOp oNe (aVar 2) (aC (.int 0))) [2])) aNil)))
    (aRaise T.c_TooFew)
    aNext)
    (aPutLF 0 T.c_Clocks "state" (aVar 1) (aC (.int 1)))))
abbrev A_Clocks_fall (T : Tx K mg base) : AFM := bodyM [6, 0] 1 (b_Clocks_fall T)
theorem A_Clocks_fall_of (T : Tx K mg base) (c0 x0 : Addr) (n0 : List Str) (w0 : List V) (a0 : List AV) (d1 : D) {q : AV → List AV → Prop} {x : Exn → List AV → Prop} (h : b_Clocks_fall T ⟨fun ρ => q (.fz .non) (mrg [.ob c0 x0 n0 w0 a0, .fz d1] (selM [true, false] ρ)), fun av ρ => q av (mrg [.ob c0 x0 n0 w0 a0, .fz d1] (selM [true, false] ρ)), fun _ => False, fun _ => False, fun e ρ => x e (mrg [.ob c0 x0 n0 w0 a0, .fz d1] (selM [true, false] ρ))⟩ [some (.ob c0 x0 n0 w0 a0), some (.fz d1), none]) : A_Clocks_fall T [.ob c0 x0 n0 w0 a0, .fz d1] q x := ⟨rfl, h⟩
theorem ok_Clocks_fall (T : Tx K mg base) : FnOk P w K mg base (L2.CX P w) 3 T.f_Clocks_fall T.fd_Clocks_fall ["self", "at"] (spM K T.tb (A_Clocks_fall T)) := by
  refine T.F_Clocks_fall.okX sc_Clocks_fall (fun vs H Q E h => spM_len h) (fun cdv A outer s0 H vs Q E hr h => ?_)
  have hst : L2.start ["self", "at", "one"] vs = vs.map some ++ List.replicate 1 none := by
    unfold L2.start
    rw [spM_len h]
    rfl
  have cl_Clocks := T.C_Clocks
  have na_Clocks_stands := T.N_Clocks_stands
  have na_Clocks_state := T.N_Clocks_state
  refine ⟨_, (pss_cons (ps_expr (pe_callS (ok_check T) (hr.mono (by decide)) (by rfl) T.g_check T.F_check.kp T.b_check (fun σ => passAt (takes_of rfl rfl rfl rfl) σ) (pa_cons (pv 1) (pa_cons pe_int (pa_cons (pe_op op_sub (pe_callB (call_lenK (K := K) rfl) (by rfl) T.z_len bt_len (pa_cons (pe_fldK (K := K) rfl (pv 0) rfl) pa_nil)) pe_int) pa_nil)))))
      (pss_cons (ps_if (pt_val (pe_callB (cr_anyK (K := K) rfl (by rfl)) (by rfl) T.z_any bt_any (pa_cons (pe_lc (own := [("one", 2)]) (by rfl) sc_Clocks_fall.nd (pi_listK (K := K) rfl (pe_fldK (K := K) rfl (pv 0) rfl)) (blkOk_by (own := [("one", 2)]) (N := ["self", "at", "one"]) (sc := defScope s_Clocks_fall) (by decide +kernel)) (fun _ _ _ _ _ => (pg_name (i := 2) sc_Clocks_fall.nd rfl (Or.inl rfl))) (fun _ _ _ _ _ => pts_nil) (fun _ _ _ _ _ => (pe_cmpR op_ne (pv 2) (pe_glob (v := .int 0) (by rfl) T.g_GOOD ⟨_, rfl⟩) (nomark _)))) pa_nil)))
      (pss_one (ps_raise0 rfl (takes_of rfl rfl rfl rfl) (pmk_own0 PySem.F.excBase_ValueError T.x_TooFew T.g_TooFew T.e_TooFew.kp T.e_TooFew.raises (by rfl))))
      pss_nil)
      (pss_one (ps_asg (pe_glob (v := .int 1) (by rfl) T.g_FALLEN ⟨_, rfl⟩) (pg_sub (pe_fldK (K := K) rfl (pv 0) rfl) (pv 1) set_list))))), run_bodyM h hst fun pk pv O M U0 H0 X => ?_⟩
  unfold b_Clocks_fall
  exact (sim_seq (sim_drop (sim_fz (sim_callS (fun _ => rfl) (sim_arg sim_var (sim_arg sim_int (sim_arg (sim_op (op_i0 (fun _ _ _ => rfl)) (SimE.w (sim_cb bu_len (sim_consW (sim_fldS (by assumption) (by assumption)) sim_nilW))) (SimE.w sim_int)) sim_args))))))
    (sim_seq (sim_if (sim_test (SimE.w (sim_cb bu_any (sim_consW (SimE.w (sim_fz (sim_lc (sim_itLW (sim_fldS (by assumption) (by assumption))) (sim_gN rfl) sim_yes (sim_op op_neS (SimE.w sim_var) (SimE.w sim_int)) rfl rfl))) sim_nilW))))
    (sim_raise (fun _ => rfl))
    sim_next)
    (sim_putLF (by assumption) (by assumption) (SimE.w sim_var) sim_int)))
def b_Clocks_rise (T : Tx K mg base) : AS := (aSeq (aDrop (aFz (aCall (A_check T) (aArg (aVar 1) (aArg (aC (.int 0)) (aArg (aOp oSub (aCB oLen (aCons (aFldS 0 T.c_Clocks "stands") aNil)) (aC (.int 1))) aArgs))))))
    (aSeq (aIf (aTest (aOp oNe (aOp oIxL (aFldS 0 T.c_Clocks "state") (aVar 1)) (aC (.int 1))))
    (aRaise T.c_NoStep)
    aNext)
    (aPutLF 0 T.c_Clocks "state" (aVar 1) (aC (.int 2)))))
abbrev A_Clocks_rise (T : Tx K mg base) : AFM := bodyM [6, 0] 0 (b_Clocks_rise T)
theorem A_Clocks_rise_of (T : Tx K mg base) (c0 x0 : Addr) (n0 : List Str) (w0 : List V) (a0 : List AV) (d1 : D) {q : AV → List AV → Prop} {x : Exn → List AV → Prop} (h : b_Clocks_rise T ⟨fun ρ => q (.fz .non) (mrg [.ob c0 x0 n0 w0 a0, .fz d1] (selM [true, false] ρ)), fun av ρ => q av (mrg [.ob c0 x0 n0 w0 a0, .fz d1] (selM [true, false] ρ)), fun _ => False, fun _ => False, fun e ρ => x e (mrg [.ob c0 x0 n0 w0 a0, .fz d1] (selM [true, false] ρ))⟩ [some (.ob c0 x0 n0 w0 a0), some (.fz d1)]) : A_Clocks_rise T [.ob c0 x0 n0 w0 a0, .fz d1] q x := ⟨rfl, h⟩
theorem ok_Clocks_rise (T : Tx K mg base) : FnOk P w K mg base (L2.CX P w) 3 T.f_Clocks_rise T.fd_Clocks_rise ["self", "at"] (spM K T.tb (A_Clocks_rise T)) := by
  refine T.F_Clocks_rise.okX sc_Clocks_rise (fun vs H Q E h => spM_len h) (fun cdv A outer s0 H vs Q E hr h => ?_)
  have hst : L2.start ["self", "at"] vs = vs.map some ++ List.replicate 0 none := by
    unfold L2.start
    rw [spM_len h]
    rfl
  have cl_Clocks := T.C_Clocks
  have na_Clocks_stands := T.N_Clocks_stands
  have na_Clocks_state := T.N_Clocks_state
  refine ⟨_, (pss_cons (ps_expr (pe_callS (ok_check T) (hr.mono (by decide)) (by rfl) T.g_check T.F_check.kp T.b_check (fun σ => passAt (takes_of rfl rfl rfl rfl) σ) (pa_cons (pv 1) (pa_cons pe_int (pa_cons (pe_op op_sub (pe_callB (call_lenK (K := K) rfl) (by rfl) T.z_len bt_len (pa_cons (pe_fldK (K := K) rfl (pv 0) rfl) pa_nil)) pe_int) pa_nil)))))
      (pss_cons (ps_if (pt_cmpR op_ne (pe_ix (ix_listK (K := K) rfl) (pe_fldK (K := K) rfl (pv 0) rfl) (pv 1) (fun _ _ => rfl)) (pe_glob (v := .int 1) (by rfl) T.g_FALLEN ⟨_, rfl⟩) (nomark _))
      (pss_one (ps_raise0 rfl (takes_of rfl rfl rfl rfl) (pmk_own0 PySem.F.excBase_ValueError T.x_NoStep T.g_NoStep T.e_NoStep.kp T.e_NoStep.raises (by rfl))))
      pss_nil)
      (pss_one (ps_asg (pe_glob (v := .int 2) (by rfl) T.g_LISTENS ⟨_, rfl⟩) (pg_sub (pe_fldK (K := K) rfl (pv 0) rfl) (pv 1) set_list))))), run_bodyM h hst fun pk pv O M U0 H0 X => ?_⟩
  unfold b_Clocks_rise
  exact (sim_seq (sim_drop (sim_fz (sim_callS (fun _ => rfl) (sim_arg sim_var (sim_arg sim_int (sim_arg (sim_op (op_i0 (fun _ _ _ => rfl)) (SimE.w (sim_cb bu_len (sim_consW (sim_fldS (by assumption) (by assumption)) sim_nilW))) (SimE.w sim_int)) sim_args))))))
    (sim_seq (sim_if (sim_test (SimE.w (sim_op op_neS (SimE.w (sim_op op_ixL (sim_fldS (by assumption) (by assumption)) (SimE.w sim_var))) (SimE.w sim_int))))
    (sim_raise (fun _ => rfl))
    sim_next)
    (sim_putLF (by assumption) (by assumption) (SimE.w sim_var) sim_int)))
def b_Clocks_judge_word (T : Tx K mg base) : AS := (aIf (aTest (aOp oEq (aOp oIxL (aFld T.c_Clocks "state" (aVar 0)) (aVar 2)) (aC (.int 0))))
    (aDrop (aFz (aCall (A_check T) (aArg (aVar 1) (aArg (aOp oIxL (aFld T.c_Clocks "stands" (aVar 0)) (aVar 2)) (aArg (aOp oAdd (aOp oIxL (aFld T.c_Clocks "stands" (aVar 0)) (aVar 2)) (aFld T.c_Clocks "err" (aVar 0))) aArgs))))))
    (aIf (aTest (aOp oEq (aOp oIxL (aFld T.c_Clocks "state" (aVar 0)) (aVar 2)) (aC (.int 2))))
    (aIf (aTest (aOp oNotN (aVar 1) (aC (.non))))
    (aRaise T.c_BadNumber)
    aNext)
    (aIf (aAnd (aTest (aOp oNotN (aVar 1) (aC (.non)))) (aNot (aTest (aFz (aCall0 (A_plain T) (aArg (aVar 1) aArgs))))))
    (aRaise T.c_BadNumber)
    aNext)))
abbrev A_Clocks_judge_word (T : Tx K mg base) : AF := bodyA [false, false, false] 0 (b_Clocks_judge_word T)
theorem A_Clocks_judge_word_of (T : Tx K mg base) {d0 d1 d2 : D} {q : AV → Prop} {x : Exn → Prop} (h : b_Clocks_judge_word T ⟨fun _ => q (.fz .non), fun av _ => q av, fun _ => False, fun _ => False, fun e _ => x e⟩ [some (.fz d0), some (.fz d1), some (.fz d2)]) : A_Clocks_judge_word T [.fz d0, .fz d1, .fz d2] q x := ⟨rfl, h⟩
theorem ok_Clocks_judge_word (T : Tx K mg base) : FnOk P w K mg base (L2.CX P w) 3 T.f_Clocks_judge_word T.fd_Clocks_judge_word ["self", "word", "at"] (spD K T.tb (A_Clocks_judge_word T)) := by
  refine T.F_Clocks_judge_word.okX sc_Clocks_judge_word (fun vs H Q E h => spD_len h) (fun cdv A outer s0 H vs Q E hr h => ?_)
  have hst : L2.start ["self", "word", "at"] vs = vs.map some ++ List.replicate 0 none := by
    unfold L2.start
    rw [spD_len h]
    rfl
  have cl_Clocks := T.C_Clocks
  have na_Clocks_err := T.N_Clocks_err
  have na_Clocks_stands := T.N_Clocks_stands
  have na_Clocks_state := T.N_Clocks_state
  refine ⟨_, (pss_one (ps_if (pt_cmpR op_eq (pe_ix (ix_listK (K := K) rfl) (pe_fldK (K := K) rfl (pv 0) rfl) (pv 2) (fun _ _ => rfl)) (pe_glob (v := .int 0) (by rfl) T.g_GOOD ⟨_, rfl⟩) (nomark _))
      (pss_one (ps_expr (pe_callS (ok_check T) (hr.mono (by decide)) (by rfl) T.g_check T.F_check.kp T.b_check (fun σ => passAt (takes_of rfl rfl rfl rfl) σ) (pa_cons (pv 1) (pa_cons (pe_ix (ix_listK (K := K) rfl) (pe_fldK (K := K) rfl (pv 0) rfl) (pv 2) (fun _ _ => rfl)) (pa_cons (pe_op op_add (pe_ix (ix_listK (K := K) rfl) (pe_fldK (K := K) rfl (pv 0) rfl) (pv 2) (fun _ _ => rfl)) (pe_fldK (K := K) rfl (pv 0) rfl)) pa_nil))))))
      (pss_one (ps_if (pt_cmpR op_eq (pe_ix (ix_listK (K := K) rfl) (pe_fldK (K := K) rfl (pv 0) rfl) (pv 2) (fun _ _ => rfl)) (pe_glob (v := .int 2) (by rfl) T.g_LISTENS ⟨_, rfl⟩) (nomark _))
      (pss_one (ps_if (pt_cmpR op_notN (pv 1) pe_non (nomark _))
      (pss_one (ps_raise0 rfl (takes_of rfl rfl rfl rfl) (pmk_own0 PySem.F.excBase_ValueError T.x_BadNumber T.g_BadNumber T.e_BadNumber.kp T.e_BadNumber.raises (by rfl))))
      pss_nil))
      (pss_one (ps_if ((pw_and (pt_cmpR op_notN (pv 1) pe_non (nomark _)) (pw_and1 (pt_not (pt_val (pe_call (ok_plain T) (hr.mono (by decide)) (by rfl) T.g_plain T.F_plain.kp T.b_plain .nil pass0 (pa_cons (pv 1) pa_nil))))))).pt
      (pss_one (ps_raise0 rfl (takes_of rfl rfl rfl rfl) (pmk_own0 PySem.F.excBase_ValueError T.x_BadNumber T.g_BadNumber T.e_BadNumber.kp T.e_BadNumber.raises (by rfl))))
      pss_nil)))))), run_body h hst fun pk pv O M U0 H0 X => ?_⟩
  unfold b_Clocks_judge_word
  exact (sim_if (sim_test (SimE.w (sim_op op_eqS (SimE.w (sim_op op_ixL (SimE.w (sim_fld (by assumption) (by assumption) (SimE.w sim_var))) (SimE.w sim_var))) (SimE.w sim_int))))
    (sim_drop (sim_fz (sim_callS (fun _ => rfl) (sim_arg sim_var (sim_arg (sim_op op_ixL (SimE.w (sim_fld (by assumption) (by assumption) (SimE.w sim_var))) (SimE.w sim_var)) (sim_arg (sim_op (op_i0 (fun _ _ _ => rfl)) (SimE.w (sim_op op_ixL (SimE.w (sim_fld (by assumption) (by assumption) (SimE.w sim_var))) (SimE.w sim_var))) (SimE.w (sim_fld (by assumption) (by assumption) (SimE.w sim_var)))) sim_args))))))
    (sim_if (sim_test (SimE.w (sim_op op_eqS (SimE.w (sim_op op_ixL (SimE.w (sim_fld (by assumption) (by assumption) (SimE.w sim_var))) (SimE.w sim_var))) (SimE.w sim_int))))
    (sim_if (sim_test (SimE.w (sim_op op_notND (SimE.w sim_var) (SimE.w sim_non))))
    (sim_raise (fun _ => rfl))
    sim_next)
    (sim_if (sim_and (sim_test (SimE.w (sim_op op_notND (SimE.w sim_var) (SimE.w sim_non)))) (sim_not (sim_test (SimE.w (sim_fz (sim_call (sim_arg sim_var sim_args)))))))
    (sim_raise (fun _ => rfl))
    sim_next)))
def b_Clocks_judge (T : Tx K mg base) : AS := (aSeq (aSet 3 (aCB oLen (aCons (aFld T.c_Clocks "stands" (aVar 0)) aNil)))
    (aSeq (aIf (aOr (aTest (aOp oNe (aCB oLen (aCons (aVar 1) aNil)) (aVar 3))) (aTest (aOp oNe (aCB oLen (aCons (aVar 2) aNil)) (aVar 3))))
    (aRaise T.c_BadNumber)
    aNext)
    (aFor (aRng1 (aCons (aVar 3) aNil)) (gN 4)
    (aIf (aTest (aOp oNe (aOp oIxL (aFld T.c_Clocks "state" (aVar 0)) (aVar 4)) (aC (.int 1))))
    (aSeq (aIf (aOr (aTest (aOp oNe (aCB oLen (aCons (aOp oIxL (aVar 1) (aVar 4)) aNil)) (aVar 3))) (aNot (aTest (aFz (aCall0 (A_within T) (aArg (aOp oIxL (aVar 2) (aVar 4)) (aArg (aC (.int 0)) (aArg (aFld T.c_Clocks "gain" (aVar 0)) aArgs))))))))
    (aRaise T.c_BadNumber)
    aNext)
    (aFor (aEnum (aCons (aOp oIxL (aVar 1) (aVar 4)) aNil)) (gT 2 (gsCons (gN 5) (gsCons (gN 6) gsNil)))
    (aDrop (aFz (aMe T.c_Clocks "judge_word" (A_Clocks_judge_word T) (aVar 0) (aArg (aVar 6) (aArg (aVar 5) aArgs)))))))
    aNext))))
abbrev A_Clocks_judge (T : Tx K mg base) : AF := bodyA [false, false, false] 4 (b_Clocks_judge T)
theorem A_Clocks_judge_of (T : Tx K mg base) {d0 d1 d2 : D} {q : AV → Prop} {x : Exn → Prop} (h : b_Clocks_judge T ⟨fun _ => q (.fz .non), fun av _ => q av, fun _ => False, fun _ => False, fun e _ => x e⟩ [some (.fz d0), some (.fz d1), some (.fz d2), none, none, none, none]) : A_Clocks_judge T [.fz d0, .fz d1, .fz d2] q x := ⟨rfl, h⟩
theorem ok_Clocks_judge (T : Tx K mg base) : FnOk P w K mg base (L2.CX P w) 4 T.f_Clocks_judge T.fd_Clocks_judge ["self", "heard", "gains"] (spD K T.tb (A_Clocks_judge T)) := by
  refine T.F_Clocks_judge.okX sc_Clocks_judge (fun vs H Q E h => spD_len h) (fun cdv A outer s0 H vs Q E hr h => ?_)
  have hst : L2.start ["self", "heard", "gains", "count", "at", "other", "word"] vs = vs.map some ++ List.replicate 4 none := by
    unfold L2.start
    rw [spD_len h]
    rfl
  have cl_Clocks := T.C_Clocks
  have na_Clocks_gain := T.N_Clocks_gain
  have na_Clocks_stands := T.N_Clocks_stands
  have na_Clocks_state := T.N_Clocks_state
  refine ⟨_, (pss_cons (ps_set (i := 3) sc_Clocks_judge.nd rfl (Or.inl rfl) (pe_callB (call_lenK (K := K) rfl) (by rfl) T.z_len bt_len (pa_cons (pe_fldK (K := K) rfl (pv 0) rfl) pa_nil)))
      (pss_cons (ps_if ((pw_or (pt_cmpR op_ne (pe_callB (call_lenK (K := K) rfl) (by rfl) T.z_len bt_len (pa_cons (pv 1) pa_nil)) (pv 3) (nomark _)) (pw_or1 (pt_cmpR op_ne (pe_callB (call_lenK (K := K) rfl) (by rfl) T.z_len bt_len (pa_cons (pv 2) pa_nil)) (pv 3) (nomark _))))).pt
      (pss_one (ps_raise0 rfl (takes_of rfl rfl rfl rfl) (pmk_own0 PySem.F.excBase_ValueError T.x_BadNumber T.g_BadNumber T.e_BadNumber.kp T.e_BadNumber.raises (by rfl))))
      pss_nil)
      (pss_one (ps_for (passes_of rfl) rfl (pi_range1 (by rfl) T.z_range (pa_cons (pv 3) pa_nil)) (pg_name (i := 4) sc_Clocks_judge.nd rfl (Or.inl rfl))
      (pss_one (ps_if (pt_cmpR op_ne (pe_ix (ix_listK (K := K) rfl) (pe_fldK (K := K) rfl (pv 0) rfl) (pv 4) (fun _ _ => rfl)) (pe_glob (v := .int 1) (by rfl) T.g_FALLEN ⟨_, rfl⟩) (nomark _))
      (pss_cons (ps_if ((pw_or (pt_cmpR op_ne (pe_callB (call_lenK (K := K) rfl) (by rfl) T.z_len bt_len (pa_cons (pe_ix (ix_listK (K := K) rfl) (pv 1) (pv 4) (fun _ _ => rfl)) pa_nil)) (pv 3) (nomark _)) (pw_or1 (pt_not (pt_val (pe_call (ok_within T) (hr.mono (by decide)) (by rfl) T.g_within T.F_within.kp T.b_within .nil pass0 (pa_cons (pe_ix (ix_listK (K := K) rfl) (pv 2) (pv 4) (fun _ _ => rfl)) (pa_cons pe_int (pa_cons (pe_fldK (K := K) rfl (pv 0) rfl) pa_nil))))))))).pt
      (pss_one (ps_raise0 rfl (takes_of rfl rfl rfl rfl) (pmk_own0 PySem.F.excBase_ValueError T.x_BadNumber T.g_BadNumber T.e_BadNumber.kp T.e_BadNumber.raises (by rfl))))
      pss_nil)
      (pss_one (ps_for (passes_of rfl) rfl (pi_enumK (K := K) rfl (by rfl) T.z_enumerate (pa_cons (pe_ix (ix_listK (K := K) rfl) (pv 1) (pv 4) (fun _ _ => rfl)) pa_nil)) (pg_tupK (K := K) (n := 2) rfl (by rfl) (pgs_cons (pg_name (i := 5) sc_Clocks_judge.nd rfl (Or.inl rfl)) (pgs_cons (pg_name (i := 6) sc_Clocks_judge.nd rfl (Or.inl rfl)) pgs_nil)))
      (pss_one (ps_expr (pe_meS (pv 0) T.C_Clocks T.m_Clocks_judge_word (ok_Clocks_judge_word T) (hr.mono (by decide)) T.b_Clocks_judge_word .nil (fun σ => passAt (takes_of rfl rfl rfl rfl) σ) (pa_cons (pv 6) (pa_cons (pv 5) pa_nil))))))))
      pss_nil)))))), run_body h hst fun pk pv O M U0 H0 X => ?_⟩
  unfold b_Clocks_judge
  exact (sim_seq (sim_set rfl (sim_cb bu_len (sim_consW (SimE.w (sim_fld (by assumption) (by assumption) (SimE.w sim_var))) sim_nilW)))
    (sim_seq (sim_if (sim_or (sim_test (SimE.w (sim_op op_neS (SimE.w (sim_cb bu_len (sim_consW (SimE.w sim_var) sim_nilW))) (SimE.w sim_var)))) (sim_test (SimE.w (sim_op op_neS (SimE.w (sim_cb bu_len (sim_consW (SimE.w sim_var) sim_nilW))) (SimE.w sim_var)))))
    (sim_raise (fun _ => rfl))
    sim_next)
    (sim_for (sim_rng1 (sim_consW (SimE.w sim_var) sim_nilW)) (sim_gN rfl)
    (sim_if (sim_test (SimE.w (sim_op op_neS (SimE.w (sim_op op_ixL (SimE.w (sim_fld (by assumption) (by assumption) (SimE.w sim_var))) (SimE.w sim_var))) (SimE.w sim_int))))
    (sim_seq (sim_if (sim_or (sim_test (SimE.w (sim_op op_neS (SimE.w (sim_cb bu_len (sim_consW (SimE.w (sim_op op_ixL (SimE.w sim_var) (SimE.w sim_var))) sim_nilW))) (SimE.w sim_var)))) (sim_not (sim_test (SimE.w (sim_fz (sim_call (sim_arg (sim_op op_ixL (SimE.w sim_var) (SimE.w sim_var)) (sim_arg sim_int (sim_arg (sim_fld (by assumption) (by assumption) (SimE.w sim_var)) sim_args)))))))))
    (sim_raise (fun _ => rfl))
    sim_next)
    (sim_for (sim_enum (sim_cons (sim_op op_ixL (SimE.w sim_var) (SimE.w sim_var)) sim_nil)) (sim_gT (sim_gsCons (sim_gN rfl) (sim_gsCons (sim_gN rfl) sim_gsNil)))
    (sim_drop (sim_fz (sim_me (fun _ => rfl) sim_var (sim_arg sim_var (sim_arg sim_var sim_args)))))))
    sim_next))))
def b_Clocks_turn (T : Tx K mg base) : AS := (aSeq (aDrop (aFz (aMeF T.c_Clocks "judge" (A_Clocks_judge T) 0 (aArg (aVar 1) (aArg (aVar 2) aArgs)))))
    (aSeq (aSetO 3 (aCBO oList (aCons (aFldS 0 T.c_Clocks "stands") aNil)))
    (aSeq (aFor (aRng1 (aCons (aCB oLen (aCons (aVarW 3) aNil)) aNil)) (gN 4)
    (aIf (aTest (aOp oNe (aOp oIxL (aFldS 0 T.c_Clocks "state") (aVar 4)) (aC (.int 1))))
    (aPut 3 (aVar 4) (aOp oAdd (aFz (aCall (A_middle T) (aArg (aFz (aLc (aItL (aOp oIxL (aVar 1) (aVar 4))) (gN 5) (aTest (aOp oNotN (aVar 5) (aC (.non)))) (aVar 5) [5])) aArgs))) (aOp oIxL (aVar 2) (aVar 4))))
    aNext))
    (aSeq (aSeal 3 (aFldRe 0 T.c_Clocks "stands" (aUp (aVar 3))))
    (aFldRe 0 T.c_Clocks "state" (aLc (aItL (aFldS 0 T.c_Clocks "state")) (gN 6) aYes (aIfE (aTest (aOp oEq (aVar 6) (aC (.int 1)))) (aC (.int 1)) (aC (.int 0))) [6]))))))
abbrev A_Clocks_turn (T : Tx K mg base) : AFM := bodyM [6, 0, 0] 4 (b_Clocks_turn T)
theorem A_Clocks_turn_of (T : Tx K mg base) (c0 x0 : Addr) (n0 : List Str) (w0 : List V) (a0 : List AV) (d1 : D) (d2 : D) {q : AV → List AV → Prop} {x : Exn → List AV → Prop} (h : b_Clocks_turn T ⟨fun ρ => q (.fz .non) (mrg [.ob c0 x0 n0 w0 a0, .fz d1, .fz d2] (selM [true, false, false] ρ)), fun av ρ => q av (mrg [.ob c0 x0 n0 w0 a0, .fz d1, .fz d2] (selM [true, false, false] ρ)), fun _ => False, fun _ => False, fun e ρ => x e (mrg [.ob c0 x0 n0 w0 a0, .fz d1, .fz d2] (selM [true, false, false] ρ))⟩ [some (.ob c0 x0 n0 w0 a0), some (.fz d1), some (.fz d2), none, none, none, none]) : A_Clocks_turn T [.ob c0 x0 n0 w0 a0, .fz d1, .fz d2] q x := ⟨rfl, h⟩
theorem ok_Clocks_turn (T : Tx K mg base) : FnOk P w K mg base (L2.CX P w) 5 T.f_Clocks_turn T.fd_Clocks_turn ["self", "heard", "gains"] (spM K T.tb (A_Clocks_turn T)) := by
  refine T.F_Clocks_turn.okX sc_Clocks_turn (fun vs H Q E h => spM_len h) (fun cdv A outer s0 H vs Q E hr h => ?_)
  have hst : L2.start ["self", "heard", "gains", "found", "at", "word", "one"] vs = vs.map some ++ List.replicate 4 none := by
    unfold L2.start
    rw [spM_len h]
    rfl
  have cl_Clocks := T.C_Clocks
  have na_Clocks_stands := T.N_Clocks_stands
  have na_Clocks_state := T.N_Clocks_state
  refine ⟨_, (pss_cons (ps_expr (pe_meS (pv 0) T.C_Clocks T.m_Clocks_judge (ok_Clocks_judge T) (hr.mono (by decide)) T.b_Clocks_judge .nil (fun σ => passAt (takes_of rfl rfl rfl rfl) σ) (pa_cons (pv 1) (pa_cons (pv 2) pa_nil))))
      (pss_cons (ps_set (i := 3) sc_Clocks_turn.nd rfl (Or.inl rfl) (pe_callTy (call_listK (K := K) rfl) (by rfl) T.z_list bt_list (pa_cons (pe_fldK (K := K) rfl (pv 0) rfl) pa_nil)))
      (pss_cons (ps_for (passes_of rfl) rfl (pi_range1 (by rfl) T.z_range (pa_cons (pe_callB (call_lenK (K := K) rfl) (by rfl) T.z_len bt_len (pa_cons (pv 3) pa_nil)) pa_nil)) (pg_name (i := 4) sc_Clocks_turn.nd rfl (Or.inl rfl))
      (pss_one (ps_if (pt_cmpR op_ne (pe_ix (ix_listK (K := K) rfl) (pe_fldK (K := K) rfl (pv 0) rfl) (pv 4) (fun _ _ => rfl)) (pe_glob (v := .int 1) (by rfl) T.g_FALLEN ⟨_, rfl⟩) (nomark _))
      (pss_one (ps_asg (pe_op op_add (pe_callS (ok_middle T) (hr.mono (by decide)) (by rfl) T.g_middle T.F_middle.kp T.b_middle (fun σ => passAt (takes_of rfl rfl rfl rfl) σ) (pa_cons (pe_lc (own := [("word", 5)]) (by rfl) sc_Clocks_turn.nd (pi_listK (K := K) rfl (pe_ix (ix_listK (K := K) rfl) (pv 1) (pv 4) (fun _ _ => rfl))) (blkOk_by (own := [("word", 5)]) (N := ["self", "heard", "gains", "found", "at", "word", "one"]) (sc := defScope s_Clocks_turn) (by decide +kernel)) (fun _ _ _ _ _ => (pg_name (i := 5) sc_Clocks_turn.nd rfl (Or.inl rfl))) (fun _ _ _ _ _ => (pts_one (pt_cmpR op_notN (pv 5) pe_non (nomark _)))) (fun _ _ _ _ _ => (pv 5))) pa_nil)) (pe_ix (ix_listK (K := K) rfl) (pv 2) (pv 4) (fun _ _ => rfl))) (pg_sub (pv 3) (pv 4) set_list)))
      pss_nil)))
      (pss_cons (ps_fldK (K := K) rfl (pv 0) (pv 3) rfl)
      (pss_one (ps_fldK (K := K) rfl (pv 0) (pe_lc (own := [("one", 6)]) (by rfl) sc_Clocks_turn.nd (pi_listK (K := K) rfl (pe_fldK (K := K) rfl (pv 0) rfl)) (blkOk_by (own := [("one", 6)]) (N := ["self", "heard", "gains", "found", "at", "word", "one"]) (sc := defScope s_Clocks_turn) (by decide +kernel)) (fun _ _ _ _ _ => (pg_name (i := 6) sc_Clocks_turn.nd rfl (Or.inl rfl))) (fun _ _ _ _ _ => pts_nil) (fun _ _ _ _ _ => (pe_ifExp (pt_cmpR op_eq (pv 6) (pe_glob (v := .int 1) (by rfl) T.g_FALLEN ⟨_, rfl⟩) (nomark _)) (pe_glob (v := .int 1) (by rfl) T.g_FALLEN ⟨_, rfl⟩) (pe_glob (v := .int 0) (by rfl) T.g_GOOD ⟨_, rfl⟩)))) rfl)))))), run_bodyM h hst fun pk pv O M U0 H0 X => ?_⟩
  unfold b_Clocks_turn
  exact (sim_seq (sim_drop (sim_fz (sim_meF (fun _ => rfl) (sim_arg sim_var (sim_arg sim_var sim_args)))))
    (sim_seq (sim_setO rfl (sim_cbO bu_list (sim_consW (sim_fldS (by assumption) (by assumption)) sim_nilW)))
    (sim_seq (sim_for (sim_rng1 (sim_consW (SimE.w (sim_cb bu_len (sim_consW sim_varW sim_nilW))) sim_nilW)) (sim_gN rfl)
    (sim_if (sim_test (SimE.w (sim_op op_neS (SimE.w (sim_op op_ixL (sim_fldS (by assumption) (by assumption)) (SimE.w sim_var))) (SimE.w sim_int))))
    (sim_put (sim_op (op_i0 (fun _ _ _ => rfl)) (SimE.w (sim_fz (sim_callS (fun _ => rfl) (sim_arg (sim_fz (sim_lc (sim_itLW (SimE.w (sim_op op_ixL (SimE.w sim_var) (SimE.w sim_var)))) (sim_gN rfl) (sim_test (SimE.w (sim_op op_notND (SimE.w sim_var) (SimE.w sim_non)))) sim_var rfl rfl)) sim_args)))) (SimE.w (sim_op op_ixL (SimE.w sim_var) (SimE.w sim_var)))) (SimE.w sim_var))
    sim_next))
    (sim_seq (sim_seal rfl (sim_fldRe (by assumption) (by assumption) (sim_up sim_var)))
    (sim_fldRe (by assumption) (by assumption) (sim_lc (sim_itLW (sim_fldS (by assumption) (by assumption))) (sim_gN rfl) sim_yes (sim_ifE (sim_test (SimE.w (sim_op op_eqS (SimE.w sim_var) (SimE.w sim_int)))) sim_int sim_int) rfl rfl))))))
def b_Clocks_told (T : Tx K mg base) : AS := (aRetO (aLc (aZip (aCons (aFld T.c_Clocks "stands" (aVar 0)) (aCons (aFld T.c_Clocks "state" (aVar 0)) aNil))) (gT 2 (gsCons (gN 1) (gsCons (gN 2) gsNil))) aYes (aIfE (aTest (aOp oEq (aVar 2) (aC (.int 0)))) (aVar 1) (aC (.non))) [1, 2]))
abbrev A_Clocks_told (T : Tx K mg base) : AF := bodyA [false] 2 (b_Clocks_told T)
theorem A_Clocks_told_of (T : Tx K mg base) {d0 : D} {q : AV → Prop} {x : Exn → Prop} (h : b_Clocks_told T ⟨fun _ => q (.fz .non), fun av _ => q av, fun _ => False, fun _ => False, fun e _ => x e⟩ [some (.fz d0), none, none]) : A_Clocks_told T [.fz d0] q x := ⟨rfl, h⟩
theorem ok_Clocks_told (T : Tx K mg base) : FnOk P w K mg base CX0 1 T.f_Clocks_told T.fd_Clocks_told ["self"] (spD K T.tb (A_Clocks_told T)) := by
  refine T.F_Clocks_told.ok sc_Clocks_told (fun vs H Q E h => spD_len h) (fun cdv A outer s0 H vs Q E hr h => ?_)
  have hst : L2.start ["self", "stand", "one"] vs = vs.map some ++ List.replicate 2 none := by
    unfold L2.start
    rw [spD_len h]
    rfl
  have cl_Clocks := T.C_Clocks
  have na_Clocks_stands := T.N_Clocks_stands
  have na_Clocks_state := T.N_Clocks_state
  refine ⟨_, (pss_one (ps_ret (pe_lc (own := [("stand", 1), ("one", 2)]) (by rfl) sc_Clocks_told.nd (pi_zipK (K := K) rfl (by rfl) T.z_zip (pa_cons (pe_fldK (K := K) rfl (pv 0) rfl) (pa_cons (pe_fldK (K := K) rfl (pv 0) rfl) pa_nil))) (blkOk_by (own := [("stand", 1), ("one", 2)]) (N := ["self", "stand", "one"]) (sc := defScope s_Clocks_told) (by decide +kernel)) (fun _ _ _ _ _ => (pg_tupK (K := K) (n := 2) rfl (by rfl) (pgs_cons (pg_name (i := 1) sc_Clocks_told.nd rfl (Or.inl rfl)) (pgs_cons (pg_name (i := 2) sc_Clocks_told.nd rfl (Or.inl rfl)) pgs_nil)))) (fun _ _ _ _ _ => pts_nil) (fun _ _ _ _ _ => (pe_ifExp (pt_cmpR op_eq (pv 2) (pe_glob (v := .int 0) (by rfl) T.g_GOOD ⟨_, rfl⟩) (nomark _)) (pv 1) pe_non))))), run_body h hst fun pk pv O M U0 H0 X => ?_⟩
  unfold b_Clocks_told
  exact (sim_retO (sim_lc (SimI.w (sim_zip (sim_cons (sim_fld (by assumption) (by assumption) (SimE.w sim_var)) (sim_cons (sim_fld (by assumption) (by assumption) (SimE.w sim_var)) sim_nil)))) (sim_gT (sim_gsCons (sim_gN rfl) (sim_gsCons (sim_gN rfl) sim_gsNil))) sim_yes (sim_ifE (sim_test (SimE.w (sim_op op_eqS (SimE.w sim_var) (SimE.w sim_int)))) sim_var sim_non) rfl rfl))
def b_Clocks_width (T : Tx K mg base) : AS := (aSeq (aSet 1 (aFz (aLc (aItL (aFz (aMe0 T.c_Clocks "told" (A_Clocks_told T) (aVar 0) aArgs))) (gN 2) (aTest (aOp oNotN (aVar 2) (aC (.non)))) (aVar 2) [2])))
    (aRet (aOp oSub (aCB oMax (aCons (aVar 1) aNil)) (aCB oMin (aCons (aVar 1) aNil)))))
abbrev A_Clocks_width (T : Tx K mg base) : AF := bodyA [false] 2 (b_Clocks_width T)
theorem A_Clocks_width_of (T : Tx K mg base) {d0 : D} {q : AV → Prop} {x : Exn → Prop} (h : b_Clocks_width T ⟨fun _ => q (.fz .non), fun av _ => q av, fun _ => False, fun _ => False, fun e _ => x e⟩ [some (.fz d0), none, none]) : A_Clocks_width T [.fz d0] q x := ⟨rfl, h⟩
theorem ok_Clocks_width (T : Tx K mg base) : FnOk P w K mg base CX0 2 T.f_Clocks_width T.fd_Clocks_width ["self"] (spD K T.tb (A_Clocks_width T)) := by
  refine T.F_Clocks_width.ok sc_Clocks_width (fun vs H Q E h => spD_len h) (fun cdv A outer s0 H vs Q E hr h => ?_)
  have hst : L2.start ["self", "good", "stand"] vs = vs.map some ++ List.replicate 2 none := by
    unfold L2.start
    rw [spD_len h]
    rfl
  have cl_Clocks := T.C_Clocks
  refine ⟨_, (pss_cons (ps_setLc (i := 1) (own := [("stand", 2)]) (by rfl) sc_Clocks_width.nd rfl rfl (sw_true rfl rfl rfl (by decide +kernel)) (pi_listK (K := K) rfl (pe_meth0 (pv 0) T.C_Clocks T.m_Clocks_told (ok_Clocks_told T) (hr.mono (by decide)) T.b_Clocks_told .nil pass0)) (blkOk_by (own := [("stand", 2)]) (N := ["self", "good", "stand"]) (sc := defScope s_Clocks_width) (by decide +kernel)) (fun _ _ _ _ _ => (pg_name (i := 2) sc_Clocks_width.nd rfl (Or.inl rfl))) (fun _ _ _ _ _ => (pts_one (pt_cmpR op_notN (pv 2) pe_non (nomark _)))) (fun _ _ _ _ _ => (pv 2)))
      (pss_one (ps_ret (pe_op op_sub (pe_callB (cr_maxK (K := K) rfl (by rfl)) (by rfl) T.z_max bt_max (pa_cons (pv 1) pa_nil)) (pe_callB (cr_minK (K := K) rfl (by rfl)) (by rfl) T.z_min bt_min (pa_cons (pv 1) pa_nil)))))), run_body h hst fun pk pv O M U0 H0 X => ?_⟩
  unfold b_Clocks_width
  exact (sim_seq (sim_set rfl (sim_fz (sim_lc (sim_itLW (SimE.w (sim_fz (sim_me0 sim_var sim_args)))) (sim_gN rfl) (sim_test (SimE.w (sim_op op_notND (SimE.w sim_var) (SimE.w sim_non)))) sim_var rfl rfl)))
    (sim_ret (sim_op (op_i0 (fun _ _ _ => rfl)) (SimE.w (sim_cb bu_max (sim_consW (SimE.w sim_var) sim_nilW))) (SimE.w (sim_cb bu_min (sim_consW (SimE.w sim_var) sim_nilW))))))
def b_law_whole (T : Tx K mg base) : AS := (aRet (aAndV (aCB oIsi (aCons (aVar 0) (aCons (aC (.ty "int")) aNil))) (aNotV (aCB oIsi (aCons (aVar 0) (aCons (aC (.ty "bool")) aNil))))))
abbrev A_law_whole (T : Tx K mg base) : AF := bodyA [false] 0 (b_law_whole T)
theorem A_law_whole_of (T : Tx K mg base) {d0 : D} {q : AV → Prop} {x : Exn → Prop} (h : b_law_whole T ⟨fun _ => q (.fz .non), fun av _ => q av, fun _ => False, fun _ => False, fun e _ => x e⟩ [some (.fz d0)]) : A_law_whole T [.fz d0] q x := ⟨rfl, h⟩
theorem ok_law_whole (T : Tx K mg base) : FnOk P w K mg base CX0 1 T.f_law_whole T.fd_law_whole ["_law_x"] (spD K T.tb (A_law_whole T)) := by
  refine T.F_law_whole.ok sc_law_whole (fun vs H Q E h => spD_len h) (fun cdv A outer s0 H vs Q E hr h => ?_)
  have hst : L2.start ["_law_x"] vs = vs.map some ++ List.replicate 0 none := by
    unfold L2.start
    rw [spD_len h]
    rfl
  refine ⟨_, (pss_one (ps_ret (pe_and (pe_callB (call_isiKK (K := K) rfl) (by rfl) T.z_isinstance bt_isinstance (pa_cons (pv 0) (pa_cons (pe_bltn (v := .ty "int") (by rfl) T.z_int bt_int rfl) pa_nil))) (pe_one (pe_not (pe_callB (call_isiKK (K := K) rfl) (by rfl) T.z_isinstance bt_isinstance (pa_cons (pv 0) (pa_cons (pe_bltn (v := .ty "bool") (by rfl) T.z_bool bt_bool rfl) pa_nil)))))))), run_body h hst fun pk pv O M U0 H0 X => ?_⟩
  unfold b_law_whole
  exact (sim_ret (sim_andV (SimE.w (sim_cb bu_isi (sim_consW (SimE.w sim_var) (sim_consW (SimE.w sim_ty) sim_nilW)))) (sim_notV (SimE.w (sim_cb bu_isi (sim_consW (SimE.w sim_var) (sim_consW (SimE.w sim_ty) sim_nilW)))))))
def b_law_heard (T : Tx K mg base) : AS := (aSeq (aSetO 5 (aLst aNil))
    (aSeq (aFor (aRng1 (aCons (aCB oLen (aCons (aVarW 1) aNil)) aNil)) (gN 6)
    (aIf (aTest (aOp oIxL (aVar 2) (aVar 6)))
    (aApp 5 (aOp oAdd (aOp oIxL (aVarW 1) (aVar 6)) (aFz (aCall0 (A_law_draw T) (aSlot 0 (aArg (aOp oAdd (aVar 3) (aC (.int 1))) aArgs))))))
    (aIf (aTest (aVar 4))
    (aApp 5 (aOp oIxL (aFz (aLst (aCons (aC (.non)) (aCons (aC (.int 0)) (aCons (aOp oPow (aC (.int 10)) (aC (.int 12))) (aCons (aUn oNeg (aOp oPow (aC (.int 10)) (aC (.int 12)))) (aCons (aOp oSub (aFz (aCall0 (A_law_draw T) (aSlot 0 (aArg (aC (.int 200)) aArgs)))) (aC (.int 100))) aNil))))))) (aFz (aCall0 (A_law_draw T) (aSlot 0 (aArg (aC (.int 5)) aArgs))))))
    (aApp 5 (aC (.non))))))
    (aRetV 5)))
abbrev A_law_heard (T : Tx K mg base) : AFM := bodyM [4, 1, 0, 0, 0] 2 (b_law_heard T)
theorem A_law_heard_of (T : Tx K mg base) (l1 : List D) (d2 : D) (d3 : D) (d4 : D) {q : AV → List AV → Prop} {x : Exn → List AV → Prop} (h : b_law_heard T ⟨fun ρ => q (.fz .non) (mrg [.dr, .ol l1, .fz d2, .fz d3, .fz d4] (selM [true, true, false, false, false] ρ)), fun av ρ => q av (mrg [.dr, .ol l1, .fz d2, .fz d3, .fz d4] (selM [true, true, false, false, false] ρ)), fun _ => False, fun _ => False, fun e ρ => x e (mrg [.dr, .ol l1, .fz d2, .fz d3, .fz d4] (selM [true, true, false, false, false] ρ))⟩ [some (.dr), some (.ol l1), some (.fz d2), some (.fz d3), some (.fz d4), none, none]) : A_law_heard T [.dr, .ol l1, .fz d2, .fz d3, .fz d4] q x := ⟨rfl, h⟩
theorem ok_law_heard (T : Tx K mg base) : FnOk P w K mg base CX0 2 T.f_law_heard T.fd_law_heard ["_law_s", "_law_stands", "_law_good", "_law_fault", "_law_hears"] (spM K T.tb (A_law_heard T)) := by
  refine T.F_law_heard.ok sc_law_heard (fun vs H Q E h => spM_len h) (fun cdv A outer s0 H vs Q E hr h => ?_)
  have hst : L2.start ["_law_s", "_law_stands", "_law_good", "_law_fault", "_law_hears", "_law_heard_here", "_law_at"] vs = vs.map some ++ List.replicate 2 none := by
    unfold L2.start
    rw [spM_len h]
    rfl
  refine ⟨_, (pss_cons (ps_set (i := 5) sc_law_heard.nd rfl (Or.inl rfl) (pe_lst pa_nil))
      (pss_cons (ps_for PassesOwn.never rfl (pi_range1 (by rfl) T.z_range (pa_cons (pe_callB (call_lenK (K := K) rfl) (by rfl) T.z_len bt_len (pa_cons (pv 1) pa_nil)) pa_nil)) (pg_name (i := 6) sc_law_heard.nd rfl (Or.inl rfl))
      (pss_one (ps_if (pt_val (pe_ix (ix_listK (K := K) rfl) (pv 2) (pv 6) (fun _ _ => rfl)))
      (pss_one (ps_expr (pe_bm PySem.F.plainAttrs_list PySem.F.slot_list_append PySem.F.type_list_append mt_append (pv 5) (pa_cons (pe_op op_add (pe_ix (ix_listK (K := K) rfl) (pv 1) (pv 6) (fun _ _ => rfl)) (pe_call (ok_law_draw T) (hr.mono (by decide)) (by rfl) T.g_law_draw T.F_law_draw.kp T.b_law_draw .nil pass0 (pa_cons (pv 0) (pa_cons (pe_op op_add (pv 3) pe_int) pa_nil)))) pa_nil))))
      (pss_one (ps_if (pt_val (pv 4))
      (pss_one (ps_expr (pe_bm PySem.F.plainAttrs_list PySem.F.slot_list_append PySem.F.type_list_append mt_append (pv 5) (pa_cons (pe_ix (ix_listK (K := K) rfl) (pe_lst (pa_cons pe_non (pa_cons pe_int (pa_cons (pe_op op_pow pe_int pe_int) (pa_cons (pe_un un_neg (pe_op op_pow pe_int pe_int)) (pa_cons (pe_op op_sub (pe_call (ok_law_draw T) (hr.mono (by decide)) (by rfl) T.g_law_draw T.F_law_draw.kp T.b_law_draw .nil pass0 (pa_cons (pv 0) (pa_cons pe_int pa_nil))) pe_int) pa_nil)))))) (pe_call (ok_law_draw T) (hr.mono (by decide)) (by rfl) T.g_law_draw T.F_law_draw.kp T.b_law_draw .nil pass0 (pa_cons (pv 0) (pa_cons pe_int pa_nil))) (fun _ _ => rfl)) pa_nil))))
      (pss_one (ps_expr (pe_bm PySem.F.plainAttrs_list PySem.F.slot_list_append PySem.F.type_list_append mt_append (pv 5) (pa_cons pe_non pa_nil)))))))))
      (pss_one (ps_ret (pv 5))))), run_bodyM h hst fun pk pv O M U0 H0 X => ?_⟩
  unfold b_law_heard
  exact (sim_seq (sim_setO rfl (sim_lst sim_nil))
    (sim_seq (sim_for (sim_rng1 (sim_consW (SimE.w (sim_cb bu_len (sim_consW sim_varW sim_nilW))) sim_nilW)) (sim_gN rfl)
    (sim_if (sim_test (SimE.w (sim_op op_ixL (SimE.w sim_var) (SimE.w sim_var))))
    (sim_app (sim_op (op_i0 (fun _ _ _ => rfl)) (SimE.w (sim_op op_ixL sim_varW (SimE.w sim_var))) (SimE.w (sim_fz (sim_call (sim_slot (sim_arg (sim_op (op_i0 (fun _ _ _ => rfl)) (SimE.w sim_var) (SimE.w sim_int)) sim_args)))))))
    (sim_if (sim_test (SimE.w sim_var))
    (sim_app (sim_op op_ixL (SimE.w (sim_fz (sim_lst (sim_cons sim_non (sim_cons sim_int (sim_cons (sim_op (op_ic (fun _ _ _ => rfl)) (SimE.w sim_int) (SimE.w sim_int)) (sim_cons (sim_un (un_i fun _ _ => rfl) (SimE.w (sim_op (op_ic (fun _ _ _ => rfl)) (SimE.w sim_int) (SimE.w sim_int)))) (sim_cons (sim_op (op_i0 (fun _ _ _ => rfl)) (SimE.w (sim_fz (sim_call (sim_slot (sim_arg sim_int sim_args))))) (SimE.w sim_int)) sim_nil)))))))) (SimE.w (sim_fz (sim_call (sim_slot (sim_arg sim_int sim_args)))))))
    (sim_app sim_non))))
    (sim_retV rfl)))
def b_law_middle (T : Tx K mg base) : AS := (aSeq (aSet 1 (aFz (aSlO oSlL (aFz (aCBO oSortA (aCons (aFz (aLc (aItL (aVar 0)) (gN 2) (aTest (aOp oNotN (aVar 2) (aC (.non)))) (aVar 2) [2])) aNil))) (aPart (aC (.int 1))) (aPart (aUn oNeg (aC (.int 1)))))))
    (aRet (aOp oDiv (aOp oAdd (aOp oIxL (aVar 1) (aC (.int 0))) (aOp oIxL (aVar 1) (aUn oNeg (aC (.int 1))))) (aC (.int 2)))))
abbrev A_law_middle (T : Tx K mg base) : AF := bodyA [false] 2 (b_law_middle T)
theorem A_law_middle_of (T : Tx K mg base) {d0 : D} {q : AV → Prop} {x : Exn → Prop} (h : b_law_middle T ⟨fun _ => q (.fz .non), fun av _ => q av, fun _ => False, fun _ => False, fun e _ => x e⟩ [some (.fz d0), none, none]) : A_law_middle T [.fz d0] q x := ⟨rfl, h⟩
theorem ok_law_middle (T : Tx K mg base) : FnOk P w K mg base CX0 1 T.f_law_middle T.fd_law_middle ["_law_words"] (spD K T.tb (A_law_middle T)) := by
  refine T.F_law_middle.ok sc_law_middle (fun vs H Q E h => spD_len h) (fun cdv A outer s0 H vs Q E hr h => ?_)
  have hst : L2.start ["_law_words", "_law_rest", "_law_word"] vs = vs.map some ++ List.replicate 2 none := by
    unfold L2.start
    rw [spD_len h]
    rfl
  refine ⟨_, (pss_cons (ps_set (i := 1) sc_law_middle.nd rfl (Or.inl rfl) (pe_slice (sl_listK (K := K) rfl) (pe_callB (cr_sortA (K := K) rfl (units65 hr)) (by rfl) T.z_sorted bt_sorted (pa_cons (pe_lc (own := [("_law_word", 2)]) (by rfl) sc_law_middle.nd (pi_listK (K := K) rfl (pv 0)) (blkOk_by (own := [("_law_word", 2)]) (N := ["_law_words", "_law_rest", "_law_word"]) (sc := defScope s_law_middle) (by decide +kernel)) (fun _ _ _ _ _ => (pg_name (i := 2) sc_law_middle.nd rfl (Or.inl rfl))) (fun _ _ _ _ _ => (pts_one (pt_cmpR op_notN (pv 2) pe_non (nomark _)))) (fun _ _ _ _ _ => (pv 2))) pa_nil)) (po_some pe_int) (po_some (pe_un un_neg pe_int))))
      (pss_one (ps_ret (pe_op op_fdiv (pe_op op_add (pe_ix (ix_listK (K := K) rfl) (pv 1) pe_int (fun _ _ => rfl)) (pe_ix (ix_listK (K := K) rfl) (pv 1) (pe_un un_neg pe_int) (fun _ _ => rfl))) pe_int)))), run_body h hst fun pk pv O M U0 H0 X => ?_⟩
  unfold b_law_middle
  exact (sim_seq (sim_set rfl (sim_fz (sim_slO sl_lD (SimE.w (sim_fz (sim_cbO bu_sortA (sim_consW (SimE.w (sim_fz (sim_lc (sim_itLW (SimE.w sim_var)) (sim_gN rfl) (sim_test (SimE.w (sim_op op_notND (SimE.w sim_var) (SimE.w sim_non)))) sim_var rfl rfl))) sim_nilW)))) (sim_part (SimE.w sim_int)) (sim_part (SimE.w (sim_un (un_i fun _ _ => rfl) (SimE.w sim_int)))))))
    (sim_ret (sim_op (op_ic (fun _ _ _ => rfl)) (SimE.w (sim_op (op_i0 (fun _ _ _ => rfl)) (SimE.w (sim_op op_ixL (SimE.w sim_var) (SimE.w sim_int))) (SimE.w (sim_op op_ixL (SimE.w sim_var) (SimE.w (sim_un (un_i fun _ _ => rfl) (SimE.w sim_int))))))) (SimE.w sim_int))))
def b_law_clocks (T : Tx K mg base) : AS := (aSeq (aSet 1 (aOp oIxL (aFz (aLst (aCons (aC (.int 0)) (aCons (aC (.int 1)) (aCons (aC (.int 2)) (aCons (aC (.int 3)) (aCons (aC (.int 4)) (aCons (aC (.int 1000)) aNil)))))))) (aFz (aCall0 (A_law_draw T) (aSlot 0 (aArg (aC (.int 6)) aArgs))))))
    (aSeq (aSet 2 (aOp oIxL (aFz (aLst (aCons (aC (.int 0)) (aCons (aC (.int 1)) (aCons (aC (.int 2)) (aCons (aC (.int 3)) (aCons (aC (.int 4)) (aCons (aC (.int 1000)) aNil)))))))) (aFz (aCall0 (A_law_draw T) (aSlot 0 (aArg (aC (.int 6)) aArgs))))))
    (aSeq (aSet 3 (aOp oSub (aFz (aCall0 (A_law_draw T) (aSlot 0 (aArg (aC (.int 50)) aArgs)))) (aC (.int 25))))
    (aSeq (aSetO 4 (aLc (aRng1 (aCons (aOp oAdd (aC (.int 4)) (aFz (aCall0 (A_law_draw T) (aSlot 0 (aArg (aC (.int 4)) aArgs))))) aNil)) (gN 5) aYes (aOp oAdd (aVar 3) (aFz (aCall0 (A_law_draw T) (aSlot 0 (aArg (aOp oAdd (aOp oAdd (aOp oMul (aC (.int 2)) (aVar 1)) (aOp oMul (aC (.int 2)) (aVar 2))) (aC (.int 1))) aArgs))))) [5]))
    (aRetU1 4 (aVar 1) (aVar 2))))))
abbrev A_law_clocks (T : Tx K mg base) : AF := bodyA [true] 5 (b_law_clocks T)
theorem A_law_clocks_of (T : Tx K mg base) {q : AV → Prop} {x : Exn → Prop} (h : b_law_clocks T ⟨fun _ => q (.fz .non), fun av _ => q av, fun _ => False, fun _ => False, fun e _ => x e⟩ [some (.dr), none, none, none, none, none]) : A_law_clocks T [.dr] q x := ⟨rfl, h⟩
theorem ok_law_clocks (T : Tx K mg base) : FnOk P w K mg base CX0 2 T.f_law_clocks T.fd_law_clocks ["_law_s"] (spD K T.tb (A_law_clocks T)) := by
  refine T.F_law_clocks.ok sc_law_clocks (fun vs H Q E h => spD_len h) (fun cdv A outer s0 H vs Q E hr h => ?_)
  have hst : L2.start ["_law_s", "_law_fault", "_law_more", "_law_base", "_law_stands", "_law_k"] vs = vs.map some ++ List.replicate 5 none := by
    unfold L2.start
    rw [spD_len h]
    rfl
  refine ⟨_, (pss_cons (ps_set (i := 1) sc_law_clocks.nd rfl (Or.inr rfl) (pe_ix (ix_listK (K := K) rfl) (pe_lst (pa_cons pe_int (pa_cons pe_int (pa_cons pe_int (pa_cons pe_int (pa_cons pe_int (pa_cons pe_int pa_nil))))))) (pe_call (ok_law_draw T) (hr.mono (by decide)) (by rfl) T.g_law_draw T.F_law_draw.kp T.b_law_draw .nil pass0 (pa_cons (pv 0) (pa_cons pe_int pa_nil))) (fun _ _ => rfl)))
      (pss_cons (ps_set (i := 2) sc_law_clocks.nd rfl (Or.inr rfl) (pe_ix (ix_listK (K := K) rfl) (pe_lst (pa_cons pe_int (pa_cons pe_int (pa_cons pe_int (pa_cons pe_int (pa_cons pe_int (pa_cons pe_int pa_nil))))))) (pe_call (ok_law_draw T) (hr.mono (by decide)) (by rfl) T.g_law_draw T.F_law_draw.kp T.b_law_draw .nil pass0 (pa_cons (pv 0) (pa_cons pe_int pa_nil))) (fun _ _ => rfl)))
      (pss_cons (ps_set (i := 3) sc_law_clocks.nd rfl (Or.inr rfl) (pe_op op_sub (pe_call (ok_law_draw T) (hr.mono (by decide)) (by rfl) T.g_law_draw T.F_law_draw.kp T.b_law_draw .nil pass0 (pa_cons (pv 0) (pa_cons pe_int pa_nil))) pe_int))
      (pss_cons (ps_setLc (i := 4) (own := [("_law_k", 5)]) (by rfl) sc_law_clocks.nd rfl rfl (sw_true rfl rfl rfl (by decide +kernel)) (pi_range1 (by rfl) T.z_range (pa_cons (pe_op op_add pe_int (pe_call (ok_law_draw T) (hr.mono (by decide)) (by rfl) T.g_law_draw T.F_law_draw.kp T.b_law_draw .nil pass0 (pa_cons (pv 0) (pa_cons pe_int pa_nil)))) pa_nil)) (blkOk_by (own := [("_law_k", 5)]) (N := ["_law_s", "_law_fault", "_law_more", "_law_base", "_law_stands", "_law_k"]) (sc := defScope s_law_clocks) (by decide +kernel)) (fun _ _ _ _ _ => (pg_name (i := 5) sc_law_clocks.nd rfl (Or.inl rfl))) (fun _ _ _ _ _ => pts_nil) (fun _ _ _ _ _ => (pe_op op_add (pv 3) (pe_call (ok_law_draw T) (hr.mono (by decide)) (by rfl) T.g_law_draw T.F_law_draw.kp T.b_law_draw .nil pass0 (pa_cons (pv 0) (pa_cons (pe_op op_add (pe_op op_add (pe_op op_mul pe_int (pv 1)) (pe_op op_mul pe_int (pv 2))) pe_int) pa_nil))))))
      (pss_one (ps_ret (pe_tup (pa_cons (pv 4) (pa_cons (pv 1) (pa_cons (pv 2) pa_nil)))))))))), run_body h hst fun pk pv O M U0 H0 X => ?_⟩
  unfold b_law_clocks
  exact (sim_seq (sim_set rfl (sim_op op_ixL (SimE.w (sim_fz (sim_lst (sim_cons sim_int (sim_cons sim_int (sim_cons sim_int (sim_cons sim_int (sim_cons sim_int (sim_cons sim_int sim_nil))))))))) (SimE.w (sim_fz (sim_call (sim_slot (sim_arg sim_int sim_args)))))))
    (sim_seq (sim_set rfl (sim_op op_ixL (SimE.w (sim_fz (sim_lst (sim_cons sim_int (sim_cons sim_int (sim_cons sim_int (sim_cons sim_int (sim_cons sim_int (sim_cons sim_int sim_nil))))))))) (SimE.w (sim_fz (sim_call (sim_slot (sim_arg sim_int sim_args)))))))
    (sim_seq (sim_set rfl (sim_op (op_i0 (fun _ _ _ => rfl)) (SimE.w (sim_fz (sim_call (sim_slot (sim_arg sim_int sim_args))))) (SimE.w sim_int)))
    (sim_seq (sim_setO rfl (sim_lc (SimI.w (sim_rng1 (sim_consW (SimE.w (sim_op (op_i0 (fun _ _ _ => rfl)) (SimE.w sim_int) (SimE.w (sim_fz (sim_call (sim_slot (sim_arg sim_int sim_args))))))) sim_nilW))) (sim_gN rfl) sim_yes (sim_op (op_i0 (fun _ _ _ => rfl)) (SimE.w sim_var) (SimE.w (sim_fz (sim_call (sim_slot (sim_arg (sim_op (op_i0 (fun _ _ _ => rfl)) (SimE.w (sim_op (op_i0 (fun _ _ _ => rfl)) (SimE.w (sim_op (op_ic (fun _ _ _ => rfl)) (SimE.w sim_int) (SimE.w sim_var))) (SimE.w (sim_op (op_ic (fun _ _ _ => rfl)) (SimE.w sim_int) (SimE.w sim_var))))) (SimE.w sim_int)) sim_args)))))) rfl rfl))
    (sim_retU1 rfl sim_var sim_var)))))
def b_law_change (T : Tx K mg base) : AS := (aSeq (aSet 3 (aFz (aLc (aRng1 (aCons (aCB oLen (aCons (aVarW 2) aNil)) aNil)) (gN 4) (aTest (aOp oNe (aOp oIxL (aVarW 2) (aVar 4)) (aC (.int 0)))) (aVar 4) [4])))
    (aIf (aTest (aOp oEq (aCB oLen (aCons (aVar 3) aNil)) (aC (.int 0))))
    (aSeq (aSet 4 (aFz (aCall0 (A_law_draw T) (aSlot 0 (aArg (aCB oLen (aCons (aVarW 2) aNil)) aArgs)))))
    (aSeq (mDrop (mFz (mMe0 T.c_Clocks "fall" (A_Clocks_fall T) 1 (aArg (aVar 4) aArgs))))
    (aPut 2 (aVar 4) (aC (.int 1)))))
    (aIf (aTest (aOp oEq (aOp oIxL (aVarW 2) (aOp oIxL (aVar 3) (aC (.int 0)))) (aC (.int 1))))
    (aSeq (mDrop (mFz (mMe0 T.c_Clocks "rise" (A_Clocks_rise T) 1 (aArg (aOp oIxL (aVar 3) (aC (.int 0))) aArgs))))
    (aPut 2 (aOp oIxL (aVar 3) (aC (.int 0))) (aC (.int 2))))
    aNext)))
abbrev A_law_change (T : Tx K mg base) : AFM := bodyM [4, 6, 1] 2 (b_law_change T)
theorem A_law_change_of (T : Tx K mg base) (c1 x1 : Addr) (n1 : List Str) (w1 : List V) (a1 : List AV) (l2 : List D) {q : AV → List AV → Prop} {x : Exn → List AV → Prop} (h : b_law_change T ⟨fun ρ => q (.fz .non) (mrg [.dr, .ob c1 x1 n1 w1 a1, .ol l2] (selM [true, true, true] ρ)), fun av ρ => q av (mrg [.dr, .ob c1 x1 n1 w1 a1, .ol l2] (selM [true, true, true] ρ)), fun _ => False, fun _ => False, fun e ρ => x e (mrg [.dr, .ob c1 x1 n1 w1 a1, .ol l2] (selM [true, true, true] ρ))⟩ [some (.dr), some (.ob c1 x1 n1 w1 a1), some (.ol l2), none, none]) : A_law_change T [.dr, .ob c1 x1 n1 w1 a1, .ol l2] q x := ⟨rfl, h⟩
theorem ok_law_change (T : Tx K mg base) : FnOk P w K mg base CX0 4 T.f_law_change T.fd_law_change ["_law_s", "_law_clocks_here", "_law_state"] (spM K T.tb (A_law_change T)) := by
  refine T.F_law_change.ok sc_law_change (fun vs H Q E h => spM_len h) (fun cdv A outer s0 H vs Q E hr h => ?_)
  have hst : L2.start ["_law_s", "_law_clocks_here", "_law_state", "_law_bad", "_law_at"] vs = vs.map some ++ List.replicate 2 none := by
    unfold L2.start
    rw [spM_len h]
    rfl
  have cl_Clocks := T.C_Clocks
  refine ⟨_, (pss_cons (ps_setLc (i := 3) (own := [("_law_at", 4)]) (by rfl) sc_law_change.nd rfl rfl (sw_true rfl rfl rfl (by decide +kernel)) (pi_range1 (by rfl) T.z_range (pa_cons (pe_callB (call_lenK (K := K) rfl) (by rfl) T.z_len bt_len (pa_cons (pv 2) pa_nil)) pa_nil)) (blkOk_by (own := [("_law_at", 4)]) (N := ["_law_s", "_law_clocks_here", "_law_state", "_law_bad", "_law_at"]) (sc := defScope s_law_change) (by decide +kernel)) (fun _ _ _ _ _ => (pg_name (i := 4) sc_law_change.nd rfl (Or.inl rfl))) (fun _ _ _ _ _ => (pts_one (pt_cmpR op_ne (pe_ix (ix_listK (K := K) rfl) (pv 2) (pv 4) (fun _ _ => rfl)) pe_int (nomark _)))) (fun _ _ _ _ _ => (pv 4)))
      (pss_one (ps_if (pt_cmpR op_eq (pe_callB (call_lenK (K := K) rfl) (by rfl) T.z_len bt_len (pa_cons (pv 3) pa_nil)) pe_int (nomark _))
      (pss_cons (ps_set (i := 4) sc_law_change.nd rfl (Or.inl rfl) (pe_call (ok_law_draw T) (hr.mono (by decide)) (by rfl) T.g_law_draw T.F_law_draw.kp T.b_law_draw .nil pass0 (pa_cons (pv 0) (pa_cons (pe_callB (call_lenK (K := K) rfl) (by rfl) T.z_len bt_len (pa_cons (pv 2) pa_nil)) pa_nil))))
      (pss_cons (ps_expr (pe_meS (pv 1) T.C_Clocks T.m_Clocks_fall (ok_Clocks_fall T) (hr.mono (by decide)) T.b_Clocks_fall .nil coldAt (pa_cons (pv 4) pa_nil)))
      (pss_one (ps_asg pe_int (pg_sub (pv 2) (pv 4) set_list)))))
      (pss_one (ps_if (pt_cmpR op_eq (pe_ix (ix_listK (K := K) rfl) (pv 2) (pe_ix (ix_listK (K := K) rfl) (pv 3) pe_int (fun _ _ => rfl)) (fun _ _ => rfl)) pe_int (nomark _))
      (pss_cons (ps_expr (pe_meS (pv 1) T.C_Clocks T.m_Clocks_rise (ok_Clocks_rise T) (hr.mono (by decide)) T.b_Clocks_rise .nil coldAt (pa_cons (pe_ix (ix_listK (K := K) rfl) (pv 3) pe_int (fun _ _ => rfl)) pa_nil)))
      (pss_one (ps_asg pe_int (pg_sub (pv 2) (pe_ix (ix_listK (K := K) rfl) (pv 3) pe_int (fun _ _ => rfl)) set_list))))
      pss_nil))))), run_bodyM h hst fun pk pv O M U0 H0 X => ?_⟩
  unfold b_law_change
  exact (sim_seq (sim_set rfl (sim_fz (sim_lc (SimI.w (sim_rng1 (sim_consW (SimE.w (sim_cb bu_len (sim_consW sim_varW sim_nilW))) sim_nilW))) (sim_gN rfl) (sim_test (SimE.w (sim_op op_neS (SimE.w (sim_op op_ixL sim_varW (SimE.w sim_var))) (SimE.w sim_int)))) sim_var rfl rfl)))
    (sim_if (sim_test (SimE.w (sim_op op_eqS (SimE.w (sim_cb bu_len (sim_consW (SimE.w sim_var) sim_nilW))) (SimE.w sim_int))))
    (sim_seq (sim_set rfl (sim_fz (sim_call (sim_slot (sim_arg (sim_cb bu_len (sim_consW sim_varW sim_nilW)) sim_args)))))
    (sim_seq (simM_drop (simM_fz (simM_me0 (sim_arg sim_var sim_args))))
    (sim_put sim_int (SimE.w sim_var))))
    (sim_if (sim_test (SimE.w (sim_op op_eqS (SimE.w (sim_op op_ixL sim_varW (SimE.w (sim_op op_ixL (SimE.w sim_var) (SimE.w sim_int))))) (SimE.w sim_int))))
    (sim_seq (simM_drop (simM_fz (simM_me0 (sim_arg (sim_op op_ixL (SimE.w sim_var) (SimE.w sim_int)) sim_args))))
    (sim_put sim_int (SimE.w (sim_op op_ixL (SimE.w sim_var) (SimE.w sim_int)))))
    sim_next)))
def b_law_turn (T : Tx K mg base) : AS := (aSeq (aSet 6 (aFz (aLc (aItL (aVarW 3)) (gN 11) aYes (aOp oEq (aVar 11) (aC (.int 0))) [11])))
    (aSeq (aSetO 7 (aLc (aItL (aVarW 3)) (gN 9) aYes (aFz (aCallK (A_law_heard T) (aSlot 0 (aSlotO 2 (aArg (aVar 6) (aArg (aVar 4) (aArg (aOp oIn (aC (.int 1)) (aVarW 3)) aArgs))))))) [9]))
    (aSeq (aSetO 8 (aLc (aItL (aVarW 3)) (gN 9) aYes (aFz (aCall0 (A_law_draw T) (aSlot 0 (aArg (aOp oAdd (aVar 5) (aC (.int 1))) aArgs)))) [9]))
    (aSeq (aFor (aRng1 (aCons (aCB oLen (aCons (aVarW 3) aNil)) aNil)) (gN 9)
    (aIf (aTest (aOp oEq (aOp oIxL (aVarW 3) (aVar 9)) (aC (.int 1))))
    (aSeq (aPut 7 (aVar 9) (aFz (aLst aNil)))
    (aPut 8 (aVar 9) (aUn oNeg (aC (.int 5)))))
    aNext))
    (aSeq (aSet 10 (aOp oCatS (aCB oRepr (aCons (aVarW 7) aNil)) (aCB oRepr (aCons (aVarW 8) aNil))))
    (aSeq (aSeal 8 (aSeal 7 (mDrop (mFz (mMe0 T.c_Clocks "turn" (A_Clocks_turn T) 1 (aArg (aVar 7) (aArg (aVar 8) aArgs)))))))
    (aSeq (aFor (aRng1 (aCons (aCB oLen (aCons (aVarW 3) aNil)) aNil)) (gN 9)
    (aIf (aTest (aOp oNe (aOp oIxL (aVarW 3) (aVar 9)) (aC (.int 1))))
    (aSeq (aPut 2 (aVar 9) (aOp oAdd (aFz (aCall0 (A_law_middle T) (aArg (aOp oIxL (aVarW 7) (aVar 9)) aArgs))) (aOp oIxL (aVarW 8) (aVar 9))))
    (aPut 3 (aVar 9) (aC (.int 0))))
    aNext))
    (aRet (aOp oEq (aOp oCatS (aCB oRepr (aCons (aVarW 7) aNil)) (aCB oRepr (aCons (aVarW 8) aNil))) (aVar 10))))))))))
abbrev A_law_turn (T : Tx K mg base) : AFM := bodyM [4, 6, 1, 1, 0, 0] 6 (b_law_turn T)
theorem A_law_turn_of (T : Tx K mg base) (c1 x1 : Addr) (n1 : List Str) (w1 : List V) (a1 : List AV) (l2 : List D) (l3 : List D) (d4 : D) (d5 : D) {q : AV → List AV → Prop} {x : Exn → List AV → Prop} (h : b_law_turn T ⟨fun ρ => q (.fz .non) (mrg [.dr, .ob c1 x1 n1 w1 a1, .ol l2, .ol l3, .fz d4, .fz d5] (selM [true, true, true, true, false, false] ρ)), fun av ρ => q av (mrg [.dr, .ob c1 x1 n1 w1 a1, .ol l2, .ol l3, .fz d4, .fz d5] (selM [true, true, true, true, false, false] ρ)), fun _ => False, fun _ => False, fun e ρ => x e (mrg [.dr, .ob c1 x1 n1 w1 a1, .ol l2, .ol l3, .fz d4, .fz d5] (selM [true, true, true, true, false, false] ρ))⟩ [some (.dr), some (.ob c1 x1 n1 w1 a1), some (.ol l2), some (.ol l3), some (.fz d4), some (.fz d5), none, none, none, none, none, none]) : A_law_turn T [.dr, .ob c1 x1 n1 w1 a1, .ol l2, .ol l3, .fz d4, .fz d5] q x := ⟨rfl, h⟩
theorem ok_law_turn (T : Tx K mg base) : FnOkG P w K mg base CX0 6 T.f_law_turn T.fd_law_turn ["_law_s", "_law_clocks_here", "_law_stands", "_law_state", "_law_fault", "_law_more"] (spM K T.tb (A_law_turn T)) := by
  refine fun_okG T.F_law_turn sc_law_turn (fun vs H Q E h => spM_len h) (fun cdv _ A gd outer s0 H vs Q E hr h => ?_)
  have hst : L2.start ["_law_s", "_law_clocks_here", "_law_stands", "_law_state", "_law_fault", "_law_more", "_law_good", "_law_heard_here", "_law_gains", "_law_at", "_law_text", "_law_one"] vs = vs.map some ++ List.replicate 6 none := by
    unfold L2.start
    rw [spM_len h]
    rfl
  have cl_Clocks := T.C_Clocks
  refine ⟨_, (pss_cons (ps_set (i := 6) sc_law_turn.nd rfl (Or.inr rfl) (pe_lc (own := [("_law_one", 11)]) (by rfl) sc_law_turn.nd (pi_listK (K := K) rfl (pv 3)) (blkOk_by (own := [("_law_one", 11)]) (N := ["_law_s", "_law_clocks_here", "_law_stands", "_law_state", "_law_fault", "_law_more", "_law_good", "_law_heard_here", "_law_gains", "_law_at", "_law_text", "_law_one"]) (sc := defScope s_law_turn) (by decide +kernel)) (fun _ _ _ _ _ => (pg_name (i := 11) sc_law_turn.nd rfl (Or.inl rfl))) (fun _ _ _ _ _ => pts_nil) (fun _ _ _ _ _ => (pe_cmpR op_eq (pv 11) pe_int (nomark _)))))
      (pss_cons (ps_setLc (i := 7) (own := [("_law_at", 9)]) (by rfl) sc_law_turn.nd rfl rfl (sw_true rfl rfl rfl (by decide +kernel)) (pi_listK (K := K) rfl (pv 3)) (blkOk_by (own := [("_law_at", 9)]) (N := ["_law_s", "_law_clocks_here", "_law_stands", "_law_state", "_law_fault", "_law_more", "_law_good", "_law_heard_here", "_law_gains", "_law_at", "_law_text", "_law_one"]) (sc := defScope s_law_turn) (by decide +kernel)) (fun _ _ _ _ _ => (pg_name (i := 9) sc_law_turn.nd rfl (Or.inl rfl))) (fun _ _ _ _ _ => pts_nil) (fun _ _ _ _ _ => (pe_call (ok_law_heard T) (hr.mono (by decide)) (by rfl) T.g_law_heard T.F_law_heard.kp T.b_law_heard .nil pass0 (pa_cons (pv 0) (pa_cons (pv 2) (pa_cons (pv 6) (pa_cons (pv 4) (pa_cons (pe_cmpR (op_inK (K := K) rfl) pe_int (pv 3) (by with_unfolding_all rfl)) pa_nil))))))))
      (pss_cons (ps_setLc (i := 8) (own := [("_law_at", 9)]) (by rfl) sc_law_turn.nd rfl rfl (sw_true rfl rfl rfl (by decide +kernel)) (pi_listK (K := K) rfl (pv 3)) (blkOk_by (own := [("_law_at", 9)]) (N := ["_law_s", "_law_clocks_here", "_law_stands", "_law_state", "_law_fault", "_law_more", "_law_good", "_law_heard_here", "_law_gains", "_law_at", "_law_text", "_law_one"]) (sc := defScope s_law_turn) (by decide +kernel)) (fun _ _ _ _ _ => (pg_name (i := 9) sc_law_turn.nd rfl (Or.inl rfl))) (fun _ _ _ _ _ => pts_nil) (fun _ _ _ _ _ => (pe_call (ok_law_draw T) (hr.mono (by decide)) (by rfl) T.g_law_draw T.F_law_draw.kp T.b_law_draw .nil pass0 (pa_cons (pv 0) (pa_cons (pe_op op_add (pv 5) pe_int) pa_nil)))))
      (pss_cons (ps_for PassesOwn.never rfl (pi_range1 (by rfl) T.z_range (pa_cons (pe_callB (call_lenK (K := K) rfl) (by rfl) T.z_len bt_len (pa_cons (pv 3) pa_nil)) pa_nil)) (pg_name (i := 9) sc_law_turn.nd rfl (Or.inl rfl))
      (pss_one (ps_if (pt_cmpR op_eq (pe_ix (ix_listK (K := K) rfl) (pv 3) (pv 9) (fun _ _ => rfl)) pe_int (nomark _))
      (pss_cons (ps_asg (pe_lst pa_nil) (pg_sub (pv 7) (pv 9) set_list))
      (pss_one (ps_asg (pe_un un_neg pe_int) (pg_sub (pv 8) (pv 9) set_list))))
      pss_nil)))
      (pss_cons (ps_set (i := 10) sc_law_turn.nd rfl (Or.inl rfl) (pe_op op_catS (pe_callB (cr_repr (K := K) rfl gd (units65 hr)) (by rfl) T.z_repr bt_repr (pa_cons (pv 7) pa_nil)) (pe_callB (cr_repr (K := K) rfl gd (units65 hr)) (by rfl) T.z_repr bt_repr (pa_cons (pv 8) pa_nil))))
      (pss_cons (ps_expr (pe_meS (pv 1) T.C_Clocks T.m_Clocks_turn (ok_Clocks_turn T) (hr.mono (by decide)) T.b_Clocks_turn .nil coldAt (pa_cons (pv 7) (pa_cons (pv 8) pa_nil))))
      (pss_cons (ps_for PassesOwn.never rfl (pi_range1 (by rfl) T.z_range (pa_cons (pe_callB (call_lenK (K := K) rfl) (by rfl) T.z_len bt_len (pa_cons (pv 3) pa_nil)) pa_nil)) (pg_name (i := 9) sc_law_turn.nd rfl (Or.inl rfl))
      (pss_one (ps_if (pt_cmpR op_ne (pe_ix (ix_listK (K := K) rfl) (pv 3) (pv 9) (fun _ _ => rfl)) pe_int (nomark _))
      (pss_cons (ps_asg (pe_op op_add (pe_call (ok_law_middle T) (hr.mono (by decide)) (by rfl) T.g_law_middle T.F_law_middle.kp T.b_law_middle .nil pass0 (pa_cons (pe_ix (ix_listK (K := K) rfl) (pv 7) (pv 9) (fun _ _ => rfl)) pa_nil)) (pe_ix (ix_listK (K := K) rfl) (pv 8) (pv 9) (fun _ _ => rfl))) (pg_sub (pv 2) (pv 9) set_list))
      (pss_one (ps_asg pe_int (pg_sub (pv 3) (pv 9) set_list))))
      pss_nil)))
      (pss_one (ps_ret (pe_cmpR op_eq (pe_op op_catS (pe_callB (cr_repr (K := K) rfl gd (units65 hr)) (by rfl) T.z_repr bt_repr (pa_cons (pv 7) pa_nil)) (pe_callB (cr_repr (K := K) rfl gd (units65 hr)) (by rfl) T.z_repr bt_repr (pa_cons (pv 8) pa_nil))) (pv 10) (nomark _))))))))))), run_bodyM h hst fun pk pv O M U0 H0 X => ?_⟩
  unfold b_law_turn
  exact (sim_seq (sim_set rfl (sim_fz (sim_lc (sim_itLW sim_varW) (sim_gN rfl) sim_yes (sim_op op_eqS (SimE.w sim_var) (SimE.w sim_int)) rfl rfl)))
    (sim_seq (sim_setO rfl (sim_lc (sim_itLW sim_varW) (sim_gN rfl) sim_yes (sim_fz (sim_callK (sim_slot (sim_slotO (sim_arg sim_var (sim_arg sim_var (sim_arg (sim_op op_inS' (SimE.w sim_int) sim_varW) sim_args))))))) rfl rfl))
    (sim_seq (sim_setO rfl (sim_lc (sim_itLW sim_varW) (sim_gN rfl) sim_yes (sim_fz (sim_call (sim_slot (sim_arg (sim_op (op_i0 (fun _ _ _ => rfl)) (SimE.w sim_var) (SimE.w sim_int)) sim_args)))) rfl rfl))
    (sim_seq (sim_for (sim_rng1 (sim_consW (SimE.w (sim_cb bu_len (sim_consW sim_varW sim_nilW))) sim_nilW)) (sim_gN rfl)
    (sim_if (sim_test (SimE.w (sim_op op_eqS (SimE.w (sim_op op_ixL sim_varW (SimE.w sim_var))) (SimE.w sim_int))))
    (sim_seq (sim_put (sim_fz (sim_lst sim_nil)) (SimE.w sim_var))
    (sim_put (sim_un (un_i fun _ _ => rfl) (SimE.w sim_int)) (SimE.w sim_var)))
    sim_next))
    (sim_seq (sim_set rfl (sim_op op_catSD (SimE.w (sim_cb bu_repr (sim_consW sim_varW sim_nilW))) (SimE.w (sim_cb bu_repr (sim_consW sim_varW sim_nilW)))))
    (sim_seq (sim_seal rfl (sim_seal rfl (simM_drop (simM_fz (simM_me0 (sim_arg sim_var (sim_arg sim_var sim_args)))))))
    (sim_seq (sim_for (sim_rng1 (sim_consW (SimE.w (sim_cb bu_len (sim_consW sim_varW sim_nilW))) sim_nilW)) (sim_gN rfl)
    (sim_if (sim_test (SimE.w (sim_op op_neS (SimE.w (sim_op op_ixL sim_varW (SimE.w sim_var))) (SimE.w sim_int))))
    (sim_seq (sim_put (sim_op (op_i0 (fun _ _ _ => rfl)) (SimE.w (sim_fz (sim_call (sim_arg (sim_op op_ixL sim_varW (SimE.w sim_var)) sim_args)))) (SimE.w (sim_op op_ixL sim_varW (SimE.w sim_var)))) (SimE.w sim_var))
    (sim_put sim_int (SimE.w sim_var)))
    sim_next))
    (sim_ret (sim_op op_eqS (SimE.w (sim_op op_catSD (SimE.w (sim_cb bu_repr (sim_consW sim_varW sim_nilW))) (SimE.w (sim_cb bu_repr (sim_consW sim_varW sim_nilW))))) (SimE.w sim_var))))))))))
def b_law_1 (T : Tx K mg base) : AS := (aSeq (mIf (mNot (mTest (mFz (mCall0 (A_law_turn T) (aSlot 1 (aSlotO 6 (aSlotO 5 (aSlotO 7 (aArg (aVar 3) (aArg (aVar 4) aArgs))))))))))
    (aRet (aC (.bl false)))
    aNext)
    (aSeq (aSet 9 (aFz (aLc (aRng1 (aCons (aCB oLen (aCons (aVarW 7) aNil)) aNil)) (gN 14) aYes (aIfE (aTest (aOp oEq (aOp oIxL (aVarW 7) (aVar 14)) (aC (.int 0)))) (aOp oIxL (aVarW 5) (aVar 14)) (aC (.non))) [14])))
    (aSeq (aSet 10 (aFz (aLc (aItL (aVar 9)) (gN 13) (aTest (aOp oNotN (aVar 13) (aC (.non)))) (aVar 13) [13])))
    (aSeq (aSetO 11 (aMeF0 T.c_Clocks "told" (A_Clocks_told T) 6 aArgs))
    (aSeq (aIf (aOr (aNot (aTest (aCB oIsi (aCons (aVarW 11) (aCons (aC (.ty "list")) aNil))))) (aOr (aTest (aOp oNeD (aVarW 11) (aVar 9))) (aNot (aTest (aCB oAll (aCons (aFz (aLc (aItL (aVarW 11)) (gN 13) aYes (aOrV (aFz (aCall0 (A_law_whole T) (aArg (aVar 13) aArgs))) (aOp oIsN (aVar 13) (aC (.non)))) [13])) aNil))))))
    (aRet (aC (.bl false)))
    aNext)
    (aSeq (aApp 11 (aC (.int 5)))
    (aSeq (aRevS 11)
    (aSeq (aIf (aTest (aOp oNeD (aFz (aMeF0 T.c_Clocks "told" (A_Clocks_told T) 6 aArgs)) (aVar 9)))
    (aRet (aC (.bl false)))
    aNext)
    (aSeq (aSet 12 (aOp oSub (aCB oMax (aCons (aVar 10) aNil)) (aCB oMin (aCons (aVar 10) aNil))))
    (aIf (aOr (aTest (aOp oNe (aFz (aMeF0 T.c_Clocks "width" (A_Clocks_width T) 6 aArgs)) (aVar 12))) (aTest (aOp oGt (aVar 12) (aFz (aCall0 (A_slack_of T) (aArg (aVar 3) (aArg (aVar 4) aArgs)))))))
    (aRet (aC (.bl false)))
    aNext))))))))))
def b_law (T : Tx K mg base) : AS := (aSeq (aAsgU1 2 3 4 (aCall0 (A_law_clocks T) (aSlot 1 aArgs)))
    (aSeq (aSetO 5 (aCBO oList (aCons (aVarW 2) aNil)))
    (aSeq (aSetO 6 (aMkK0 T.c_Clocks 2 (A_Clocks_init T) [.kw 1, .kw 0] 2 (aCons (aVar 4) (aCons (aVar 3) aNil))))
    (aSeq (aIf (aTest (aOp oNeD (aVarW 2) (aVarW 5)))
    (aRet (aC (.bl false)))
    aNext)
    (aSeq (aApp 2 (aC (.int 7)))
    (aSeq (aSetO 7 (aLc (aItL (aVarW 5)) (gN 13) aYes (aC (.int 0)) [13]))
    (aSeq (aFor (aRng1 (aCons (aOp oAdd (aC (.int 4)) (aFz (aCall0 (A_law_draw T) (aSlot 1 (aArg (aC (.int 27)) aArgs))))) aNil)) (gN 8)
    (aSeq (aIf (aTest (aOp oEq (aFz (aCall0 (A_law_draw T) (aSlot 1 (aArg (aC (.int 3)) aArgs)))) (aC (.int 0))))
    (mDrop (mFz (mCall0 (A_law_change T) (aSlot 1 (aSlotO 6 (aSlotO 7 aArgs))))))
    aNext)
    (b_law_1 T)))
    (aRet (aC (.bl true))))))))))
section
variable {ρ : Env} {nx : Env → Prop} {rt : AV → Env → Prop} {bk ct : Env → Prop} {ex : Exn → Env → Prop} {i k : Nat} {e : AE} {Q : D → Prop} {L : List D → Prop} {X : Exn → Prop}
theorem w_me0 {C : Addr} {m : Str} {A : AF} {r : AA} {O : AV → Prop} (q : e ρ (objQ C m fun d => r ρ (fun as => callQ A ρ O (fun _ => False) (.val d :: as)) X) X) : aMe0 C m A e r ρ O X := q
theorem w_objQ {C : Addr} {m : Str} {ns : List Str} {ds : List D} (h : ns.contains m = false) (q : Q (.obj C ns ds)) : objQ C m Q (.obj C ns ds) := ⟨rfl, h, q⟩
end
theorem within_A (T : Tx K mg base) {v lo hi : Int} {q : AV → Prop} {x : Exn → Prop} (h1 : lo ≤ v) (h2 : v ≤ hi) (h : q (.fz (.bl true))) : A_within T [.fz (.int v), .fz (.int lo), .fz (.int hi)] q x := by
  refine A_within_of T ?_
  unfold b_within
  walk_at "aw"
  rw [decide_eq_true h1]
  walk_at "aw"
  rw [decide_eq_true h2]
  exact h
theorem check_A (T : Tx K mg base) {v lo hi : Int} {q : AV → Prop} {x : Exn → Prop} (h1 : lo ≤ v) (h2 : v ≤ hi) (h : q (.fz .non)) : A_check T [.fz (.int v), .fz (.int lo), .fz (.int hi)] q x := by
  refine A_check_of T ?_
  unfold b_check
  walk_at "aw"
  refine within_A T h1 h2 ?_
  walk_at "aw"
  exact h
theorem w_ixE {ds : List D} {k : Int} {Q P : D → Prop} (h : ∃ d, atI ds k = some d ∧ P d) (q : ∀ d, P d → Q d) : oIxL (.lst ds) (.int k) Q := by
  obtain ⟨d, h1, h2⟩ := h
  exact w_ixL h1 (q d h2)
theorem comp_mapA {α : Type} {g : AG} {te : AE} {ρ : Env} {X : Exn → Prop} {Q : List D → Prop} {fd : α → D} {xs : List α} {acc : List D} (f : α → D) (hl : acc.length + xs.length ≤ 1000000)
    (h : ∀ (x : α), x ∈ xs → ∀ (Q : D → Prop), Q (f x) → g (fd x) ρ (fun ρ2 => te ρ2 Q X)) (q : Q (acc ++ xs.map f)) : aComp g aYes te ρ X (xs.map fd) acc Q := by
  induction xs generalizing acc with
  | nil => rwa [List.map_nil, List.append_nil] at q
  | cons d ds ih =>
    rw [List.length_cons] at hl
    refine h d List.mem_cons_self _ ⟨by omega, ih (by rw [List.length_append]; show acc.length + 1 + _ ≤ _; omega) (fun e he => h e (List.mem_cons_of_mem _ he)) ?_⟩
    rwa [List.append_assoc]
theorem blsOf_all {α : Type} (p : α → Bool) : ∀ xs : List α, blsOf (xs.map fun x => D.bl (p x)) = some (xs.map p)
  | [] => rfl
  | x :: xs => by
    show (blsOf (xs.map fun x => D.bl (p x))).map (p x :: ·) = _
    rw [blsOf_all p xs]
    rfl
theorem w_allB {α : Type} {xs : List α} {p : α → Bool} {Q : D → Prop} (q : Q (.bl (xs.all p))) : oAll [.lst (xs.map fun x => D.bl (p x))] Q := w_bls (blsOf_all p xs) (by
  have e : (xs.map p).all id = xs.all p := by rw [List.all_map]; rfl
  first | exact q | (rw [e]; exact q))
theorem w_anyB {α : Type} {xs : List α} {p : α → Bool} {Q : D → Prop} (q : Q (.bl (xs.any p))) : oAny [.lst (xs.map fun x => D.bl (p x))] Q := w_bls (blsOf_all p xs) (by
  have e : (xs.map p).any id = xs.any p := by rw [List.any_map]; rfl
  first | exact q | (rw [e]; exact q))
def notIn (lo hi : Int) : D → Prop
  | .int v => v < lo ∨ hi < v
  | .bl _ => True
  | _ => False
theorem within_N (T : Tx K mg base) {d : D} {lo hi : Int} {q : AV → Prop} {x : Exn → Prop} (n : notIn lo hi d) (h : q (.fz (.bl false))) : A_within T [.fz d, .fz (.int lo), .fz (.int hi)] q x := by
  refine A_within_of T ?_
  cases d with
  | int v =>
    have n' : v < lo ∨ hi < v := n
    unfold b_within
    walk_at "aw"
    refine cond_dec (fun h1 => ?_) (fun h1 => ?_)
    · walk_at "aw"
      rw [decide_eq_false (show ¬ v ≤ hi by omega)]
      exact h
    · exact h
  | bl b =>
    unfold b_within
    walk_at "aw"
    exact h
  | _ => exact (show False from n).elim
theorem check_N (T : Tx K mg base) {d : D} {lo hi : Int} {q : AV → Prop} {x : Exn → Prop} (n : notIn lo hi d) (h : x ⟨T.c_BadNumber, [], []⟩) : A_check T [.fz d, .fz (.int lo), .fz (.int hi)] q x := by
  refine A_check_of T ?_
  unfold b_check
  walk_at "aw"
  refine within_N T n ?_
  walk_at "aw"
  exact h
theorem w_fldC {ρ : Env} {nx : Env → Prop} {rt : AV → Env → Prop} {bk ct : Env → Prop} {ex : Exn → Env → Prop} {i : Nat} {e : AE} {C dx : Addr} {f : Str} {ns : List Str} {ws : List V} {as : List AV} (h2 : ρ[i]? = some (some (.ob C dx ns ws as))) (h3 : ns.contains f = false ∧ ns.length < 1000)
    (q : e ρ (fun d => ∀ v : V, nx (ρ.set i (some (.ob C dx (ns ++ [f]) (ws ++ [v]) (as ++ [.fz d]))))) (fun x => ex x ρ)) : aFldSet i C f e ⟨nx, rt, bk, ct, ex⟩ ρ := by
  unfold aFldSet
  have this : (fun d => obQ ρ i C fun dx ns ws as => ns.contains f = false ∧ ns.length < 1000 ∧ ∀ v : V, nx (ρ.set i (some (.ob C dx (ns ++ [f]) (ws ++ [v]) (as ++ [.fz d]))))) = fun d => ∀ v : V, nx (ρ.set i (some (.ob C dx (ns ++ [f]) (ws ++ [v]) (as ++ [.fz d])))) := by
    funext d
    unfold obQ
    rw [h2]
    exact propext ⟨fun h => h.2.2.2, fun h => ⟨rfl, h3.1, h3.2, h⟩⟩
  dsimp only
  rw [this]
  exact q
theorem okDs_ints {k : Nat} : ∀ ns : List Int, okDs k (ns.map D.int) = true
  | [] => by cases k <;> rfl
  | n :: ns => by
    show (okD k (.int n) && okDs k (ns.map D.int)) = true
    rw [okDs_ints ns]
    cases k <;> rfl
theorem deqs_ints : ∀ ns : List Int, deqs (ns.map D.int) (ns.map D.int) = true
  | [] => rfl
  | n :: ns => by
    show ((n == n) && deqs (ns.map D.int) (ns.map D.int)) = true
    rw [deqs_ints ns, beq_self_eq_true]
    rfl
def isI : D → Bool
  | .int _ => true
  | _ => false
def numB (d : D) : Bool := (numD d).isSome
theorem num_cases {d : D} (h : numB d = true) : (∃ v, d = .int v) ∨ ∃ b, d = .bl b := by
  cases d <;> first | exact .inl ⟨_, rfl⟩ | exact .inr ⟨_, rfl⟩ | cases h
theorem num_in {d : D} {lo hi : Int} (h : numB d = true) (n : ¬ notIn lo hi d) : ∃ v, d = .int v ∧ lo ≤ v ∧ v ≤ hi := by
  rcases num_cases h with ⟨v, rfl⟩ | ⟨b, rfl⟩
  · have n' : ¬ (v < lo ∨ hi < v) := n
    exact ⟨v, rfl, by omega, by omega⟩
  · exact absurd trivial n
theorem plain_A (T : Tx K mg base) {d : D} {q : AV → Prop} {x : Exn → Prop} (n : numB d = true) (h : q (.fz (.bl (isI d)))) : A_plain T [.fz d] q x := by
  refine A_plain_of T ?_
  rcases num_cases n with ⟨v, rfl⟩ | ⟨b, rfl⟩
  · unfold b_plain
    walk_at "aw"
    exact h
  · unfold b_plain
    walk_at "aw"
    exact h
theorem slack_of_A (T : Tx K mg base) {f m : Int} {q : AV → Prop} {x : Exn → Prop} (h : q (.fz (.int (2 * f + 2 * m)))) : A_slack_of T [.fz (.int f), .fz (.int m)] q x := by
  refine A_slack_of_of T ?_
  unfold b_slack_of
  walk_at "aw"
  exact h
theorem inF_int {v : Int} : ∀ {ns : List Int}, inF (.int v) (ns.map .int) = decide (v ∈ ns)
  | [] => by simp [inF]
  | n :: ns => by
    have ih := inF_int (v := v) (ns := ns)
    unfold inF at ih ⊢
    rw [List.map_cons, List.any_cons, ih]
    show ((n == v) || decide (v ∈ ns)) = _
    by_cases h : n = v
    · subst h
      simp
    · have h' : ¬ v = n := fun z => h z.symm
      simp [h, h']
def clF : List Str := ["stands", "state", "err", "gain"]
def clA (C dx : Addr) (ws : List V) (cs ss : List Int) (f m : Int) : AV := .ob C dx clF ws [.fz (.lst (cs.map .int)), .ol (ss.map .int), .fz (.int f), .fz (.int m)]
def clO (C : Addr) (cs ss : List Int) (f m : Int) : D := .obj C clF [.lst (cs.map .int), .lst (ss.map .int), .int f, .int m]
theorem w_fldO {ρ : Env} {nx : Env → Prop} {rt : AV → Env → Prop} {bk ct : Env → Prop} {ex : Exn → Env → Prop} {i : Nat} {e : AO} {C dx : Addr} {f : Str} {ns : List Str} {ws : List V} {as : List AV} (h2 : ρ[i]? = some (some (.ob C dx ns ws as))) (h3 : ns.contains f = false ∧ ns.length < 1000)
    (q : e ρ (fun av => ∀ v : V, nx (ρ.set i (some (.ob C dx (ns ++ [f]) (ws ++ [v]) (as ++ [av]))))) (fun x => ex x ρ)) : aFldSetO i C f e ⟨nx, rt, bk, ct, ex⟩ ρ := by
  unfold aFldSetO
  have this : (fun d => obQ ρ i C fun dx ns ws as => ns.contains f = false ∧ ns.length < 1000 ∧ ∀ v : V, nx (ρ.set i (some (.ob C dx (ns ++ [f]) (ws ++ [v]) (as ++ [d]))))) = fun d => ∀ v : V, nx (ρ.set i (some (.ob C dx (ns ++ [f]) (ws ++ [v]) (as ++ [d])))) := by
    funext d
    unfold obQ
    rw [h2]
    exact propext ⟨fun h => h.2.2.2, fun h => ⟨rfl, h3.1, h3.2, h⟩⟩
  dsimp only
  rw [this]
  exact q
theorem w_fldRe {ρ : Env} {nx : Env → Prop} {rt : AV → Env → Prop} {bk ct : Env → Prop} {ex : Exn → Env → Prop} {i n : Nat} {e : AO} {C dx : Addr} {f : Str} {ns : List Str} {ws : List V} {as : List AV} {a0 : AV} (h2 : ρ[i]? = some (some (.ob C dx ns ws as))) (h3 : fldIx f ns 0 = some n) (h4 : as[n]? = some a0) (h5 : ns.length < 1000)
    (q : e ρ (fun av => ∀ v : V, nx (ρ.set i (some (.ob C dx ns (ws.set n v) (as.set n av))))) (fun x => ex x ρ)) : aFldRe i C f e ⟨nx, rt, bk, ct, ex⟩ ρ := by
  unfold aFldRe
  have this : (fun av => obfQ ρ i C f fun dx ns ws as n _ => ns.length < 1000 ∧ ∀ v : V, nx (ρ.set i (some (.ob C dx ns (ws.set n v) (as.set n av))))) = fun av => ∀ v : V, nx (ρ.set i (some (.ob C dx ns (ws.set n v) (as.set n av)))) := by
    funext d
    unfold obfQ obQ
    rw [h2]
    dsimp only
    rw [h3]
    dsimp only
    rw [h4]
    exact propext ⟨fun h => h.2.2, fun h => ⟨rfl, h5, h⟩⟩
  dsimp only
  rw [this]
  exact q
theorem mx_le {ns : List Int} {b w : Int} (ne : ns ≠ []) (h : ∀ n ∈ ns, b ≤ n ∧ n ≤ b + w) : mxI ns - mnI ns ≤ w := by
  have h1 := h _ (mxI_is ne).1
  have h2 := h _ (mnI_is ne).1
  omega
theorem clocks_O (T : Tx K mg base) {ns : List Int} {f m : Int} {O : AV → Prop} (l4 : 4 ≤ ns.length) (l7 : ns.length ≤ 7) (f0 : 0 ≤ f) (f1 : f ≤ 1000) (m0 : 0 ≤ m) (m1 : m ≤ 1000) (hw : mxI ns - mnI ns ≤ 2 * f + 2 * m)
    (h : ∀ dx ws, O (clA T.c_Clocks dx ws ns (List.replicate ns.length 0) f m)) : mkK T.c_Clocks (A_Clocks_init T) O [.ol (ns.map .int), .fz (.int f), .fz (.int m)] := fun dx => by
  have ne : ns ≠ [] := fun z => by rw [z] at l4; exact absurd l4 (by decide)
  refine A_Clocks_init_of T _ _ _ _ _ _ _ _ ?_
  unfold b_Clocks_init
  walk_at "aw"
  rw [List.length_map, decide_eq_false (by omega)]
  walk_at "aw"
  rw [List.length_map, decide_eq_false (by omega)]
  walk_at "aw"
  refine check_A T f0 f1 ?_
  walk_at "aw"
  refine check_A T m0 m1 ?_
  walk_at "aw"
  refine comp_mapA (xs := ns) (fun _ => .bl true) (by show 0 + _ ≤ _; omega) (fun n hn Q hQ => ?_) ?_
  · walk_at "aw"
    refine plain_A T rfl ?_
    walk_at "aw"
    exact hQ
  rw [List.nil_append]
  walk_at "aw"
  refine w_allB (p := fun _ => true) ?_
  rw [show (ns.all fun _ => true) = true from List.all_eq_true.mpr fun _ _ => rfl]
  walk_at "aw"
  refine w_ints (intsOf_map _) ⟨ne, ?_⟩
  walk_at "aw"
  refine w_ints (intsOf_map _) ⟨ne, ?_⟩
  walk_at "aw"
  refine slack_of_A T ?_
  walk_at "aw"
  rw [decide_eq_false (by omega)]
  walk_at "aw"
  refine w_fldC rfl ⟨rfl, Nat.le_of_ble_eq_true rfl⟩ ?_
  walk_at "aw"
  intro v1
  walk_at "aw"
  refine w_fldO rfl ⟨rfl, Nat.le_of_ble_eq_true rfl⟩ ?_
  walk_at "aw"
  rw [List.length_map]
  refine w_rep (by omega) ?_
  walk_at "aw"
  intro v2
  walk_at "aw"
  refine w_fldC rfl ⟨rfl, Nat.le_of_ble_eq_true rfl⟩ ?_
  walk_at "aw"
  intro v3
  walk_at "aw"
  refine w_fldC rfl ⟨rfl, Nat.le_of_ble_eq_true rfl⟩ ?_
  walk_at "aw"
  intro v4
  walk_at "aw"
  refine ⟨rfl, ?_⟩
  have := h dx [v1, v2, v3, v4]
  unfold clA clF at this
  rw [List.map_replicate] at this
  exact ⟨_, rfl, this⟩
theorem w_olA {P : List D → Prop} {ds : List D} (q : P ds) : olA P (.ol ds) := q
theorem enumD_it {xs : List D} {i : Nat} {d : D} (h : (enumD xs)[i]? = some d) : ∃ y, d = .tup [.int (i : Nat), y] ∧ xs[i]? = some y := by
  obtain ⟨x, y, rfl, h1, h2⟩ := zipD_at h
  rw [List.getElem?_map] at h1
  cases e : (List.range xs.length)[i]? with
  | none => rw [e] at h1; cases h1
  | some k =>
    rw [e] at h1
    obtain ⟨hk, e2⟩ := List.getElem?_eq_some_iff.mp e
    rw [List.getElem_range] at e2
    subst e2
    cases h1
    exact ⟨y, rfl, h2⟩
def anyBad (ss : List Int) : Bool := ss.any fun s => !decide (s = 0)
theorem fall_A (T : Tx K mg base) {dx : Addr} {ws : List V} {cs ss : List Int} {f m : Int} {d : D} {q : AV → List AV → Prop} {x : Exn → List AV → Prop} (hl : ss.length = cs.length) (h7 : cs.length ≤ 7) (hd : numB d = true)
    (h1 : notIn 0 ((cs.length : Nat) - 1) d → x ⟨T.c_BadNumber, [], []⟩ [clA T.c_Clocks dx ws cs ss f m, .fz d])
    (h2 : ∀ a : Int, d = .int a → 0 ≤ a → a < (cs.length : Nat) → anyBad ss = true → x ⟨T.c_TooFew, [], []⟩ [clA T.c_Clocks dx ws cs ss f m, .fz d])
    (h3 : ∀ a : Int, d = .int a → 0 ≤ a → a < (cs.length : Nat) → anyBad ss = false → q (.fz .non) [clA T.c_Clocks dx ws cs (ss.set a.toNat 1) f m, .fz d]) : A_Clocks_fall T [clA T.c_Clocks dx ws cs ss f m, .fz d] q x := by
  unfold clA at h1 h2 h3 ⊢
  refine A_Clocks_fall_of T _ _ _ _ _ _ ?_
  unfold b_Clocks_fall
  walk_at "aw"
  rw [List.length_map]
  by_cases nd : notIn 0 ((cs.length : Nat) - 1) d
  · refine check_N T nd ?_
    exact h1 nd
  obtain ⟨a, rfl, a0, a1⟩ := num_in hd nd
  refine check_A T a0 a1 ?_
  walk_at "aw"
  refine comp_mapA (xs := ss) (fun s => .bl (!decide (s = 0))) (by show 0 + _ ≤ _; omega) (fun n hn Q hQ => ?_) ?_
  · walk_at "aw"
    exact hQ
  rw [List.nil_append]
  walk_at "aw"
  refine w_anyB ?_
  cases hb : anyBad ss with
  | true =>
    rw [show (ss.any fun s => !decide (s = 0)) = true from hb]
    walk_at "aw"
    exact h2 a rfl a0 (by omega) hb
  | false =>
    rw [show (ss.any fun s => !decide (s = 0)) = false from hb]
    walk_at "aw"
    unfold aPutLF
    walk_at "aw"
    refine w_olA ?_
    refine w_ixQ (ixN_of (j := a.toNat) (by omega) (by rw [List.length_map]; omega)) ?_
    have := h3 a rfl a0 (by omega) hb
    rw [List.map_set] at this
    exact this
theorem rise_A (T : Tx K mg base) {dx : Addr} {ws : List V} {cs ss : List Int} {f m : Int} {d : D} {q : AV → List AV → Prop} {x : Exn → List AV → Prop} (hl : ss.length = cs.length) (h7 : cs.length ≤ 7) (hd : numB d = true)
    (h1 : notIn 0 ((cs.length : Nat) - 1) d → x ⟨T.c_BadNumber, [], []⟩ [clA T.c_Clocks dx ws cs ss f m, .fz d])
    (h2 : ∀ a : Int, d = .int a → 0 ≤ a → a < (cs.length : Nat) → ss.getD a.toNat 0 ≠ 1 → x ⟨T.c_NoStep, [], []⟩ [clA T.c_Clocks dx ws cs ss f m, .fz d])
    (h3 : ∀ a : Int, d = .int a → 0 ≤ a → a < (cs.length : Nat) → ss.getD a.toNat 0 = 1 → q (.fz .non) [clA T.c_Clocks dx ws cs (ss.set a.toNat 2) f m, .fz d]) : A_Clocks_rise T [clA T.c_Clocks dx ws cs ss f m, .fz d] q x := by
  unfold clA at h1 h2 h3 ⊢
  refine A_Clocks_rise_of T _ _ _ _ _ _ ?_
  unfold b_Clocks_rise
  walk_at "aw"
  rw [List.length_map]
  by_cases nd : notIn 0 ((cs.length : Nat) - 1) d
  · refine check_N T nd ?_
    exact h1 nd
  obtain ⟨a, rfl, a0, a1⟩ := num_in hd nd
  refine check_A T a0 a1 ?_
  walk_at "aw"
  have la : a.toNat < ss.length := by omega
  have ea : ss[a.toNat]? = some (ss.getD a.toNat 0) := by rw [List.getD_eq_getElem?_getD, List.getElem?_eq_getElem la]; rfl
  refine w_ixL (d := .int (ss.getD a.toNat 0)) (by
    have := atI_map (f := D.int) ea
    rwa [show ((a.toNat : Nat) : Int) = a by omega] at this) ?_
  walk_at "aw"
  by_cases hs : ss.getD a.toNat 0 = 1
  · rw [decide_eq_true hs]
    walk_at "aw"
    unfold aPutLF
    walk_at "aw"
    refine w_olA ?_
    refine w_ixQ (ixN_of (j := a.toNat) (by omega) (by rw [List.length_map]; omega)) ?_
    have := h3 a rfl a0 (by omega) hs
    rw [List.map_set] at this
    exact this
  · rw [decide_eq_false hs]
    walk_at "aw"
    exact h2 a rfl a0 (by omega) hs
/-- the word that clock k may be heard to tell -/
def WordOk (cs ss : List Int) (f : Int) (k : Nat) (d : D) : Prop := (ss.getD k 0 = 0 ∧ ∃ v, d = .int v ∧ cs.getD k 0 ≤ v ∧ v ≤ cs.getD k 0 + f) ∨ (ss.getD k 0 = 2 ∧ d = .non) ∨ (ss.getD k 0 = 1 ∧ (d = .non ∨ ∃ v, d = .int v))
theorem getI {xs : List Int} {k : Nat} (h : k < xs.length) : atI (xs.map D.int) (k : Int) = some (.int (xs.getD k 0)) := atI_map (by rw [List.getD_eq_getElem?_getD, List.getElem?_eq_getElem h]; rfl)
theorem judge_word_A (T : Tx K mg base) {cs ss : List Int} {f m : Int} {k : Nat} {d : D} {q : AV → Prop} {x : Exn → Prop} (hl : ss.length = cs.length) (hk : k < cs.length) (ok : WordOk cs ss f k d) (h : q (.fz .non)) : A_Clocks_judge_word T [.fz (clO T.c_Clocks cs ss f m), .fz d, .fz (.int (k : Nat))] q x := by
  unfold clO
  refine A_Clocks_judge_word_of T ?_
  unfold b_Clocks_judge_word
  walk_at "aw"
  refine w_ixL (getI (by omega)) ?_
  walk_at "aw"
  rcases ok with ⟨e, v, rfl, v0, v1⟩ | ⟨e, rfl⟩ | ⟨e, he⟩
  · rw [e]
    show cond true _ _
    walk_at "aw"
    refine w_ixL (getI hk) ?_
    walk_at "aw"
    refine w_ixL (getI hk) ?_
    walk_at "aw"
    refine check_A T v0 v1 ?_
    walk_at "aw"
    exact h
  · rw [e]
    show cond false _ _
    walk_at "aw"
    refine w_ixL (getI (by omega)) ?_
    walk_at "aw"
    rw [e]
    show cond true _ _
    walk_at "aw"
    exact h
  · rw [e]
    show cond false _ _
    walk_at "aw"
    refine w_ixL (getI (by omega)) ?_
    walk_at "aw"
    rw [e]
    show cond false _ _
    walk_at "aw"
    rcases he with rfl | ⟨v, rfl⟩
    · walk_at "aw"
      exact h
    · walk_at "aw"
      refine plain_A T (x := fun _ => False) rfl ?_
      walk_at "aw"
      exact h
def RowOkC (cs ss : List Int) (f : Int) (row : List D) : Prop := row.length = cs.length ∧ ∀ k d, row[k]? = some d → WordOk cs ss f k d
theorem judge_A (T : Tx K mg base) {cs ss gs : List Int} {f m : Int} {rows : List (List D)} {q : AV → Prop} {x : Exn → Prop} (hl : ss.length = cs.length) (h7 : cs.length ≤ 7) (hr : rows.length = cs.length) (hg : gs.length = cs.length) (ok : ∀ k r, rows[k]? = some r → ss.getD k 0 ≠ 1 → RowOkC cs ss f r) (gok : ∀ k g, gs[k]? = some g → ss.getD k 0 ≠ 1 → 0 ≤ g ∧ g ≤ m) (h : q (.fz .non)) :
    A_Clocks_judge T [.fz (clO T.c_Clocks cs ss f m), .fz (.lst (rows.map .lst)), .fz (.lst (gs.map .int))] q x := by
  unfold clO
  refine A_Clocks_judge_of T ?_
  unfold b_Clocks_judge
  walk_at "aw"
  rw [List.length_map, List.length_map, hr, decide_eq_true rfl]
  walk_at "aw"
  rw [List.length_map, hg, decide_eq_true rfl]
  walk_at "aw"
  refine ⟨⟨by omega, by omega⟩, ?_⟩
  rw [Int.toNat_natCast]
  refine loop_rng (fun i ρ => ∃ v4 v5 v6 : Option AV, ρ = [some (.fz (.obj T.c_Clocks clF [.lst (cs.map .int), .lst (ss.map .int), .int f, .int m])), some (.fz (.lst (rows.map .lst))), some (.fz (.lst (gs.map .int))), some (.fz (.int (cs.length : Nat))), v4, v5, v6]) ⟨_, _, _, rfl⟩ ?_ ?_
  · rintro i ρ K' hi ⟨v4, v5, v6, rfl⟩ hK
    obtain ⟨row, er⟩ : ∃ row, rows[i]? = some row := ⟨_, List.getElem?_eq_getElem (by omega)⟩
    obtain ⟨g, eg⟩ : ∃ g, gs[i]? = some g := ⟨_, List.getElem?_eq_getElem (by omega)⟩
    walk_at "aw"
    rw [Int.zero_add]
    refine w_ixL (getI (by omega)) ?_
    walk_at "aw"
    by_cases hs : ss.getD i 0 = 1
    · rw [decide_eq_true hs]
      walk_at "aw"
      exact hK _ ⟨_, _, _, rfl⟩
    rw [decide_eq_false hs]
    walk_at "aw"
    have hrow := ok i row er hs
    have hgg := gok i g eg hs
    refine w_ixL (atI_map (f := D.lst) er) ?_
    walk_at "aw"
    rw [hrow.1, decide_eq_true rfl]
    walk_at "aw"
    refine w_ixL (atI_map (f := D.int) eg) ?_
    walk_at "aw"
    refine within_A T hgg.1 hgg.2 ?_
    walk_at "aw"
    refine w_ixL (atI_map (f := D.lst) er) ?_
    walk_at "aw"
    refine loop_inv (fun _ ρ => ∃ v5 v6 : Option AV, ρ = [some (.fz (.obj T.c_Clocks clF [.lst (cs.map .int), .lst (ss.map .int), .int f, .int m])), some (.fz (.lst (rows.map .lst))), some (.fz (.lst (gs.map .int))), some (.fz (.int (cs.length : Nat))), some (.fz (.int (i : Nat))), v5, v6]) ⟨_, _, rfl⟩ ?_ ?_
    · rintro j d ρ K2 ed ⟨v5, v6, rfl⟩ hK2
      obtain ⟨y, rfl, ey⟩ := enumD_it ed
      have hj : j < cs.length := by rw [← hrow.1]; exact (List.getElem?_eq_some_iff.mp ey).1
      walk_at "aw"
      refine w_me ?_
      walk_at "aw"
      refine w_objQ rfl ?_
      walk_at "aw"
      refine judge_word_A T hl hj (hrow.2 j y ey) ?_
      walk_at "aw"
      exact hK2 _ ⟨_, _, rfl⟩
    · rintro ρ ⟨v5, v6, rfl⟩
      exact hK _ ⟨_, _, _, rfl⟩
  · rintro ρ ⟨v4, v5, v6, rfl⟩
    exact h
def toI : D → Int
  | .int v => v
  | _ => 0
def srt (ns : List Int) : List Int := ((ns.map D.int).mergeSort leD).map toI
theorem srt_len (ns : List Int) : (srt ns).length = ns.length := by unfold srt; rw [List.length_map, List.length_mergeSort, List.length_map]
theorem srt_d (ns : List Int) : (ns.map D.int).mergeSort leD = (srt ns).map D.int := by
  unfold srt
  rw [List.map_map]
  refine (List.map_id _).symm.trans (List.map_congr_left fun d hd => ?_)
  obtain ⟨n, _, rfl⟩ := List.mem_map.mp (List.mem_mergeSort.mp hd)
  rfl
def midV (ns : List Int) : Int := ((srt ns).getD 1 0 + (srt ns).getD (ns.length - 2) 0) / 2
theorem cut_in {α : Type} (g : α → D) {xs : List α} (h : 2 ≤ xs.length) : cutD (xs.map g) (some 1) (some (-1)) = ((xs.drop 1).take (xs.length - 2)).map g := by
  unfold cutD
  rw [List.length_map]
  have e1 : HT.sIx xs.length 0 (some 1) = 1 := by unfold HT.sIx; simp; omega
  have e2 : HT.sIx xs.length xs.length (some (-1)) = xs.length - 1 := by unfold HT.sIx; simp; omega
  rw [e1, e2, List.map_take, List.map_drop]
  rfl
theorem sort_ok (ns : List Int) : okDs 8 (ns.map D.int) = true ∧ alikeD (ns.map D.int) = true ∧ sortableD (ns.map D.int) = true := by
  refine ⟨okDs_ints ns, List.all_eq_true.mpr fun d hd => List.all_eq_true.mpr fun e he => ?_, ?_⟩
  · obtain ⟨a, _, rfl⟩ := List.mem_map.mp hd
    obtain ⟨b, _, rfl⟩ := List.mem_map.mp he
    rfl
  · unfold sortableD
    rw [show (ns.map D.int).all noTup = true from List.all_eq_true.mpr fun d hd => by
      obtain ⟨a, _, rfl⟩ := List.mem_map.mp hd
      rfl, Bool.or_true]
theorem in_first {ns : List Int} (h3 : 3 ≤ ns.length) : atI ((((srt ns).drop 1).take ((srt ns).length - 2)).map D.int) 0 = some (.int ((srt ns).getD 1 0)) := by
  have hl := srt_len ns
  refine atI_map (i := 0) ?_
  rw [List.getElem?_take_of_lt (by omega), List.getElem?_drop, List.getD_eq_getElem?_getD, List.getElem?_eq_getElem (show 1 + 0 < (srt ns).length by omega)]
  rfl
theorem in_last {ns : List Int} (h3 : 3 ≤ ns.length) : atI ((((srt ns).drop 1).take ((srt ns).length - 2)).map D.int) (-1) = some (.int ((srt ns).getD (ns.length - 2) 0)) := by
  have hl := srt_len ns
  have ln : (((srt ns).drop 1).take ((srt ns).length - 2)).length = ns.length - 2 := by rw [List.length_take, List.length_drop]; omega
  obtain ⟨xs, z, e⟩ : ∃ xs z, ((srt ns).drop 1).take ((srt ns).length - 2) = xs ++ [z] := by
    have ne : ((srt ns).drop 1).take ((srt ns).length - 2) ≠ [] := fun z => by rw [z] at ln; simp at ln; omega
    exact ⟨_, _, (List.dropLast_concat_getLast ne).symm⟩
  rw [e, List.map_append]
  refine (L2.atI_last _ _).trans ?_
  have lx : xs.length = ns.length - 3 := by rw [e, List.length_append] at ln; simp at ln; omega
  have e1 : (((srt ns).drop 1).take ((srt ns).length - 2))[ns.length - 3]? = some z := by rw [e, List.getElem?_append_right (by omega), lx, Nat.sub_self]; rfl
  rw [List.getElem?_take_of_lt (by omega), List.getElem?_drop, show 1 + (ns.length - 3) = ns.length - 2 by omega] at e1
  rw [List.getD_eq_getElem?_getD, e1]
  rfl
theorem middle_A (T : Tx K mg base) {ns : List Int} {q : AV → Prop} {x : Exn → Prop} (h3 : 3 ≤ ns.length) (h7 : ns.length ≤ 7) (h : q (.fz (.int (midV ns)))) : A_middle T [.fz (.lst (ns.map .int))] q x := by
  refine A_middle_of T ?_
  have hl := srt_len ns
  obtain ⟨s1, s2, s3⟩ := sort_ok ns
  unfold b_middle
  walk_at "aw"
  rw [List.length_map, decide_eq_false (by omega)]
  walk_at "aw"
  refine w_sortA s1 s2 s3 ?_
  rw [srt_d]
  walk_at "aw"
  rw [cut_in D.int (by omega)]
  refine w_ixL (in_first h3) ?_
  walk_at "aw"
  refine w_ixL (in_last h3) ?_
  walk_at "aw"
  exact h
theorem w_meF {ρ : Env} {C dx : Addr} {m : Str} {A : AF} {i : Nat} {r : AA} {O : AV → Prop} {X : Exn → Prop} {ns : List Str} {ws : List V} {as : List AV} (h1 : ρ[i]? = some (some (.ob C dx ns ws as))) (h2 : ns.contains m = false) (q : r ρ (fun as' => callFO A ρ O X (.slot i :: as')) X) : aMeF C m A i r ρ O X := w_obQ h1 ⟨h2, q⟩
theorem w_meF0 {ρ : Env} {C dx : Addr} {m : Str} {A : AF} {i : Nat} {r : AA} {O : AV → Prop} {X : Exn → Prop} {ns : List Str} {ws : List V} {as : List AV} (h1 : ρ[i]? = some (some (.ob C dx ns ws as))) (h2 : ns.contains m = false) (q : r ρ (fun as' => callFO A ρ O (fun _ => False) (.slot i :: as')) X) : aMeF0 C m A i r ρ O X := w_obQ h1 ⟨h2, q⟩
def isNI : D → Bool
  | .int _ => true
  | .non => true
  | _ => false
def intz (ds : List D) : List Int := ds.filterMap fun d => match d with | .int v => some v | _ => none
theorem fil_ints : ∀ {ds : List D}, ds.all isNI = true → (ds.filter fun d => !isNonD d).map id = (intz ds).map D.int
  | [], _ => rfl
  | d :: ds, h => by
    rw [List.all_cons, Bool.and_eq_true] at h
    have ih := fil_ints h.2
    cases d <;> first
      | (show D.int _ :: (ds.filter fun d => !isNonD d).map id = _; rw [ih]; rfl)
      | exact ih
      | cases h.1
theorem ni_ok {k : Nat} : ∀ {ds : List D}, ds.all isNI = true → okDs k ds = true ∧ deqs ds ds = true
  | [], _ => ⟨by cases k <;> rfl, rfl⟩
  | d :: ds, h => by
    rw [List.all_cons, Bool.and_eq_true] at h
    obtain ⟨h1, h2⟩ := ni_ok (k := k) h.2
    refine ⟨?_, ?_⟩
    · show (okD k d && okDs k ds) = true
      rw [h1]
      cases d <;> first | (cases k <;> rfl) | cases h.1
    · show (deq d d && deqs ds ds) = true
      rw [h2]
      cases d <;> first | (show (_ == _ && true) = true; rw [beq_self_eq_true]; rfl) | rfl | cases h.1
theorem range_getD {xs : List Int} {n : Nat} (h : xs.length = n) : (List.range n).map (fun k => xs.getD k 0) = xs := by
  subst h
  refine List.ext_getElem (by rw [List.length_map, List.length_range]) fun i h1 h2 => ?_
  rw [List.getElem_map, List.getElem_range, List.getD_eq_getElem?_getD, List.getElem?_eq_getElem h2]
  rfl
theorem rset {n i : Nat} {F G : Nat → Int} {v : Int} (hG : ∀ k, k < n → G k = if k = i then v else F k) : ((List.range n).map F).set i v = (List.range n).map G := by
  refine List.ext_getElem (by rw [List.length_set, List.length_map, List.length_map]) fun k h1 h2 => ?_
  have hk : k < n := by rw [List.length_map, List.length_range] at h2; exact h2
  simp only [List.getElem_set, List.getElem_map, List.getElem_range]
  rw [hG k hk]
  by_cases z : i = k
  · rw [if_pos z, if_pos z.symm]
  · rw [if_neg z, if_neg fun e => z e.symm]
theorem getD_range {n k : Nat} {F : Nat → Int} (h : k < n) : ((List.range n).map F).getD k 0 = F k := by
  rw [List.getD_eq_getElem?_getD, List.getElem?_map, List.getElem?_range h]
  rfl
def newK (cs ss gs : List Int) (rows : List (List D)) (k : Nat) : Int := if ss.getD k 0 = 1 then cs.getD k 0 else midV (intz (rows.getD k [])) + gs.getD k 0
def newC (cs ss gs : List Int) (rows : List (List D)) : List Int := (List.range cs.length).map (newK cs ss gs rows)
def newT (ss : List Int) : List Int := ss.map fun s => if s = 1 then 1 else 0
theorem row_ni {cs ss : List Int} {f : Int} {r : List D} (h : RowOkC cs ss f r) : r.all isNI = true := List.all_eq_true.mpr fun d hd => by
  obtain ⟨k, hk⟩ := List.mem_iff_getElem?.mp hd
  rcases h.2 k d hk with ⟨_, v, rfl, _⟩ | ⟨_, rfl⟩ | ⟨_, rfl | ⟨v, rfl⟩⟩ <;> rfl
theorem turn_A (T : Tx K mg base) {dx : Addr} {ws : List V} {cs ss gs : List Int} {f m : Int} {rows : List (List D)} {q : AV → List AV → Prop} {x : Exn → List AV → Prop} (hl : ss.length = cs.length) (h7 : cs.length ≤ 7) (hr : rows.length = cs.length) (hg : gs.length = cs.length) (ok : ∀ k r, rows[k]? = some r → ss.getD k 0 ≠ 1 → RowOkC cs ss f r) (ok3 : ∀ k r, rows[k]? = some r → ss.getD k 0 ≠ 1 → 3 ≤ (intz r).length) (gok : ∀ k g, gs[k]? = some g → ss.getD k 0 ≠ 1 → 0 ≤ g ∧ g ≤ m)
    (h : ∀ ws', q (.fz .non) [clA T.c_Clocks dx ws' (newC cs ss gs rows) (newT ss) f m, .fz (.lst (rows.map .lst)), .fz (.lst (gs.map .int))]) : A_Clocks_turn T [clA T.c_Clocks dx ws cs ss f m, .fz (.lst (rows.map .lst)), .fz (.lst (gs.map .int))] q x := by
  unfold clA at h ⊢
  refine A_Clocks_turn_of T _ _ _ _ _ _ _ ?_
  unfold b_Clocks_turn
  walk_at "aw"
  refine w_meF rfl rfl ?_
  walk_at "aw"
  refine w_callFO rfl ?_
  refine judge_A T hl h7 hr hg ok gok ?_
  refine ⟨rfl, ?_⟩
  walk_at "aw"
  rw [List.length_map]
  refine ⟨⟨by omega, by omega⟩, ?_⟩
  rw [Int.toNat_natCast]
  refine loop_rng (fun i ρ => ∃ v4 v5 v6 : Option AV, ρ = [some (.ob T.c_Clocks dx clF ws [.fz (.lst (cs.map .int)), .ol (ss.map .int), .fz (.int f), .fz (.int m)]), some (.fz (.lst (rows.map .lst))), some (.fz (.lst (gs.map .int))), some (.ol (((List.range cs.length).map fun k => if k < i then newK cs ss gs rows k else cs.getD k 0).map .int)), v4, v5, v6]) ?_ ?_ ?_
  · rw [show ((List.range cs.length).map fun k => if k < 0 then newK cs ss gs rows k else cs.getD k 0) = cs from (List.map_congr_left fun k _ => if_neg (Nat.not_lt_zero k)).trans (range_getD rfl)]
    exact ⟨_, _, _, rfl⟩
  · rintro i ρ K' hi ⟨v4, v5, v6, rfl⟩ hK
    obtain ⟨row, er⟩ : ∃ row, rows[i]? = some row := ⟨_, List.getElem?_eq_getElem (by omega)⟩
    have hm := List.mem_of_getElem? er
    have eD : rows.getD i [] = row := by rw [List.getD_eq_getElem?_getD, er]; rfl
    walk_at "aw"
    rw [Int.zero_add]
    refine w_ixL (getI (by omega)) ?_
    walk_at "aw"
    by_cases hs : ss.getD i 0 = 1
    · rw [decide_eq_true hs]
      walk_at "aw"
      refine hK _ ?_
      rw [show ((List.range cs.length).map fun k => if k < i + 1 then newK cs ss gs rows k else cs.getD k 0) = ((List.range cs.length).map fun k => if k < i then newK cs ss gs rows k else cs.getD k 0) from List.map_congr_left fun k _ => by
        by_cases z : k < i
        · rw [if_pos z, if_pos (by omega)]
        · by_cases y : k = i
          · subst y
            rw [if_neg z, if_pos (by omega), newK, if_pos hs]
          · rw [if_neg z, if_neg (by omega)]]
      exact ⟨_, _, _, rfl⟩
    rw [decide_eq_false hs]
    walk_at "aw"
    have hrow := ok i row er hs
    have h3 := ok3 i row er hs
    have ni := row_ni hrow
    have l7 : (intz row).length ≤ 7 := by
      have : (intz row).length ≤ row.length := List.length_filterMap_le _ _
      have := hrow.1
      omega
    refine w_ixL (atI_map (f := D.lst) er) ?_
    walk_at "aw"
    refine comp_filter (fun d => !isNonD d) id (by rw [hrow.1]; show 0 + _ ≤ _; omega) (fun d hd Q A h1 h2 => ?_) ?_
    · have := List.all_eq_true.mp ni d hd
      cases d <;> first
        | (walk_at "aw"; exact h1 rfl)
        | (walk_at "aw"; exact h2 rfl)
        | cases this
    rw [List.nil_append, fil_ints ni]
    walk_at "aw"
    refine middle_A T h3 l7 ?_
    walk_at "aw"
    refine w_ixL (getI (by omega)) ?_
    walk_at "aw"
    refine w_ixQ (ixN_nat (by rw [List.length_map, List.length_map, List.length_range]; exact hi)) ?_
    refine hK _ ?_
    rw [← rset (F := fun k => if k < i then newK cs ss gs rows k else cs.getD k 0) (i := i) (v := newK cs ss gs rows i) (G := fun k => if k < i + 1 then newK cs ss gs rows k else cs.getD k 0) fun k _ => by
      by_cases z : k = i
      · subst z
        rw [if_pos (by omega), if_pos rfl]
      · rw [if_neg z]
        by_cases y : k < i
        · rw [if_pos (by omega), if_pos y]
        · rw [if_neg (by omega), if_neg y], List.map_set, show newK cs ss gs rows i = midV (intz row) + gs.getD i 0 by rw [newK, if_neg hs, eD]]
    exact ⟨_, _, _, rfl⟩
  · rintro ρ ⟨v4, v5, v6, rfl⟩
    rw [show ((List.range cs.length).map fun k => if k < cs.length then newK cs ss gs rows k else cs.getD k 0) = newC cs ss gs rows from List.map_congr_left fun k hk => if_pos (List.mem_range.mp hk)]
    walk_at "aw"
    refine w_fldRe rfl rfl rfl (Nat.le_of_ble_eq_true rfl) ?_
    walk_at "aw"
    intro v1
    walk_at "aw"
    refine w_fldRe rfl rfl rfl (Nat.le_of_ble_eq_true rfl) ?_
    walk_at "aw"
    refine comp_mapA (xs := ss) (fun s => .int (if s = 1 then 1 else 0)) (by show 0 + _ ≤ _; omega) (fun s hs Q hQ => ?_) ?_
    · walk_at "aw"
      by_cases z : s = 1
      · rw [decide_eq_true z]
        rw [if_pos z] at hQ
        walk_at "aw"
        exact hQ
      · rw [decide_eq_false z]
        rw [if_neg z] at hQ
        walk_at "aw"
        exact hQ
    rw [List.nil_append]
    walk_at "aw"
    intro v2
    have := h ((ws.set 0 v1).set 1 v2)
    unfold newT at this
    rw [List.map_map] at this
    exact this
def toldL (cs ss : List Int) : List D := (List.range cs.length).map fun k => if ss.getD k 0 = 0 then D.int (cs.getD k 0) else .non
theorem zip_told {cs ss : List Int} (hl : ss.length = cs.length) : zipD (cs.map D.int) (ss.map D.int) = (List.range cs.length).map fun k => D.tup [.int (cs.getD k 0), .int (ss.getD k 0)] := by
  unfold zipD
  refine List.ext_getElem (by simp [hl]) fun i h1 h2 => ?_
  have hi : i < cs.length := by rw [List.length_map, List.length_range] at h2; exact h2
  simp only [List.getElem_map, List.getElem_zip, List.getElem_range]
  rw [List.getD_eq_getElem?_getD, List.getD_eq_getElem?_getD, List.getElem?_eq_getElem hi, List.getElem?_eq_getElem (show i < ss.length by omega)]
  rfl
theorem told_A (T : Tx K mg base) {cs ss : List Int} {f m : Int} {q : AV → Prop} {x : Exn → Prop} (hl : ss.length = cs.length) (h7 : cs.length ≤ 7) (h : q (.ol (toldL cs ss))) : A_Clocks_told T [.fz (clO T.c_Clocks cs ss f m)] q x := by
  refine A_Clocks_told_of T ?_
  unfold b_Clocks_told clO
  walk_at "aw"
  rw [zip_told hl]
  refine comp_mapA (xs := List.range cs.length) (fun k => if ss.getD k 0 = 0 then D.int (cs.getD k 0) else .non) (by rw [List.length_range]; show 0 + _ ≤ _; omega) (fun k hk Q hQ => ?_) ?_
  · walk_at "aw"
    by_cases z : ss.getD k 0 = 0
    · rw [decide_eq_true z]
      rw [if_pos z] at hQ
      walk_at "aw"
      exact hQ
    · rw [decide_eq_false z]
      rw [if_neg z] at hQ
      walk_at "aw"
      exact hQ
  rw [List.nil_append]
  walk_at "aw"
  exact h
theorem told_ni (cs ss : List Int) : (toldL cs ss).all isNI = true := List.all_eq_true.mpr fun d hd => by
  obtain ⟨k, _, rfl⟩ := List.mem_map.mp hd
  by_cases z : ss.getD k 0 = 0
  · rw [if_pos z]; rfl
  · rw [if_neg z]; rfl
theorem told_len (cs ss : List Int) : (toldL cs ss).length = cs.length := by unfold toldL; rw [List.length_map, List.length_range]
theorem width_A (T : Tx K mg base) {cs ss : List Int} {f m : Int} {q : AV → Prop} {x : Exn → Prop} (hl : ss.length = cs.length) (h7 : cs.length ≤ 7) (ne : intz (toldL cs ss) ≠ []) (h : q (.fz (.int (mxI (intz (toldL cs ss)) - mnI (intz (toldL cs ss)))))) : A_Clocks_width T [.fz (clO T.c_Clocks cs ss f m)] q x := by
  refine A_Clocks_width_of T ?_
  have ni := told_ni cs ss
  have tl := told_len cs ss
  unfold b_Clocks_width
  walk_at "aw"
  unfold clO
  refine w_me0 ?_
  walk_at "aw"
  refine w_objQ rfl ?_
  walk_at "aw"
  refine told_A T (f := f) (m := m) hl h7 ?_
  walk_at "aw"
  refine comp_filter (fun d => !isNonD d) id (by show 0 + _ ≤ _; omega) (fun d hd Q A h1 h2 => ?_) ?_
  · have := List.all_eq_true.mp ni d hd
    cases d <;> first
      | (walk_at "aw"; exact h1 rfl)
      | (walk_at "aw"; exact h2 rfl)
      | cases this
  rw [List.nil_append, fil_ints ni]
  walk_at "aw"
  refine w_ints (intsOf_map _) ⟨ne, ?_⟩
  walk_at "aw"
  refine w_ints (intsOf_map _) ⟨ne, ?_⟩
  walk_at "aw"
  exact h
theorem intz_all : ∀ {ds : List D}, ds.all isI = true → (intz ds).length = ds.length
  | [], _ => rfl
  | d :: ds, h => by
    rw [List.all_cons, Bool.and_eq_true] at h
    have ih := intz_all h.2
    cases d <;> first | (show (_ :: intz ds).length = _; rw [List.length_cons, List.length_cons, ih]) | cases h.1
theorem intz_one : ∀ {ds : List D}, (∀ (i j : Nat) (d e : D), ds[i]? = some d → ds[j]? = some e → isI d = false → isI e = false → i = j) → ds.length ≤ (intz ds).length + 1
  | [], _ => Nat.zero_le _
  | d :: ds, h => by
    cases hd : isI d with
    | true =>
      have ih := intz_one (ds := ds) fun i j a b e1 e2 h1 h2 => Nat.succ.inj (h (i + 1) (j + 1) a b e1 e2 h1 h2)
      have : (intz (d :: ds)).length = (intz ds).length + 1 := by
        cases d <;> first | rfl | cases hd
      rw [this, List.length_cons]
      omega
    | false =>
      have ha : ds.all isI = true := List.all_eq_true.mpr fun e he => by
        obtain ⟨j, hj⟩ := List.mem_iff_getElem?.mp he
        cases hb : isI e with
        | true => rfl
        | false => exact absurd (h 0 (j + 1) d e rfl hj hd hb) (by omega)
      have : intz (d :: ds) = intz ds := by
        cases d <;> first | rfl | cases hd
      rw [this, intz_all ha, List.length_cons]
      exact Nat.le_refl _
structure StOk (ss : List Int) : Prop where
  v : ∀ k, ss.getD k 0 = 0 ∨ ss.getD k 0 = 1 ∨ ss.getD k 0 = 2
  o : ∀ i j, ss.getD i 0 ≠ 0 → ss.getD j 0 ≠ 0 → i = j
theorem told_three {cs ss : List Int} (h : StOk ss) (h4 : 4 ≤ cs.length) : 3 ≤ (intz (toldL cs ss)).length := by
  have := intz_one (ds := toldL cs ss) fun i j d e e1 e2 h1 h2 => by
    have at' : ∀ {i d}, (toldL cs ss)[i]? = some d → isI d = false → ss.getD i 0 ≠ 0 := fun {i d} e hd z => by
      unfold toldL at e
      rw [List.getElem?_map] at e
      cases er : (List.range cs.length)[i]? with
      | none => rw [er] at e; cases e
      | some k =>
        rw [er] at e
        obtain ⟨hk, e2⟩ := List.getElem?_eq_some_iff.mp er
        rw [List.getElem_range] at e2
        subst e2
        cases e
        have hd' : isI (if ss.getD i 0 = 0 then D.int (cs.getD i 0) else .non) = false := hd
        rw [if_pos z] at hd'
        cases hd'
    exact h.o i j (at' e1 h1) (at' e2 h2)
  rw [told_len] at this
  omega
def WordL (ls ss : List Int) (f : Int) (k : Nat) (d : D) : Prop := (ss.getD k 0 = 0 ∧ ∃ v, d = .int v ∧ ls.getD k 0 ≤ v ∧ v ≤ ls.getD k 0 + f) ∨ (ss.getD k 0 ≠ 0 ∧ 1 ∈ ss ∧ (d = .non ∨ ∃ v, d = .int v ∧ v.natAbs ≤ 10 ^ 12)) ∨ (ss.getD k 0 ≠ 0 ∧ 1 ∉ ss ∧ d = .non)
theorem one_at {ss : List Int} (h : 1 ∈ ss) : ∃ k, k < ss.length ∧ ss.getD k 0 = 1 := by
  obtain ⟨k, hk, e⟩ := List.getElem_of_mem h
  exact ⟨k, hk, by rw [List.getD_eq_getElem?_getD, List.getElem?_eq_getElem hk, e]; rfl⟩
theorem mem_at {ss : List Int} {k : Nat} (h : ss.getD k 0 = 1) : 1 ∈ ss := by
  rw [List.getD_eq_getElem?_getD] at h
  cases e : ss[k]? with
  | none => rw [e] at h; cases h
  | some v =>
    rw [e] at h
    have h' : v = 1 := h
    subst h'
    exact List.mem_of_getElem? e
theorem WordL.ok {cs ls ss : List Int} {f : Int} {k : Nat} {d : D} (st : StOk ss) (ag : ∀ k, ss.getD k 0 = 0 → cs.getD k 0 = ls.getD k 0) (h : WordL ls ss f k d) : WordOk cs ss f k d := by
  rcases h with ⟨e, v, rfl, v0, v1⟩ | ⟨e, o, h⟩ | ⟨e, o, rfl⟩
  · exact .inl ⟨e, v, rfl, by rw [ag k e]; exact v0, by rw [ag k e]; exact v1⟩
  · rcases st.v k with z | z | z
    · exact absurd z e
    · exact .inr (.inr ⟨z, h.imp id fun ⟨v, e, _⟩ => ⟨v, e⟩⟩)
    · obtain ⟨j, _, hj⟩ := one_at o
      have := st.o k j e (by rw [hj]; decide)
      subst this
      rw [hj] at z
      exact absurd z (by decide)
  · rcases st.v k with z | z | z
    · exact absurd z e
    · exact absurd (mem_at z) o
    · exact .inr (.inl ⟨z, rfl⟩)
def RowL (ls ss : List Int) (f : Int) (row : List D) : Prop := row.length = ss.length ∧ ∀ k d, row[k]? = some d → WordL ls ss f k d
theorem RowL.ok {cs ls ss : List Int} {f : Int} {row : List D} (hl : ss.length = cs.length) (st : StOk ss) (ag : ∀ k, ss.getD k 0 = 0 → cs.getD k 0 = ls.getD k 0) (h : RowL ls ss f row) : RowOkC cs ss f row := ⟨h.1.trans hl, fun k d e => (h.2 k d e).ok st ag⟩
theorem RowL.three {ls ss : List Int} {f : Int} {row : List D} (st : StOk ss) (h4 : 4 ≤ ss.length) (h : RowL ls ss f row) : 3 ≤ (intz row).length := by
  have := intz_one (ds := row) fun i j d e e1 e2 h1 h2 => by
    have at' : ∀ {i d}, row[i]? = some d → isI d = false → ss.getD i 0 ≠ 0 := fun {i d} e hd z => by
      rcases h.2 i d e with ⟨_, v, rfl, _⟩ | ⟨k, _⟩ | ⟨k, _⟩
      · cases hd
      · exact k z
      · exact k z
    exact st.o i j (at' e1 h1) (at' e2 h2)
  rw [h.1] at this
  omega
theorem law_heard_A (T : Tx K mg base) {ls ss : List Int} {f : Int} {q : AV → List AV → Prop} {x : Exn → List AV → Prop} (hl : ss.length = ls.length) (h7 : ls.length ≤ 7) (f0 : 0 ≤ f) (f1 : f ≤ 1000) (h : ∀ row, RowL ls ss f row → q (.ol row) [.dr, .ol (ls.map .int), .fz (.lst (ss.map fun s => .bl (decide (s = 0)))), .fz (.int f), .fz (.bl (decide (1 ∈ ss)))]) :
    A_law_heard T [.dr, .ol (ls.map .int), .fz (.lst (ss.map fun s => .bl (decide (s = 0)))), .fz (.int f), .fz (.bl (decide (1 ∈ ss)))] q x := by
  refine A_law_heard_of T _ _ _ _ ?_
  unfold b_law_heard
  walk_at "aw"
  rw [List.length_map]
  refine ⟨⟨by omega, by omega⟩, ?_⟩
  rw [Int.toNat_natCast]
  refine loop_rng (fun i ρ => ∃ (acc : List D) (v6 : Option AV), ρ = [some .dr, some (.ol (ls.map .int)), some (.fz (.lst (ss.map fun s => .bl (decide (s = 0))))), some (.fz (.int f)), some (.fz (.bl (decide (1 ∈ ss)))), some (.ol acc), v6] ∧ acc.length = i ∧ ∀ k d, acc[k]? = some d → WordL ls ss f k d) ⟨[], _, rfl, rfl, fun k d e => by cases e⟩ ?_ ?_
  · rintro i ρ K' hi ⟨acc, v6, rfl, la, ha⟩ hK
    have fin : ∀ d, WordL ls ss f i d → K' ([some .dr, some (.ol (ls.map .int)), some (.fz (.lst (ss.map fun s => .bl (decide (s = 0))))), some (.fz (.int f)), some (.fz (.bl (decide (1 ∈ ss)))), some (.ol (acc ++ [d])), some (.fz (.int (i : Nat)))]) := fun d hd => hK _ ⟨acc ++ [d], _, rfl, by rw [List.length_append, la]; rfl, fun k e he => by
      by_cases z : k < acc.length
      · rw [List.getElem?_append_left z] at he
        exact ha k e he
      · have hk : k = i := by
          have := (List.getElem?_eq_some_iff.mp he).1
          rw [List.length_append] at this
          simp at this
          omega
        subst hk
        rw [List.getElem?_append_right (by omega), la, Nat.sub_self] at he
        cases he
        exact hd⟩
    have es : ss[i]? = some (ss.getD i 0) := by rw [List.getD_eq_getElem?_getD, List.getElem?_eq_getElem (show i < ss.length by omega)]; rfl
    walk_at "aw"
    rw [Int.zero_add]
    refine w_ixL (atI_map (f := fun s : Int => D.bl (decide (s = 0))) es) ?_
    walk_at "aw"
    refine cond_dec (fun hz => ?_) (fun hz => ?_)
    · walk_at "aw"
      refine w_ixL (getI (by omega)) ?_
      walk_at "aw"
      refine w_draw (by omega) (by omega) fun r r0 r1 => ?_
      walk_at "aw"
      refine ⟨by omega, ?_⟩
      exact fin _ (.inl ⟨hz, _, rfl, by omega, by omega⟩)
    · walk_at "aw"
      refine cond_dec (fun ho => ?_) (fun ho => ?_)
      · walk_at "aw"
        refine w_draw (by omega) (by omega) fun r r0 r1 => ?_
        walk_at "aw"
        refine w_draw (by omega) (by omega) fun j j0 j1 => ?_
        refine w_ixE (P := fun d => d = .non ∨ ∃ v, d = .int v ∧ v.natAbs ≤ 10 ^ 12) ?_ ?_
        · obtain ⟨j, rfl⟩ := Int.eq_ofNat_of_zero_le j0
          have hj : j < 5 := by omega
          match j, hj with
          | 0, _ => exact ⟨_, rfl, .inl rfl⟩
          | 1, _ => exact ⟨_, rfl, .inr ⟨_, rfl, by decide⟩⟩
          | 2, _ => exact ⟨_, rfl, .inr ⟨_, rfl, by decide⟩⟩
          | 3, _ => exact ⟨_, rfl, .inr ⟨_, rfl, by decide⟩⟩
          | 4, _ => exact ⟨_, rfl, .inr ⟨_, rfl, by omega⟩⟩
          | j + 5, h => omega
        intro d hd
        walk_at "aw"
        refine ⟨by omega, ?_⟩
        exact fin d (.inr (.inl ⟨hz, ho, hd⟩))
      · walk_at "aw"
        refine ⟨by omega, ?_⟩
        exact fin _ (.inr (.inr ⟨hz, ho, rfl⟩))
  · rintro ρ ⟨acc, v6, rfl, la, ha⟩
    walk_at "aw"
    exact h acc ⟨by omega, ha⟩
theorem law_middle_A (T : Tx K mg base) {row : List D} {q : AV → Prop} {x : Exn → Prop} (ni : row.all isNI = true) (h3 : 3 ≤ (intz row).length) (h7 : row.length ≤ 7) (h : q (.fz (.int (midV (intz row))))) : A_law_middle T [.fz (.lst row)] q x := by
  refine A_law_middle_of T ?_
  have hl := srt_len (intz row)
  obtain ⟨s1, s2, s3⟩ := sort_ok (intz row)
  unfold b_law_middle
  walk_at "aw"
  refine comp_filter (fun d => !isNonD d) id (by show 0 + _ ≤ _; omega) (fun d hd Q A h1 h2 => ?_) ?_
  · have := List.all_eq_true.mp ni d hd
    cases d <;> first
      | (walk_at "aw"; exact h1 rfl)
      | (walk_at "aw"; exact h2 rfl)
      | cases this
  rw [List.nil_append, fil_ints ni]
  walk_at "aw"
  refine w_sortA s1 s2 s3 ?_
  rw [srt_d]
  walk_at "aw"
  rw [cut_in D.int (by omega)]
  refine w_ixL (in_first h3) ?_
  walk_at "aw"
  refine w_ixL (in_last h3) ?_
  walk_at "aw"
  exact h
theorem law_clocks_A (T : Tx K mg base) {q : AV → Prop} {x : Exn → Prop} (h : ∀ (ns : List Int) (f m : Int), 4 ≤ ns.length → ns.length ≤ 7 → 0 ≤ f → f ≤ 1000 → 0 ≤ m → m ≤ 1000 → (∃ b, (-25 ≤ b ∧ b ≤ 25) ∧ ∀ n ∈ ns, b ≤ n ∧ n ≤ b + (2 * f + 2 * m)) → ∀ ws : List V, ws.length = 3 → q (.ut ws [.ol (ns.map .int), .fz (.int f), .fz (.int m)])) : A_law_clocks T [.dr] q x := by
  refine A_law_clocks_of T ?_
  have six : ∀ {k : Int}, 0 ≤ k → k < 6 → ∃ d, atI [D.int 0, .int 1, .int 2, .int 3, .int 4, .int 1000] k = some d ∧ ∃ f : Int, d = .int f ∧ 0 ≤ f ∧ f ≤ 1000 := fun {k} k0 k1 => by
    obtain ⟨k, rfl⟩ := Int.eq_ofNat_of_zero_le k0
    have hk : k < 6 := by omega
    match k, hk with
    | 0, _ => exact ⟨_, rfl, 0, rfl, by decide, by decide⟩
    | 1, _ => exact ⟨_, rfl, 1, rfl, by decide, by decide⟩
    | 2, _ => exact ⟨_, rfl, 2, rfl, by decide, by decide⟩
    | 3, _ => exact ⟨_, rfl, 3, rfl, by decide, by decide⟩
    | 4, _ => exact ⟨_, rfl, 4, rfl, by decide, by decide⟩
    | 5, _ => exact ⟨_, rfl, 1000, rfl, by decide, by decide⟩
    | k + 6, h => omega
  unfold b_law_clocks
  walk_at "aw"
  refine w_draw (by omega) (by omega) fun k k0 k1 => ?_
  refine w_ixE (six k0 k1) ?_
  rintro d ⟨f, rfl, f0, f1⟩
  walk_at "aw"
  refine w_draw (by omega) (by omega) fun j j0 j1 => ?_
  refine w_ixE (six j0 j1) ?_
  rintro d ⟨m, rfl, m0, m1⟩
  walk_at "aw"
  refine w_draw (by omega) (by omega) fun b b0 b1 => ?_
  walk_at "aw"
  refine w_draw (by omega) (by omega) fun c c0 c1 => ?_
  walk_at "aw"
  refine ⟨⟨by omega, by omega⟩, ?_⟩
  refine comp_rel (fun _ y => ∃ i : Int, y = .int i ∧ b - 25 ≤ i ∧ i ≤ b - 25 + (2 * f + 2 * m)) (by rw [rngD_len]; show 0 + _ ≤ _; omega) (fun d hd Q k => ?_) fun ys hys => ?_
  · walk_at "aw"
    refine w_draw (by omega) (by omega) fun r r0 r1 => ?_
    walk_at "aw"
    exact k _ ⟨_, rfl, by omega, by omega⟩
  obtain ⟨ns, rfl, ln, hns⟩ := paired_ints hys
  rw [rngD_len] at ln
  rw [List.nil_append]
  walk_at "aw"
  refine w_retU1 rfl ?_
  walk_at "aw"
  intro ws lw
  exact h ns f m (by omega) (by omega) f0 f1 m0 m1 ⟨b - 25, ⟨by omega, by omega⟩, hns⟩ ws lw
abbrev endT : AEnds := ⟨fun _ => False, fun av _ => av = .fz (.bl true), fun _ => False, fun _ => False, fun _ _ => False⟩
theorem comp_filA {α : Type} {g : AG} {tt : AT} {te : AE} {ρ : Env} {X : Exn → Prop} {Q : List D → Prop} {fd : α → D} {xs : List α} {acc : List D} (p : α → Bool) (f : α → D) (hl : acc.length + xs.length ≤ 1000000)
    (h : ∀ (x : α), x ∈ xs → ∀ (Q : D → Prop) (A : Prop), (p x = true → Q (f x)) → (p x = false → A) → g (fd x) ρ (fun ρ2 => tt ρ2 (fun b => cond b (te ρ2 Q X) A) X)) (q : Q (acc ++ (xs.filter p).map f)) : aComp g tt te ρ X (xs.map fd) acc Q := by
  induction xs generalizing acc with
  | nil => rwa [List.filter_nil, List.map_nil, List.append_nil] at q
  | cons d ds ih =>
    rw [List.length_cons] at hl
    refine h d List.mem_cons_self _ _ (fun hp => ⟨by omega, ih (by rw [List.length_append]; show acc.length + 1 + _ ≤ _; omega) (fun e he => h e (List.mem_cons_of_mem _ he)) ?_⟩) (fun hp => ih (by omega) (fun e he => h e (List.mem_cons_of_mem _ he)) ?_)
    · rw [List.filter_cons_of_pos hp, List.map_cons] at q
      rwa [List.append_assoc]
    · rwa [List.filter_cons_of_neg (by rw [hp]; exact Bool.false_ne_true)] at q
theorem paired_rows {α : Type} {P : List D → Prop} : ∀ {xs : List α} {ys : List D}, Paired (fun _ y => ∃ r, y = D.lst r ∧ P r) xs ys → ∃ rs : List (List D), ys = rs.map D.lst ∧ rs.length = xs.length ∧ ∀ r ∈ rs, P r
  | _, _, .nil => ⟨[], rfl, rfl, fun _ h => nomatch h⟩
  | _, _, .cons ⟨r, h1, h2⟩ t => by
    obtain ⟨rs, e1, e2, e3⟩ := paired_rows t
    refine ⟨r :: rs, by rw [h1, e1]; rfl, by rw [List.length_cons, List.length_cons, e2], fun n hn => ?_⟩
    rcases List.mem_cons.mp hn with rfl | hn
    · exact h2
    · exact e3 n hn
theorem getD_set {ss : List Int} {a k : Nat} {v : Int} (ha : a < ss.length) : (ss.set a v).getD k 0 = if k = a then v else ss.getD k 0 := by
  rw [List.getD_eq_getElem?_getD, List.getD_eq_getElem?_getD, List.getElem?_set]
  by_cases z : a = k
  · subst z
    rw [if_pos rfl, if_pos ha, if_pos rfl]
    rfl
  · rw [if_neg z, if_neg fun e => z e.symm]
theorem newT_at (ss : List Int) (k : Nat) : (newT ss).getD k 0 = if ss.getD k 0 = 1 then 1 else 0 := by
  unfold newT
  rw [List.getD_eq_getElem?_getD, List.getD_eq_getElem?_getD, List.getElem?_map]
  cases ss[k]? with
  | none => rfl
  | some v => rfl
theorem cnt_two {p : Int → Bool} {ds : List D} {i j : Nat} {v w : Int} (hij : i < j) (h1 : ds[i]? = some (.int v)) (h2 : ds[j]? = some (.int w)) (p1 : p v = true) (p2 : p w = true) : 2 ≤ (intz ds).countP p := by
  induction ds generalizing i j with
  | nil => cases h1
  | cons d ds ih =>
    obtain ⟨j, rfl⟩ : ∃ k, j = k + 1 := ⟨j - 1, by omega⟩
    have one : ∀ {ds : List D} {j : Nat}, ds[j]? = some (.int w) → 1 ≤ (intz ds).countP p := fun {ds j} h => List.countP_pos_iff.mpr ⟨w, List.mem_filterMap.mpr ⟨_, List.mem_of_getElem? h, rfl⟩, p2⟩
    cases i with
    | zero =>
      cases h1
      have := one (ds := ds) h2
      show 2 ≤ (v :: intz ds).countP p
      rw [List.countP_cons_of_pos p1]
      omega
    | succ i =>
      have := ih (i := i) (j := j) (by omega) h1 h2
      have s : (intz ds).Sublist (intz (d :: ds)) := (List.sublist_cons_self d ds).filterMap _
      exact Nat.le_trans this (s.countP_le)
theorem cnt_zero {p : Int → Bool} {ds : List D} (h : ∀ (j : Nat) (w : Int), ds[j]? = some (.int w) → p w = false) : (intz ds).countP p = 0 := by
  refine List.countP_eq_zero.mpr fun v hv => ?_
  obtain ⟨d, hd, e⟩ := List.mem_filterMap.mp hv
  obtain ⟨j, hj⟩ := List.mem_iff_getElem?.mp hd
  cases d <;> first | cases e | skip
  rw [h j _ hj]
  exact Bool.false_ne_true
theorem cnt_one {p : Int → Bool} {ds : List D} (h : ∀ (i j : Nat) (v w : Int), ds[i]? = some (.int v) → ds[j]? = some (.int w) → p v = true → p w = true → i = j) : (intz ds).countP p ≤ 1 := by
  induction ds with
  | nil => exact Nat.zero_le _
  | cons d ds ih =>
    have ih' := ih fun i j v w e1 e2 h1 h2 => Nat.succ.inj (h (i + 1) (j + 1) v w e1 e2 h1 h2)
    cases d with
    | int v =>
      show (v :: intz ds).countP p ≤ 1
      by_cases hp : p v = true
      · rw [List.countP_cons_of_pos hp, cnt_zero fun j w e => by
          cases hw : p w with
          | false => rfl
          | true => exact absurd (h 0 (j + 1) v w rfl e hp hw) (by omega)]
        exact Nat.le_refl _
      · rw [List.countP_cons_of_neg hp]
        exact ih'
    | _ => exact ih'
theorem leD_int {a b : Int} (h : leD (.int a) (.int b) = true) : a ≤ b := by
  have e : leD (.int a) (.int b) = decide (a ≤ b) := congrFun (congrFun (PySem.W.dataLe_int (fun b : Int => b)) a) b
  rw [e] at h
  simpa using h
theorem srt_mono (ns : List Int) : (srt ns).Pairwise (· ≤ ·) := by
  have h := PySem.W.sort_pairwise (le := leD) (PySem.W.sortLe_total (PyProof.Rows.listOrd PyProof.Rows.itemOrd) false fun b : D => PySem.W.keyToks (toPy b)) (ns.map D.int)
  rw [srt_d, List.pairwise_map] at h
  exact h.imp fun h => leD_int h
theorem srt_perm (ns : List Int) : (srt ns).Perm ns := by
  have h := (List.mergeSort_perm (ns.map D.int) leD).map toI
  have e : (ns.map D.int).map toI = ns := by rw [List.map_map]; exact List.map_id _
  rwa [e] at h
theorem lo_le {s : List Int} {t : Int} (h : s.Pairwise (· ≤ ·)) (c : 2 ≤ s.countP (fun v => decide (v ≤ t))) : s.getD 1 0 ≤ t := by
  match s, h, c with
  | [], _, c => exact absurd c (by simp)
  | [a], _, c =>
    have := List.countP_le_length (p := fun v : Int => decide (v ≤ t)) (l := [a])
    have e : [a].length = 1 := rfl
    omega
  | a :: b :: r, h, c =>
    show b ≤ t
    refine Int.not_lt.mp fun z => ?_
    have hb := (List.pairwise_cons.mp (List.pairwise_cons.mp h).2).1
    have e0 : (b :: r).countP (fun v => decide (v ≤ t)) = 0 := List.countP_eq_zero.mpr fun v hv => by
      rcases List.mem_cons.mp hv with rfl | hv
      · simpa using z
      · have := hb v hv
        simp
        omega
    rw [List.countP_cons, e0] at c
    split at c <;> omega
theorem lo_ge {s : List Int} {t : Int} (h : s.Pairwise (· ≤ ·)) (l : 2 ≤ s.length) (c : s.countP (fun v => decide (v < t)) ≤ 1) : t ≤ s.getD 1 0 := by
  match s, h, l, c with
  | [], _, l, _ => exact absurd l (by decide)
  | [a], _, l, _ => exact absurd l (by simp)
  | a :: b :: r, h, _, c =>
    show t ≤ b
    refine Int.not_lt.mp fun z => ?_
    have ha := (List.pairwise_cons.mp h).1 b List.mem_cons_self
    rw [List.countP_cons_of_pos (by simp; omega), List.countP_cons_of_pos (by simpa using z)] at c
    omega
theorem rev_get {s : List Int} (l : 2 ≤ s.length) : (s.reverse.map (- ·)).getD 1 0 = - s.getD (s.length - 2) 0 := by
  rw [List.getD_eq_getElem?_getD, List.getD_eq_getElem?_getD, List.getElem?_map, List.getElem?_reverse (by omega), show s.length - 1 - 1 = s.length - 2 by omega, List.getElem?_eq_getElem (by omega)]
  rfl
theorem rev_mono {s : List Int} (h : s.Pairwise (· ≤ ·)) : (s.reverse.map (- ·)).Pairwise (· ≤ ·) := by
  rw [List.pairwise_map, List.pairwise_reverse]
  exact h.imp fun h => by omega
theorem rev_cnt {s : List Int} {p : Int → Bool} : (s.reverse.map (- ·)).countP p = s.countP fun v => p (-v) := by
  rw [List.countP_map, List.countP_reverse]
  rfl
theorem hi_ge {s : List Int} {t : Int} (h : s.Pairwise (· ≤ ·)) (l : 2 ≤ s.length) (c : 2 ≤ s.countP (fun v => decide (t ≤ v))) : t ≤ s.getD (s.length - 2) 0 := by
  have := lo_le (t := -t) (rev_mono h) (by rw [rev_cnt, show (fun v : Int => decide (-v ≤ -t)) = fun v => decide (t ≤ v) from funext fun v => decide_eq_decide.mpr (by omega)]; exact c)
  rw [rev_get l] at this
  omega
theorem hi_le {s : List Int} {t : Int} (h : s.Pairwise (· ≤ ·)) (l : 2 ≤ s.length) (c : s.countP (fun v => decide (t < v)) ≤ 1) : s.getD (s.length - 2) 0 ≤ t := by
  have := lo_ge (t := -t) (rev_mono h) (by rw [List.length_map, List.length_reverse]; exact l) (by rw [rev_cnt, show (fun v : Int => decide (-v < -t)) = fun v => decide (t < v) from funext fun v => decide_eq_decide.mpr (by omega)]; exact c)
  rw [rev_get l] at this
  omega
theorem int_getD {ds : List D} {k : Nat} {d : D} (h : ds[k]? = some d) : k < ds.length := (List.getElem?_eq_some_iff.mp h).1
/-- three clocks that are good, in the order of their stands -/
theorem three_good {cs ss : List Int} (st : StOk ss) (h4 : 4 ≤ cs.length) : ∃ i j k : Nat, i < cs.length ∧ j < cs.length ∧ k < cs.length ∧ i ≠ j ∧ j ≠ k ∧ ss.getD i 0 = 0 ∧ ss.getD j 0 = 0 ∧ ss.getD k 0 = 0 ∧ cs.getD i 0 ≤ cs.getD j 0 ∧ cs.getD j 0 ≤ cs.getD k 0 := by
  have key : ∃ a b c : Nat, a < cs.length ∧ b < cs.length ∧ c < cs.length ∧ a ≠ b ∧ b ≠ c ∧ a ≠ c ∧ ss.getD a 0 = 0 ∧ ss.getD b 0 = 0 ∧ ss.getD c 0 = 0 := by
    have two : ∀ i j, i ≠ j → ss.getD i 0 ≠ 0 → ss.getD j 0 = 0 := fun i j n hi => Decidable.byContradiction fun hj => n (st.o i j hi hj)
    by_cases z0 : ss.getD 0 0 = 0
    · by_cases z1 : ss.getD 1 0 = 0
      · by_cases z2 : ss.getD 2 0 = 0
        · exact ⟨0, 1, 2, by omega, by omega, by omega, by decide, by decide, by decide, z0, z1, z2⟩
        · exact ⟨0, 1, 3, by omega, by omega, by omega, by decide, by decide, by decide, z0, z1, two 2 3 (by decide) z2⟩
      · exact ⟨0, 2, 3, by omega, by omega, by omega, by decide, by decide, by decide, z0, two 1 2 (by decide) z1, two 1 3 (by decide) z1⟩
    · exact ⟨1, 2, 3, by omega, by omega, by omega, by decide, by decide, by decide, two 0 1 (by decide) z0, two 0 2 (by decide) z0, two 0 3 (by decide) z0⟩
  obtain ⟨a, b, c, la, lb, lc, ab, bc, ac, za, zb, zc⟩ := key
  rcases Int.le_total (cs.getD a 0) (cs.getD b 0) with h1 | h1 <;> rcases Int.le_total (cs.getD b 0) (cs.getD c 0) with h2 | h2 <;> rcases Int.le_total (cs.getD a 0) (cs.getD c 0) with h3 | h3
  · exact ⟨a, b, c, la, lb, lc, ab, bc, za, zb, zc, h1, h2⟩
  · exact ⟨a, b, c, la, lb, lc, ab, bc, za, zb, zc, h1, h2⟩
  · exact ⟨a, c, b, la, lc, lb, ac, bc.symm, za, zc, zb, h3, h2⟩
  · exact ⟨c, a, b, lc, la, lb, ac.symm, ab, zc, za, zb, h3, h1⟩
  · exact ⟨b, a, c, lb, la, lc, ab.symm, ac, zb, za, zc, h1, h3⟩
  · exact ⟨b, c, a, lb, lc, la, bc, ac.symm, zb, zc, za, h2, h3⟩
  · exact ⟨c, b, a, lc, lb, la, bc.symm, ab.symm, zc, zb, za, h2, h1⟩
  · exact ⟨c, b, a, lc, lb, la, bc.symm, ab.symm, zc, zb, za, h2, h1⟩
def Wd (cs ss : List Int) (W : Int) : Prop := ∀ i j, i < cs.length → j < cs.length → ss.getD i 0 = 0 → ss.getD j 0 = 0 → cs.getD i 0 - cs.getD j 0 ≤ W
theorem RowL.word {ls ss : List Int} {f : Int} {row : List D} (h : RowL ls ss f row) {k : Nat} (hk : k < ss.length) (z : ss.getD k 0 = 0) : ∃ v, row[k]? = some (.int v) ∧ ls.getD k 0 ≤ v ∧ v ≤ ls.getD k 0 + f := by
  obtain ⟨d, e⟩ : ∃ d, row[k]? = some d := ⟨_, List.getElem?_eq_getElem (by rw [h.1]; exact hk)⟩
  rcases h.2 k d e with ⟨_, v, rfl, v0, v1⟩ | ⟨n, _⟩ | ⟨n, _⟩
  · exact ⟨v, e, v0, v1⟩
  · exact absurd z n
  · exact absurd z n
/-- what a row's second least and second greatest words are -/
theorem row_mid {cs ss : List Int} {f lo hi : Int} {row : List D} {i j k : Nat} (sc : ss.length = cs.length) (st : StOk ss) (h4 : 4 ≤ cs.length) (h : RowL cs ss f row)
    (li : i < cs.length) (lj : j < cs.length) (lk : k < cs.length) (ij : i ≠ j) (jk : j ≠ k) (zi : ss.getD i 0 = 0) (zj : ss.getD j 0 = 0) (zk : ss.getD k 0 = 0) (h1 : cs.getD i 0 ≤ cs.getD j 0) (h2 : cs.getD j 0 ≤ cs.getD k 0)
    (hb : ∀ k, k < cs.length → ss.getD k 0 = 0 → lo ≤ cs.getD k 0 ∧ cs.getD k 0 ≤ hi) :
    lo ≤ (srt (intz row)).getD 1 0 ∧ (srt (intz row)).getD 1 0 ≤ cs.getD j 0 + f ∧ cs.getD j 0 ≤ (srt (intz row)).getD ((intz row).length - 2) 0 ∧ (srt (intz row)).getD ((intz row).length - 2) 0 ≤ hi + f := by
  have h3 := h.three st (by omega)
  have sl := srt_len (intz row)
  have sm := srt_mono (intz row)
  have sp := srt_perm (intz row)
  obtain ⟨vi, ei, vi0, vi1⟩ := h.word (by omega) zi
  obtain ⟨vj, ej, vj0, vj1⟩ := h.word (by omega) zj
  obtain ⟨vk, ek, vk0, vk1⟩ := h.word (by omega) zk
  have two : ∀ (p : Int → Bool) {a b : Nat} {v w : Int}, a ≠ b → row[a]? = some (.int v) → row[b]? = some (.int w) → p v = true → p w = true → 2 ≤ (intz row).countP p := fun p a b v w n ea eb pa pb => by
    rcases Nat.lt_or_gt_of_ne n with z | z
    · exact cnt_two z ea eb pa pb
    · exact cnt_two z eb ea pb pa
  have one : ∀ (p : Int → Bool), (∀ k v, ss.getD k 0 = 0 → row[k]? = some (.int v) → p v = false) → (intz row).countP p ≤ 1 := fun p hp => cnt_one fun a b v w ea eb pa pb => by
    refine st.o a b (fun z => ?_) (fun z => ?_)
    · rw [hp a v z ea] at pa; cases pa
    · rw [hp b w z eb] at pb; cases pb
  have inb : ∀ k v, ss.getD k 0 = 0 → row[k]? = some (.int v) → lo ≤ v ∧ v ≤ hi + f := fun k v z e => by
    have lk : k < ss.length := by rw [← h.1]; exact int_getD e
    obtain ⟨v', e', a0, a1⟩ := h.word lk z
    rw [e] at e'
    cases e'
    have := hb k (by omega) z
    omega
  refine ⟨lo_ge sm (by omega) ?_, lo_le sm ?_, ?_, ?_⟩
  · rw [sp.countP_eq]
    exact one _ fun k v z e => by
      have := inb k v z e
      exact decide_eq_false (by omega)
  · rw [sp.countP_eq]
    exact two _ ij ei ej (decide_eq_true (by omega)) (decide_eq_true (by omega))
  · rw [← sl]
    refine hi_ge sm (by omega) ?_
    rw [sp.countP_eq]
    exact two _ jk ej ek (decide_eq_true (by omega)) (decide_eq_true (by omega))
  · rw [← sl]
    refine hi_le sm (by omega) ?_
    rw [sp.countP_eq]
    exact one _ fun k v z e => by
      have := inb k v z e
      exact decide_eq_false (by omega)
/-- two rows' middles -/
theorem mid_diff {cs ss : List Int} {f m : Int} {r1 r2 : List D} (sc : ss.length = cs.length) (st : StOk ss) (h4 : 4 ≤ cs.length) (wd : Wd cs ss (2 * f + 2 * m)) (h1 : RowL cs ss f r1) (h2 : RowL cs ss f r2) : midV (intz r1) - midV (intz r2) ≤ 2 * f + m := by
  obtain ⟨i, j, k, li, lj, lk, ij, jk, zi, zj, zk, c1, c2⟩ := three_good st h4
  -- the least and the greatest stand of the good
  have bounds : ∃ lo hi : Int, (∀ k, k < cs.length → ss.getD k 0 = 0 → lo ≤ cs.getD k 0 ∧ cs.getD k 0 ≤ hi) ∧ hi - lo ≤ 2 * f + 2 * m := by
    have ne : intz (toldL cs ss) ≠ [] := fun z => by
      have := told_three (cs := cs) st h4
      rw [z] at this
      exact absurd this (by decide)
    have mem : ∀ v, v ∈ intz (toldL cs ss) → ∃ k, k < cs.length ∧ ss.getD k 0 = 0 ∧ v = cs.getD k 0 := fun v hv => by
      obtain ⟨d, hd, e⟩ := List.mem_filterMap.mp hv
      obtain ⟨k, hk, rfl⟩ := List.mem_map.mp hd
      by_cases z : ss.getD k 0 = 0
      · rw [if_pos z] at e
        cases e
        exact ⟨k, List.mem_range.mp hk, z, rfl⟩
      · rw [if_neg z] at e
        cases e
    have mem' : ∀ k, k < cs.length → ss.getD k 0 = 0 → cs.getD k 0 ∈ intz (toldL cs ss) := fun k hk z => List.mem_filterMap.mpr ⟨.int (cs.getD k 0), List.mem_map.mpr ⟨k, List.mem_range.mpr hk, if_pos z⟩, rfl⟩
    refine ⟨mnI (intz (toldL cs ss)), mxI (intz (toldL cs ss)), fun k hk z => ⟨(mnI_is ne).2 _ (mem' k hk z), (mxI_is ne).2 _ (mem' k hk z)⟩, ?_⟩
    obtain ⟨a, la, za, ea⟩ := mem _ (mxI_is ne).1
    obtain ⟨b, lb, zb, eb⟩ := mem _ (mnI_is ne).1
    rw [ea, eb]
    exact wd a b la lb za zb
  obtain ⟨lo, hi, hb, hw⟩ := bounds
  have q1 := row_mid sc st h4 h1 li lj lk ij jk zi zj zk c1 c2 hb
  have q2 := row_mid sc st h4 h2 li lj lk ij jk zi zj zk c1 c2 hb
  unfold midV
  omega
def smlD : D → Bool
  | .int v => decide (v.natAbs ≤ 10 ^ 15)
  | .non => true
  | _ => false
theorem sml_leaf {d : D} (h : smlD d = true) : (toPy d).leavesShort 20 = true ∧ (toPy d).showable = true ∧ (toPy d).hasDict = false ∧ (toPy d).depth = 0 ∧ (toPy d).bulk = 0 ∧ ∀ k, okD k d = true := by
  cases d with
  | int v =>
    have hv : v.natAbs ≤ 10 ^ 15 := of_decide_eq_true h
    refine ⟨?_, ?_, rfl, rfl, rfl, fun k => by cases k <;> rfl⟩
    · show decide ((PyData.shown (.int v)).length ≤ 20) = true
      refine decide_eq_true ?_
      show (Str.ofString (toString v)).length ≤ 20
      rw [ofString_length]
      exact Nat.le_trans (int_text_length_le10 (k := 16) (by decide) (Nat.lt_of_le_of_lt hv (by decide))) (by decide)
    · show decide (v.natAbs.log2 < 1920) = true
      refine decide_eq_true ?_
      by_cases z : v.natAbs = 0
      · rw [z]; decide
      · refine Nat.lt_of_lt_of_le ((Nat.log2_lt z).mpr (Nat.lt_of_le_of_lt hv (show 10 ^ 15 < 2 ^ 60 by decide))) (by decide)
  | non => exact ⟨rfl, rfl, rfl, rfl, rfl, fun k => by cases k <;> rfl⟩
  | _ => cases h
theorem sml_list : ∀ {ds : List D}, ds.all smlD = true → PyData.leavesShortAll 20 (toPys ds) = true ∧ PyData.showableAll (toPys ds) = true ∧ PyData.hasDictAll (toPys ds) = false ∧ PyData.depthAll (toPys ds) = 0 ∧ PyData.bulkAll (toPys ds) = ds.length ∧ ∀ k, okDs k ds = true
  | [], _ => ⟨rfl, rfl, rfl, rfl, rfl, fun k => by cases k <;> rfl⟩
  | d :: ds, h => by
    rw [List.all_cons, Bool.and_eq_true] at h
    obtain ⟨a1, a2, a3, a4, a5, a6⟩ := sml_leaf h.1
    obtain ⟨b1, b2, b3, b4, b5, b6⟩ := sml_list h.2
    refine ⟨?_, ?_, ?_, ?_, ?_, fun k => ?_⟩
    · show ((toPy d).leavesShort 20 && PyData.leavesShortAll 20 (toPys ds)) = true
      rw [a1, b1]; rfl
    · show ((toPy d).showable && PyData.showableAll (toPys ds)) = true
      rw [a2, b2]; rfl
    · show ((toPy d).hasDict || PyData.hasDictAll (toPys ds)) = false
      rw [a3, b3]; rfl
    · show max (toPy d).depth (PyData.depthAll (toPys ds)) = 0
      rw [a4, b4]; rfl
    · show (toPy d).bulk + 1 + PyData.bulkAll (toPys ds) = ds.length + 1
      rw [a5, b5]; omega
    · show (okD k d && okDs k ds) = true
      rw [a6, b6]; rfl
theorem sml_rows : ∀ {rows : List (List D)}, (∀ r ∈ rows, r.all smlD = true ∧ r.length ≤ 7) → PyData.leavesShortAll 20 (toPys (rows.map .lst)) = true ∧ PyData.showableAll (toPys (rows.map .lst)) = true ∧ PyData.hasDictAll (toPys (rows.map .lst)) = false ∧ PyData.depthAll (toPys (rows.map .lst)) ≤ 1 ∧ PyData.bulkAll (toPys (rows.map .lst)) ≤ 8 * rows.length ∧ ∀ k, okDs (k + 1) (rows.map .lst) = true
  | [], _ => ⟨rfl, rfl, rfl, Nat.zero_le _, Nat.le_refl _, fun k => rfl⟩
  | r :: rows, h => by
    obtain ⟨a1, a2, a3, a4, a5, a6⟩ := sml_list (h r List.mem_cons_self).1
    have l7 := (h r List.mem_cons_self).2
    obtain ⟨b1, b2, b3, b4, b5, b6⟩ := sml_rows fun r hr => h r (List.mem_cons_of_mem _ hr)
    refine ⟨?_, ?_, ?_, ?_, ?_, fun k => ?_⟩
    · show (PyData.leavesShortAll 20 (toPys r) && PyData.leavesShortAll 20 (toPys (rows.map .lst))) = true
      rw [a1, b1]; rfl
    · show (PyData.showableAll (toPys r) && PyData.showableAll (toPys (rows.map .lst))) = true
      rw [a2, b2]; rfl
    · show (PyData.hasDictAll (toPys r) || PyData.hasDictAll (toPys (rows.map .lst))) = false
      rw [a3, b3]; rfl
    · show max (PyData.depthAll (toPys r) + 1) (PyData.depthAll (toPys (rows.map .lst))) ≤ 1
      rw [a4]; omega
    · show PyData.bulkAll (toPys r) + 1 + PyData.bulkAll (toPys (rows.map .lst)) ≤ 8 * (rows.length + 1)
      rw [a5]; omega
    · show (okDs k r && okDs (k + 1) (rows.map .lst)) = true
      rw [a6, b6]; rfl
def textR (ds : List D) : Str := (toPy (.lst ds)).shown
theorem repr_rows {rows : List (List D)} {Q : D → Prop} (h : ∀ r ∈ rows, r.all smlD = true ∧ r.length ≤ 7) (l7 : rows.length ≤ 7) (q : (textR (rows.map .lst)).length ≤ 2000 → Q (.str (textR (rows.map .lst)))) : oRepr [.lst (rows.map .lst)] Q := by
  obtain ⟨a1, a2, a3, a4, a5, a6⟩ := sml_rows h
  have sl : (textR (rows.map .lst)).length ≤ 2000 := by
    have e := PyData.shown_le_bulk 20 (by decide) (toPy (.lst (rows.map .lst))) a1
    have e2 : (toPy (.lst (rows.map .lst))).bulk ≤ 56 := Nat.le_trans a5 (by omega)
    unfold textR
    omega
  exact w_repr (a6 6) a2 a3 (show PyData.depthAll _ + 1 ≤ 8 by omega) (Nat.le_trans sl (by show 2000 ≤ sizeLine; decide)) (q sl)
theorem repr_ints {ns : List Int} {Q : D → Prop} (h : ∀ n ∈ ns, n.natAbs ≤ 10 ^ 15) (l7 : ns.length ≤ 7) (q : (textR (ns.map .int)).length ≤ 2000 → Q (.str (textR (ns.map .int)))) : oRepr [.lst (ns.map .int)] Q := by
  obtain ⟨a1, a2, a3, a4, a5, a6⟩ := sml_list (ds := ns.map D.int) (List.all_eq_true.mpr fun d hd => by
    obtain ⟨n, hn, rfl⟩ := List.mem_map.mp hd
    exact decide_eq_true (h n hn))
  rw [List.length_map] at a5
  have sl : (textR (ns.map .int)).length ≤ 2000 := by
    have e := PyData.shown_le_bulk 20 (by decide) (toPy (.lst (ns.map .int))) a1
    have e2 : (toPy (.lst (ns.map D.int))).bulk ≤ 7 := Nat.le_trans (Nat.le_of_eq a5) l7
    unfold textR
    omega
  exact w_repr (a6 7) a2 a3 (show PyData.depthAll _ + 1 ≤ 8 by omega) (Nat.le_trans sl (by show 2000 ≤ sizeLine; decide)) (q sl)
theorem w_catR {x y : Str} {Q : D → Prop} (h1 : x.length ≤ 2000) (h2 : y.length ≤ 2000) (q : Q (.str (x ++ y))) : oCatS (.str x) (.str y) Q := ⟨by omega, q⟩
structure ClkS (cs ss : List Int) : Prop where
  sc : ss.length = cs.length
  l4 : 4 ≤ cs.length
  l7 : cs.length ≤ 7
  st : StOk ss
theorem ClkS.set {cs ss : List Int} (C : ClkS cs ss) {a : Nat} {v : Int} (la : a < cs.length) (hv : v = 1 ∨ v = 2) (hz : ∀ k, k ≠ a → ss.getD k 0 = 0) : ClkS cs (ss.set a v) ∧ ∀ k, (ss.set a v).getD k 0 = 0 → ss.getD k 0 = 0 := by
  have la' : a < ss.length := by rw [C.sc]; exact la
  refine ⟨⟨by rw [List.length_set]; exact C.sc, C.l4, C.l7, ⟨fun k => ?_, fun i j hi hj => ?_⟩⟩, fun k hk => ?_⟩
  · rw [getD_set la']
    by_cases e : k = a
    · rw [if_pos e]; exact .inr hv
    · rw [if_neg e, hz k e]; exact .inl rfl
  · rw [getD_set la'] at hi hj
    have ei : i = a := Decidable.byContradiction fun e => by rw [if_neg e, hz i e] at hi; exact hi rfl
    have ej : j = a := Decidable.byContradiction fun e => by rw [if_neg e, hz j e] at hj; exact hj rfl
    rw [ei, ej]
  · rw [getD_set la'] at hk
    by_cases e : k = a
    · rw [if_pos e] at hk; omega
    · exact hz k e
theorem law_change_A (T : Tx K mg base) {dx : Addr} {ws : List V} {cs ss : List Int} {f m : Int} {q : AV → List AV → Prop} {x : Exn → List AV → Prop} (C : ClkS cs ss)
    (h : ∀ ss', ClkS cs ss' → (∀ k, ss'.getD k 0 = 0 → ss.getD k 0 = 0) → q (.fz .non) [.dr, clA T.c_Clocks dx ws cs ss' f m, .ol (ss'.map .int)]) : A_law_change T [.dr, clA T.c_Clocks dx ws cs ss f m, .ol (ss.map .int)] q x := by
  have sc := C.sc
  have l7 := C.l7
  have l4 := C.l4
  unfold clA at h ⊢
  refine A_law_change_of T _ _ _ _ _ _ ?_
  unfold b_law_change
  walk_at "awt"
  rw [List.length_map]
  refine ⟨⟨by omega, by omega⟩, ?_⟩
  rw [Int.toNat_natCast]
  unfold rngD
  refine comp_filA (fun k => !decide (ss.getD k 0 = 0)) (fun k => D.int (k : Nat)) (by rw [List.length_range]; show 0 + _ ≤ _; omega) (fun k hk Q A h1 h2 => ?_) ?_
  · have hk' := List.mem_range.mp hk
    rw [Int.zero_add]
    walk_at "awt"
    refine w_ixL (getI hk') ?_
    walk_at "awt"
    by_cases z : ss.getD k 0 = 0
    · rw [decide_eq_true z]
      exact h2 (by rw [decide_eq_true z]; rfl)
    · rw [decide_eq_false z]
      exact h1 (by rw [decide_eq_false z]; rfl)
  rw [List.nil_append]
  obtain ⟨L, eL⟩ : ∃ L, L = (List.range ss.length).filter fun k => !decide (ss.getD k 0 = 0) := ⟨_, rfl⟩
  rw [← eL]
  have mem : ∀ k, k ∈ L ↔ k < ss.length ∧ ss.getD k 0 ≠ 0 := fun k => by
    rw [eL, List.mem_filter, List.mem_range]
    by_cases z : ss.getD k 0 = 0
    · rw [decide_eq_true z]
      exact ⟨fun h => absurd h.2 (by decide), fun h => absurd z h.2⟩
    · rw [decide_eq_false z]
      exact ⟨fun h => ⟨h.1, z⟩, fun h => ⟨h.1, rfl⟩⟩
  walk_at "awt"
  rw [List.length_map]
  cases L with
  | nil =>
    have zero : ∀ k, ss.getD k 0 = 0 := fun k => Decidable.byContradiction fun z => by
      by_cases lk : k < ss.length
      · exact absurd ((mem k).mpr ⟨lk, z⟩) List.not_mem_nil
      · exact z (by rw [List.getD_eq_getElem?_getD, List.getElem?_eq_none (by omega)]; rfl)
    have nb : anyBad ss = false := List.any_eq_false.mpr fun s hs => by
      obtain ⟨k, hk, e⟩ := List.getElem_of_mem hs
      have := zero k
      rw [List.getD_eq_getElem?_getD, List.getElem?_eq_getElem hk, e] at this
      have e0 : s = 0 := this
      rw [e0]
      decide
    show cond true _ _
    walk_at "awt"
    rw [List.length_map]
    refine w_draw (by omega) (by omega) fun a a0 a1 => ?_
    obtain ⟨a, rfl⟩ := Int.eq_ofNat_of_zero_le a0
    have la : a < cs.length := by omega
    obtain ⟨C', hz⟩ := C.set (v := 1) la (.inl rfl) fun k _ => zero k
    walk_at "awt"
    refine fall_A T sc l7 rfl (fun n => absurd n ?_) (fun b e b0 b1 hb => absurd hb (by rw [nb]; exact Bool.false_ne_true)) (fun b e b0 b1 hb => ?_)
    · intro n
      have n' : (a : Int) < 0 ∨ (cs.length : Nat) - 1 < (a : Int) := n
      omega
    cases e
    rw [Int.toNat_natCast]
    walk_at "awt"
    refine w_ixQ (ixN_nat (by rw [List.length_map]; omega)) ?_
    rw [← List.map_set]
    walk_at "awt"
    exact h _ C' hz
  | cons a L =>
    obtain ⟨la, za⟩ := (mem a).mp List.mem_cons_self
    have at0 : atI (D.int (a : Nat) :: L.map fun k => D.int (k : Nat)) 0 = some (.int (a : Nat)) := atI_map (f := fun k : Nat => D.int (k : Nat)) (i := 0) (show (a :: L)[0]? = some a from rfl)
    show cond (decide (((L.length + 1 : Nat) : Int) = 0)) _ _
    rw [decide_eq_false (by omega)]
    walk_at "awt"
    refine w_ixL at0 ?_
    refine w_ixL (getI la) ?_
    walk_at "awt"
    by_cases z1 : ss.getD a 0 = 1
    · obtain ⟨C', hz⟩ := C.set (v := 2) (by omega) (.inr rfl) fun k hk => Decidable.byContradiction fun z => hk (C.st.o k a z za)
      rw [decide_eq_true z1]
      walk_at "awt"
      refine w_ixL at0 ?_
      walk_at "awt"
      refine rise_A T sc l7 rfl (fun n => absurd n ?_) (fun b e b0 b1 hb => absurd ?_ hb) (fun b e b0 b1 hb => ?_)
      · intro n
        have n' : (a : Int) < 0 ∨ (cs.length : Nat) - 1 < (a : Int) := n
        omega
      · cases e
        rw [Int.toNat_natCast, z1]
      cases e
      rw [Int.toNat_natCast]
      walk_at "awt"
      refine w_ixL at0 ?_
      walk_at "awt"
      refine w_ixQ (ixN_nat (by rw [List.length_map]; omega)) ?_
      rw [← List.map_set]
      walk_at "awt"
      exact h _ C' hz
    · rw [decide_eq_false z1]
      walk_at "awt"
      exact h _ C fun _ z => z
/-- what a turn is handed -/
structure RowsS (cs ss : List Int) (f m : Int) (rows : List (List D)) (gs : List Int) : Prop where
  rl : rows.length = cs.length
  gl : gs.length = cs.length
  ro : ∀ k r, rows[k]? = some r → ss.getD k 0 ≠ 1 → RowL cs ss f r
  go : ∀ k g, gs[k]? = some g → ss.getD k 0 ≠ 1 → 0 ≤ g ∧ g ≤ m
  ra : ∀ r ∈ rows, RowL cs ss f r ∨ r = []
  ga : ∀ g ∈ gs, g.natAbs ≤ 1000
theorem RowsS.fell {cs ss : List Int} {f m : Int} {rows : List (List D)} {gs : List Int} (h : RowsS cs ss f m rows gs) {i : Nat} (z : ss.getD i 0 = 1) : RowsS cs ss f m (rows.set i []) (gs.set i (-5)) := by
  refine ⟨by rw [List.length_set]; exact h.rl, by rw [List.length_set]; exact h.gl, fun k r e n => ?_, fun k g e n => ?_, fun r hr => ?_, fun g hg => ?_⟩
  · rw [List.getElem?_set_ne (fun e' => n (by rw [← e']; exact z))] at e
    exact h.ro k r e n
  · rw [List.getElem?_set_ne (fun e' => n (by rw [← e']; exact z))] at e
    exact h.go k g e n
  · rcases List.mem_or_eq_of_mem_set hr with hr | rfl
    · exact h.ra r hr
    · exact .inr rfl
  · rcases List.mem_or_eq_of_mem_set hg with hg | rfl
    · exact h.ga g hg
    · decide
theorem RowL.sml {cs ss : List Int} {f B : Int} {row : List D} (bd : ∀ k, -B ≤ cs.getD k 0 ∧ cs.getD k 0 ≤ B) (f0 : 0 ≤ f) (f1 : f ≤ 1000) (b0 : 10 ^ 12 ≤ B) (h : RowL cs ss f row) : ∀ d ∈ row, d = .non ∨ ∃ v, d = .int v ∧ -B ≤ v ∧ v ≤ B + 1000 := fun d hd => by
  obtain ⟨k, hk⟩ := List.mem_iff_getElem?.mp hd
  rcases h.2 k d hk with ⟨_, v, rfl, v0, v1⟩ | ⟨_, _, rfl | ⟨v, rfl, hv⟩⟩ | ⟨_, _, rfl⟩
  · have := bd k
    exact .inr ⟨v, rfl, by omega, by omega⟩
  · exact .inl rfl
  · exact .inr ⟨v, rfl, by omega, by omega⟩
  · exact .inl rfl
theorem RowsS.text {cs ss gs : List Int} {f m B : Int} {rows : List (List D)} (C : ClkS cs ss) (bd : ∀ k, -B ≤ cs.getD k 0 ∧ cs.getD k 0 ≤ B) (f0 : 0 ≤ f) (f1 : f ≤ 1000) (b0 : 10 ^ 12 ≤ B) (b1 : B ≤ 10 ^ 14) (h : RowsS cs ss f m rows gs) : ∀ r ∈ rows, r.all smlD = true ∧ r.length ≤ 7 := fun r hr => by
  rcases h.ra r hr with hr | rfl
  · refine ⟨List.all_eq_true.mpr fun d hd => ?_, by rw [hr.1, C.sc]; exact C.l7⟩
    rcases hr.sml bd f0 f1 b0 d hd with rfl | ⟨v, rfl, v0, v1⟩
    · rfl
    · exact decide_eq_true (by omega)
  · exact ⟨rfl, Nat.zero_le _⟩
theorem midV_in {ns : List Int} {a b : Int} (h3 : 3 ≤ ns.length) (h : ∀ n ∈ ns, a ≤ n ∧ n ≤ b) : a ≤ midV ns ∧ midV ns ≤ b := by
  have sl := srt_len ns
  have at' : ∀ k, k < ns.length → a ≤ (srt ns).getD k 0 ∧ (srt ns).getD k 0 ≤ b := fun k hk => by
    have hk' : k < (srt ns).length := by omega
    rw [List.getD_eq_getElem?_getD, List.getElem?_eq_getElem hk']
    exact h _ ((srt_perm ns).mem_iff.mp (List.getElem_mem hk'))
  have h1 := at' 1 (by omega)
  have h2 := at' (ns.length - 2) (by omega)
  unfold midV
  omega
theorem intz_mem {ds : List D} {v : Int} (h : v ∈ intz ds) : D.int v ∈ ds := by
  obtain ⟨d, hd, e⟩ := List.mem_filterMap.mp h
  cases d <;> first | (cases e; exact hd) | cases e
theorem newC_len (cs ss gs : List Int) (rows : List (List D)) : (newC cs ss gs rows).length = cs.length := by unfold newC; rw [List.length_map, List.length_range]
theorem newC_at {cs ss gs : List Int} {rows : List (List D)} {k : Nat} (hk : k < cs.length) : (newC cs ss gs rows).getD k 0 = newK cs ss gs rows k := getD_range hk
theorem RowsS.at {cs ss gs : List Int} {f m : Int} {rows : List (List D)} (h : RowsS cs ss f m rows gs) {k : Nat} (hk : k < cs.length) (z : ss.getD k 0 ≠ 1) : RowL cs ss f (rows.getD k []) ∧ 0 ≤ gs.getD k 0 ∧ gs.getD k 0 ≤ m := by
  have h1 : k < rows.length := by rw [h.rl]; exact hk
  have h2 : k < gs.length := by rw [h.gl]; exact hk
  rw [List.getD_eq_getElem?_getD, List.getD_eq_getElem?_getD, List.getElem?_eq_getElem h1, List.getElem?_eq_getElem h2]
  exact ⟨h.ro k _ (List.getElem?_eq_getElem h1) z, h.go k _ (List.getElem?_eq_getElem h2) z⟩
theorem next_cl {cs ss gs : List Int} {rows : List (List D)} (C : ClkS cs ss) : ClkS (newC cs ss gs rows) (newT ss) := by
  refine ⟨by rw [newC_len, newT, List.length_map]; exact C.sc, by rw [newC_len]; exact C.l4, by rw [newC_len]; exact C.l7, ⟨fun k => ?_, fun i j hi hj => ?_⟩⟩
  · rw [newT_at]
    by_cases z : ss.getD k 0 = 1
    · rw [if_pos z]; exact .inr (.inl rfl)
    · rw [if_neg z]; exact .inl rfl
  · rw [newT_at] at hi hj
    have nz : ∀ {i}, (if ss.getD i 0 = 1 then (1 : Int) else 0) ≠ 0 → ss.getD i 0 ≠ 0 := fun {i} h z => by
      rw [z] at h
      exact h rfl
    exact C.st.o i j (nz hi) (nz hj)
theorem next_bd {cs ss gs : List Int} {f m B : Int} {rows : List (List D)} (C : ClkS cs ss) (bd : ∀ k, -B ≤ cs.getD k 0 ∧ cs.getD k 0 ≤ B) (f0 : 0 ≤ f) (f1 : f ≤ 1000) (m1 : m ≤ 1000) (b0 : 10 ^ 12 ≤ B) (h : RowsS cs ss f m rows gs) : ∀ k, -(B + 2000) ≤ (newC cs ss gs rows).getD k 0 ∧ (newC cs ss gs rows).getD k 0 ≤ B + 2000 := fun k => by
  by_cases hk : k < cs.length
  · rw [newC_at hk, newK]
    by_cases z : ss.getD k 0 = 1
    · rw [if_pos z]
      have := bd k
      omega
    · rw [if_neg z]
      obtain ⟨h1, g0, g1⟩ := h.at hk z
      have := midV_in (a := -B) (b := B + 1000) (h1.three C.st (by have := C.sc; have := C.l4; omega)) fun v hv => by
        rcases h1.sml bd f0 f1 b0 _ (intz_mem hv) with e | ⟨v', e, v0, v1⟩
        · cases e
        · cases e; exact ⟨v0, v1⟩
      omega
  · rw [List.getD_eq_getElem?_getD, List.getElem?_eq_none (by rw [newC_len]; omega)]
    exact ⟨by show -(B + 2000) ≤ 0; omega, by show 0 ≤ B + 2000; omega⟩
theorem next_wd {cs ss gs : List Int} {f m : Int} {rows : List (List D)} (C : ClkS cs ss) (wd : Wd cs ss (2 * f + 2 * m)) (h : RowsS cs ss f m rows gs) : Wd (newC cs ss gs rows) (newT ss) (2 * f + 2 * m) := fun i j hi hj zi zj => by
  rw [newC_len] at hi hj
  have nz : ∀ {i}, (newT ss).getD i 0 = 0 → ss.getD i 0 ≠ 1 := fun {i} h z => by
    rw [newT_at, if_pos z] at h
    exact absurd h (by decide)
  rw [newC_at hi, newC_at hj, newK, newK, if_neg (nz zi), if_neg (nz zj)]
  obtain ⟨h1, g0, g1⟩ := h.at hi (nz zi)
  obtain ⟨h2, k0, k1⟩ := h.at hj (nz zj)
  have := mid_diff C.sc C.st C.l4 wd h1 h2
  omega
theorem newT_rng (ss : List Int) : (List.range ss.length).map (fun k => if ss.getD k 0 = 1 then (1 : Int) else 0) = newT ss := by
  unfold newT
  refine List.ext_getElem (by simp) fun i h1 h2 => ?_
  have hi : i < ss.length := by rw [List.length_map, List.length_range] at h1; exact h1
  rw [List.getElem_map, List.getElem_range, List.getElem_map, List.getD_eq_getElem?_getD, List.getElem?_eq_getElem hi]
  rfl
theorem law_turn_A (T : Tx K mg base) {dx : Addr} {ws : List V} {cs ss : List Int} {f m B : Int} {q : AV → List AV → Prop} {x : Exn → List AV → Prop} (C : ClkS cs ss) (f0 : 0 ≤ f) (f1 : f ≤ 1000) (m0 : 0 ≤ m) (m1 : m ≤ 1000) (bd : ∀ k, -B ≤ cs.getD k 0 ∧ cs.getD k 0 ≤ B) (b0 : 10 ^ 12 ≤ B) (b1 : B ≤ 10 ^ 14)
    (h : ∀ ws' rows gs, RowsS cs ss f m rows gs → q (.fz (.bl true)) [.dr, clA T.c_Clocks dx ws' (newC cs ss gs rows) (newT ss) f m, .ol ((newC cs ss gs rows).map .int), .ol ((newT ss).map .int), .fz (.int f), .fz (.int m)]) :
    A_law_turn T [.dr, clA T.c_Clocks dx ws cs ss f m, .ol (cs.map .int), .ol (ss.map .int), .fz (.int f), .fz (.int m)] q x := by
  have sc := C.sc
  have l7 := C.l7
  have l4 := C.l4
  have st := C.st
  unfold clA at h ⊢
  refine A_law_turn_of T _ _ _ _ _ _ _ _ _ ?_
  unfold b_law_turn
  walk_at "awt"
  refine comp_mapA (xs := ss) (fun s => .bl (decide (s = 0))) (by show 0 + _ ≤ _; omega) (fun s hs Q hQ => ?_) ?_
  · walk_at "awt"
    exact hQ
  rw [List.nil_append]
  walk_at "awt"
  refine comp_rel (fun _ y => ∃ r, y = D.lst r ∧ RowL cs ss f r) (by rw [List.length_map]; show 0 + _ ≤ _; omega) (fun d hd Q k => ?_) fun ys hys => ?_
  · obtain ⟨s, hs, rfl⟩ := List.mem_map.mp hd
    walk_at "awt"
    have fi : ∀ ns : List Int, (ns.map D.int).all fltD = true := fun ns => by rw [List.all_map]; exact List.all_eq_true.mpr fun _ _ => rfl
    refine w_callK (by simp [fltE, fltA, fltB, wipeA, fi]) ?_
    walk_at "awt"
    refine w_inL rfl (List.all_eq_true.mpr fun d hd => by
      obtain ⟨s, hs, rfl⟩ := List.mem_map.mp hd
      rfl) ?_
    rw [inF_int]
    walk_at "awt"
    refine law_heard_A T sc (by omega) f0 f1 fun row hrow => ?_
    refine ⟨rfl, ?_⟩
    walk_at "awt"
    exact k _ ⟨row, rfl, hrow⟩
  obtain ⟨rows, rfl, lr, hrows⟩ := paired_rows hys
  rw [List.length_map] at lr
  rw [List.nil_append]
  walk_at "awt"
  refine comp_rel (fun _ y => ∃ i : Int, y = .int i ∧ 0 ≤ i ∧ i ≤ m) (by rw [List.length_map]; show 0 + _ ≤ _; omega) (fun d hd Q k => ?_) fun ys2 hys2 => ?_
  · walk_at "awt"
    refine w_draw (by omega) (by omega) fun r r0 r1 => ?_
    walk_at "awt"
    exact k _ ⟨_, rfl, by omega, by omega⟩
  obtain ⟨gs, rfl, lg, hgs⟩ := paired_ints hys2
  rw [List.length_map] at lg
  rw [List.nil_append]
  walk_at "awt"
  rw [List.length_map]
  refine ⟨⟨by omega, by omega⟩, ?_⟩
  rw [Int.toNat_natCast]
  have R0 : RowsS cs ss f m rows gs := ⟨by omega, by omega, fun k r e _ => hrows r (List.mem_of_getElem? e), fun k g e _ => hgs g (List.mem_of_getElem? e), fun r hr => .inl (hrows r hr), fun g hg => by
    have := hgs g hg
    omega⟩
  clear hrows hgs hys hys2
  refine loop_rng (fun _ ρ => ∃ (rows' : List (List D)) (gs' : List Int) (v9 : Option AV), RowsS cs ss f m rows' gs' ∧ ρ = [some .dr, some (.ob T.c_Clocks dx clF ws [.fz (.lst (cs.map .int)), .ol (ss.map .int), .fz (.int f), .fz (.int m)]), some (.ol (cs.map .int)), some (.ol (ss.map .int)), some (.fz (.int f)), some (.fz (.int m)), some (.fz (.lst (ss.map fun s => .bl (decide (s = 0))))), some (.ol (rows'.map .lst)), some (.ol (gs'.map .int)), v9, none, none]) ⟨rows, gs, _, R0, rfl⟩ ?_ ?_
  · rintro i ρ K' hi ⟨rows', gs', v9, R, rfl⟩ hK
    walk_at "awt"
    rw [Int.zero_add]
    refine w_ixL (getI hi) ?_
    walk_at "awt"
    by_cases z : ss.getD i 0 = 1
    · rw [decide_eq_true z]
      walk_at "awt"
      refine w_ixQ (ixN_nat (by rw [List.length_map, R.rl]; omega)) ?_
      walk_at "awt"
      refine w_ixQ (ixN_nat (by rw [List.length_map, R.gl]; omega)) ?_
      exact hK _ ⟨rows'.set i [], gs'.set i (-5), _, R.fell z, by rw [List.map_set, List.map_set]; rfl⟩
    · rw [decide_eq_false z]
      walk_at "awt"
      exact hK _ ⟨rows', gs', _, R, rfl⟩
  rintro ρ ⟨rows', gs', v9, R, rfl⟩
  clear R0 lr lg rows gs
  have rt := R.text C bd f0 f1 b0 b1
  have gt : ∀ g ∈ gs', g.natAbs ≤ 10 ^ 15 := fun g hg => Nat.le_trans (R.ga g hg) (by decide)
  have rl := R.rl
  have gl := R.gl
  walk_at "awt"
  refine repr_rows rt (by omega) fun t1 => ?_
  walk_at "awt"
  refine repr_ints gt (by omega) fun t2 => ?_
  walk_at "awt"
  refine w_catR t1 t2 ?_
  walk_at "awt"
  refine turn_A T sc l7 R.rl R.gl (fun k r e n => (R.ro k r e n).ok sc st fun _ _ => rfl) (fun k r e n => (R.ro k r e n).three st (by omega)) R.go fun ws' => ?_
  walk_at "awt"
  rw [List.length_map]
  refine ⟨⟨by omega, by omega⟩, ?_⟩
  rw [Int.toNat_natCast, sc]
  dsimp only [putA, List.set_cons_zero, List.set_cons_succ]
  refine loop_rng (fun i ρ => ∃ v9 : Option AV, ρ = [some .dr, some (.ob T.c_Clocks dx clF ws' [.fz (.lst ((newC cs ss gs' rows').map .int)), .ol ((newT ss).map .int), .fz (.int f), .fz (.int m)]), some (.ol (((List.range cs.length).map fun k => if k < i then newK cs ss gs' rows' k else cs.getD k 0).map .int)), some (.ol (((List.range cs.length).map fun k => if k < i then (if ss.getD k 0 = 1 then (1 : Int) else 0) else ss.getD k 0).map .int)), some (.fz (.int f)), some (.fz (.int m)), some (.fz (.lst (ss.map fun s => .bl (decide (s = 0))))), some (.fz (.lst (rows'.map .lst))), some (.fz (.lst (gs'.map .int))), v9, some (.fz (.str (textR (rows'.map .lst) ++ textR (gs'.map .int)))), none]) ?_ ?_ ?_
  · rw [show ((List.range cs.length).map fun k => if k < 0 then newK cs ss gs' rows' k else cs.getD k 0) = cs from (List.map_congr_left fun k _ => if_neg (Nat.not_lt_zero k)).trans (range_getD rfl), show ((List.range cs.length).map fun k => if k < 0 then (if ss.getD k 0 = 1 then (1 : Int) else 0) else ss.getD k 0) = ss from (List.map_congr_left fun k _ => if_neg (Nat.not_lt_zero k)).trans (range_getD sc)]
    exact ⟨_, rfl⟩
  · rintro i ρ K' hi ⟨v9, rfl⟩ hK
    have hi' : i < ss.length := by omega
    obtain ⟨row, er⟩ : ∃ row, rows'[i]? = some row := ⟨_, List.getElem?_eq_getElem (by omega)⟩
    have eD : rows'.getD i [] = row := by rw [List.getD_eq_getElem?_getD, er]; rfl
    have g3 : atI (((List.range cs.length).map fun k => if k < i then (if ss.getD k 0 = 1 then (1 : Int) else 0) else ss.getD k 0).map D.int) (i : Nat) = some (.int (ss.getD i 0)) := by
      have := getI (xs := (List.range cs.length).map fun k => if k < i then (if ss.getD k 0 = 1 then (1 : Int) else 0) else ss.getD k 0) (k := i) (by rw [List.length_map, List.length_range]; exact hi)
      rwa [getD_range hi, if_neg (Nat.lt_irrefl i)] at this
    have nxt : ∀ {w9 : Option AV}, K' [some .dr, some (.ob T.c_Clocks dx clF ws' [.fz (.lst ((newC cs ss gs' rows').map .int)), .ol ((newT ss).map .int), .fz (.int f), .fz (.int m)]), some (.ol (((List.range cs.length).map fun k => if k < i + 1 then newK cs ss gs' rows' k else cs.getD k 0).map .int)), some (.ol (((List.range cs.length).map fun k => if k < i + 1 then (if ss.getD k 0 = 1 then (1 : Int) else 0) else ss.getD k 0).map .int)), some (.fz (.int f)), some (.fz (.int m)), some (.fz (.lst (ss.map fun s => .bl (decide (s = 0))))), some (.fz (.lst (rows'.map .lst))), some (.fz (.lst (gs'.map .int))), w9, some (.fz (.str (textR (rows'.map .lst) ++ textR (gs'.map .int)))), none] := hK _ ⟨_, rfl⟩
    walk_at "awt"
    rw [Int.zero_add]
    refine w_ixL g3 ?_
    walk_at "awt"
    by_cases z : ss.getD i 0 = 1
    · rw [decide_eq_true z]
      walk_at "awt"
      rw [show ((List.range cs.length).map fun k => if k < i then newK cs ss gs' rows' k else cs.getD k 0) = (List.range cs.length).map fun k => if k < i + 1 then newK cs ss gs' rows' k else cs.getD k 0 from List.map_congr_left fun k _ => by
        by_cases y : k < i
        · rw [if_pos y, if_pos (by omega)]
        · by_cases y2 : k = i
          · subst y2
            rw [if_neg y, if_pos (by omega), newK, if_pos z]
          · rw [if_neg y, if_neg (by omega)], show ((List.range cs.length).map fun k => if k < i then (if ss.getD k 0 = 1 then (1 : Int) else 0) else ss.getD k 0) = (List.range cs.length).map fun k => if k < i + 1 then (if ss.getD k 0 = 1 then (1 : Int) else 0) else ss.getD k 0 from List.map_congr_left fun k _ => by
        by_cases y : k < i
        · rw [if_pos y, if_pos (show k < i + 1 by omega)]
        · by_cases y2 : k = i
          · subst y2
            rw [if_neg y, if_pos (show k < k + 1 by omega), if_pos z, z]
          · rw [if_neg y, if_neg (show ¬ k < i + 1 by omega)]]
      exact nxt
    · rw [decide_eq_false z]
      walk_at "awt"
      have hrow := R.ro i row er z
      refine w_ixL (atI_map (f := D.lst) er) ?_
      walk_at "awt"
      refine law_middle_A T (row_ni (hrow.ok sc st fun _ _ => rfl)) (hrow.three st (by omega)) (by rw [hrow.1]; omega) ?_
      walk_at "awt"
      refine w_ixL (getI (by omega)) ?_
      walk_at "awt"
      refine w_ixQ (ixN_nat (by rw [List.length_map, List.length_map, List.length_range]; exact hi)) ?_
      walk_at "awt"
      refine w_ixQ (ixN_nat (by rw [List.length_map, List.length_map, List.length_range]; exact hi)) ?_
      have e1 : ((((List.range cs.length).map fun k => if k < i then newK cs ss gs' rows' k else cs.getD k 0).map D.int).set i (.int (midV (intz row) + gs'.getD i 0))) = ((List.range cs.length).map fun k => if k < i + 1 then newK cs ss gs' rows' k else cs.getD k 0).map D.int := by
        rw [← List.map_set]
        refine congrArg _ (rset fun k _ => ?_)
        by_cases y : k = i
        · subst y
          rw [if_pos (by omega), if_pos rfl, newK, if_neg z, eD]
        · rw [if_neg y]
          by_cases y2 : k < i
          · rw [if_pos (by omega), if_pos y2]
          · rw [if_neg (by omega), if_neg y2]
      have e2 : ((((List.range cs.length).map fun k => if k < i then (if ss.getD k 0 = 1 then (1 : Int) else 0) else ss.getD k 0).map D.int).set i (.int 0)) = ((List.range cs.length).map fun k => if k < i + 1 then (if ss.getD k 0 = 1 then (1 : Int) else 0) else ss.getD k 0).map D.int := by
        rw [← List.map_set]
        refine congrArg _ (rset fun k _ => ?_)
        by_cases y : k = i
        · subst y
          rw [if_pos (show k < k + 1 by omega), if_pos rfl, if_neg z]
        · rw [if_neg y]
          by_cases y2 : k < i
          · rw [if_pos (show k < i + 1 by omega), if_pos y2]
          · rw [if_neg (show ¬ k < i + 1 by omega), if_neg y2]
      rw [e1, e2]
      exact nxt
  · rintro ρ ⟨v9, rfl⟩
    rw [show ((List.range cs.length).map fun k => if k < cs.length then newK cs ss gs' rows' k else cs.getD k 0) = newC cs ss gs' rows' from List.map_congr_left fun k hk => if_pos (List.mem_range.mp hk), show ((List.range cs.length).map fun k => if k < cs.length then (if ss.getD k 0 = 1 then (1 : Int) else 0) else ss.getD k 0) = newT ss from (List.map_congr_left fun k hk => if_pos (List.mem_range.mp hk)).trans (by rw [← sc]; exact newT_rng ss)]
    walk_at "awt"
    refine repr_rows rt (by omega) fun t1 => ?_
    walk_at "awt"
    refine repr_ints gt (by omega) fun t2 => ?_
    walk_at "awt"
    refine w_catR t1 t2 ?_
    walk_at "awt"
    rw [decide_eq_true rfl]
    exact h ws' rows' gs' R
def Inv39 (T : Tx K mg base) (f m : Int) (i : Nat) (ρ : Env) : Prop := ∃ (cs ss : List Int) (dx : Addr) (ws : List V) (v2 v8 v9 v10 v11 v12 v13 v14 : Option AV), ClkS cs ss ∧ Wd cs ss (2 * f + 2 * m) ∧ (∀ k, -(10 ^ 12 + 2000 * (i : Int)) ≤ cs.getD k 0 ∧ cs.getD k 0 ≤ 10 ^ 12 + 2000 * (i : Int)) ∧
  ρ = [none, some .dr, v2, some (.fz (.int f)), some (.fz (.int m)), some (.ol (cs.map .int)), some (clA T.c_Clocks dx ws cs ss f m), some (.ol (ss.map .int)), v8, v9, v10, v11, v12, v13, v14]
theorem law_whole_A' (T : Tx K mg base) {i : Int} {q : AV → Prop} {x : Exn → Prop} (h : q (.fz (.bl true))) : A_law_whole T [.fz (.int i)] q x := by
  refine A_law_whole_of T ?_
  unfold b_law_whole
  walk_at "awt"
  exact h
theorem law_whole_N (T : Tx K mg base) {q : AV → Prop} {x : Exn → Prop} (h : q (.fz (.bl false))) : A_law_whole T [.fz .non] q x := by
  refine A_law_whole_of T ?_
  unfold b_law_whole
  walk_at "awt"
  exact h
theorem aSeqW {a b : AS} {N : AEnds} {ρ : Env} (h : a ⟨fun ρ' => b N ρ', N.rt, N.bk, N.ct, N.ex⟩ ρ) : aSeq a b N ρ := h
theorem law1_A (T : Tx K mg base) {f m : Int} {i : Nat} {cs ss : List Int} {dx : Addr} {ws : List V} {v2 v8 v9 v10 v11 v12 v13 v14 : Option AV} {N : AEnds} (hi : i ≤ 40) (C : ClkS cs ss) (wd : Wd cs ss (2 * f + 2 * m)) (f0 : 0 ≤ f) (f1 : f ≤ 1000) (m0 : 0 ≤ m) (m1 : m ≤ 1000)
    (bd : ∀ k, -(10 ^ 12 + 2000 * (i : Int)) ≤ cs.getD k 0 ∧ cs.getD k 0 ≤ 10 ^ 12 + 2000 * (i : Int)) (hN : ∀ ρ, Inv39 T f m (i + 1) ρ → N.nx ρ) :
    b_law_1 T N [none, some .dr, v2, some (.fz (.int f)), some (.fz (.int m)), some (.ol (cs.map .int)), some (clA T.c_Clocks dx ws cs ss f m), some (.ol (ss.map .int)), v8, v9, v10, v11, v12, v13, v14] := by
  obtain ⟨N1, N2, N3, N4, N5⟩ := N
  unfold b_law_1 clA
  walk_at "awt"
  refine law_turn_A T C f0 f1 m0 m1 bd (by omega) (by omega) fun ws' rows gs R => ?_
  have C' := next_cl (rows := rows) (gs := gs) C
  have wd' := next_wd C wd R
  have bd' := next_bd C bd f0 f1 m1 (by omega) R
  clear C wd bd R
  generalize newC cs ss gs rows = cs' at C' wd' bd' ⊢
  generalize newT ss = ss' at C' wd' bd' ⊢
  have sc := C'.sc
  have l7 := C'.l7
  have l4 := C'.l4
  walk_at "awt"
  dsimp only [putA, List.set_cons_zero, List.set_cons_succ]
  walk_at "awt"
  rw [List.length_map]
  refine ⟨⟨by omega, by omega⟩, ?_⟩
  rw [Int.toNat_natCast, sc]
  unfold rngD
  refine comp_mapA (xs := List.range cs'.length) (fun k => if ss'.getD k 0 = 0 then D.int (cs'.getD k 0) else .non) (by rw [List.length_range]; show 0 + _ ≤ _; omega) (fun k hk Q hQ => ?_) ?_
  · have hk' : k < cs'.length := List.mem_range.mp hk
    rw [Int.zero_add]
    walk_at "awt"
    refine w_ixL (getI (by omega)) ?_
    walk_at "awt"
    by_cases z : ss'.getD k 0 = 0
    · rw [if_pos z] at hQ
      rw [decide_eq_true z]
      walk_at "awt"
      refine w_ixL (getI hk') ?_
      exact hQ
    · rw [if_neg z] at hQ
      rw [decide_eq_false z]
      walk_at "awt"
      exact hQ
  rw [List.nil_append, show ((List.range cs'.length).map fun k => if ss'.getD k 0 = 0 then D.int (cs'.getD k 0) else .non) = toldL cs' ss' from rfl]
  have ni := told_ni cs' ss'
  have tl := told_len cs' ss'
  obtain ⟨ok1, ok2⟩ := ni_ok (k := 7) ni
  have fl : (toldL cs' ss').all fltD = true := List.all_eq_true.mpr fun d hd => by
    have := List.all_eq_true.mp ni d hd
    cases d <;> first | rfl | cases this
  have ne : intz (toldL cs' ss') ≠ [] := fun z => by
    have := told_three (cs := cs') C'.st l4
    rw [z] at this
    exact absurd this (by decide)
  walk_at "awt"
  refine comp_filter (fun d => !isNonD d) id (by show 0 + _ ≤ _; omega) (fun d hd Q A h1 h2 => ?_) ?_
  · have := List.all_eq_true.mp ni d hd
    cases d <;> first
      | (walk_at "awt"; exact h1 rfl)
      | (walk_at "awt"; exact h2 rfl)
      | cases this
  rw [List.nil_append, fil_ints ni]
  walk_at "awt"
  unfold clA
  refine w_meF0 rfl rfl ?_
  walk_at "awt"
  refine w_callFO rfl ?_
  refine told_A T sc l7 ?_
  refine ⟨fl, ?_⟩
  walk_at "awt"
  have okL : okD 8 (.lst (toldL cs' ss')) = true := ok1
  have deL : deq (.lst (toldL cs' ss')) (.lst (toldL cs' ss')) = true := ok2
  refine w_neD okL okL ?_
  rw [deL]
  walk_at "awt"
  refine comp_map (fun _ => .bl true) (by show 0 + _ ≤ _; omega) (fun d hd Q hQ => ?_) ?_
  · have := List.all_eq_true.mp ni d hd
    cases d with
    | int v =>
      walk_at "awt"
      refine law_whole_A' T ?_
      walk_at "awt"
      exact hQ
    | non =>
      walk_at "awt"
      refine law_whole_N T ?_
      walk_at "awt"
      exact hQ
    | _ => cases this
  rw [List.nil_append]
  walk_at "awt"
  refine w_allB (p := fun _ => true) ?_
  rw [show ((toldL cs' ss').all fun _ => true) = true from List.all_eq_true.mpr fun _ _ => rfl]
  walk_at "awt"
  refine ⟨by omega, ?_⟩
  refine w_revS rfl ?_
  walk_at "awt"
  refine w_meF0 rfl rfl ?_
  walk_at "awt"
  refine w_callFO rfl ?_
  refine told_A T sc l7 ?_
  refine ⟨fl, ?_⟩
  walk_at "awt"
  refine w_neD okL okL ?_
  rw [deL]
  walk_at "awt"
  refine w_ints (intsOf_map _) ⟨ne, ?_⟩
  walk_at "awt"
  refine w_ints (intsOf_map _) ⟨ne, ?_⟩
  walk_at "awt"
  refine w_meF0 rfl rfl ?_
  walk_at "awt"
  refine w_callFO rfl ?_
  refine width_A T sc l7 ne ?_
  refine ⟨rfl, ?_⟩
  walk_at "awt"
  rw [decide_eq_true rfl]
  walk_at "awt"
  refine slack_of_A T ?_
  walk_at "awt"
  have wide : mxI (intz (toldL cs' ss')) - mnI (intz (toldL cs' ss')) ≤ 2 * f + 2 * m := by
    have mem : ∀ v, v ∈ intz (toldL cs' ss') → ∃ k, k < cs'.length ∧ ss'.getD k 0 = 0 ∧ v = cs'.getD k 0 := fun v hv => by
      obtain ⟨d, hd, e⟩ := List.mem_filterMap.mp hv
      obtain ⟨k, hk, rfl⟩ := List.mem_map.mp hd
      by_cases z : ss'.getD k 0 = 0
      · rw [if_pos z] at e
        cases e
        exact ⟨k, List.mem_range.mp hk, z, rfl⟩
      · rw [if_neg z] at e
        cases e
    obtain ⟨a, la, za, ea⟩ := mem _ (mxI_is ne).1
    obtain ⟨b, lb, zb, eb⟩ := mem _ (mnI_is ne).1
    rw [ea, eb]
    exact wd' a b la lb za zb
  rw [decide_eq_false (by omega)]
  walk_at "awt"
  exact hN _ ⟨cs', ss', dx, ws', _, _, _, _, _, _, _, _, C', wd', fun k => by
    have := bd' k
    omega, rfl⟩
theorem law_math (T : Tx K mg base) : b_law T endT (none :: some .dr :: List.replicate 13 none) := by
  unfold b_law
  refine aSeqW ?_
  refine w_asgU1 ?_
  walk_at "awt"
  refine law_clocks_A T fun ns f m n4 n7 f0 f1 m0 m1 ⟨b, ⟨hb1, hb2⟩, hb⟩ ws lw => ?_
  refine w_u1Q ?_
  have ne : ns ≠ [] := fun z => by rw [z] at n4; exact absurd n4 (by decide)
  have fi : ∀ ns : List Int, (ns.map D.int).all fltD = true := fun ns => by rw [List.all_map]; exact List.all_eq_true.mpr fun _ _ => rfl
  walk_at "awt"
  refine w_mkK0 rfl (fi ns) ?_
  walk_at "awt"
  refine ⟨rfl, rfl, clocks_O T n4 n7 f0 f1 m0 m1 (mx_le ne hb) fun dx ws_1 => ?_⟩
  walk_at "awt"
  have okN : okD 8 (.lst (ns.map D.int)) = true := okDs_ints ns
  refine w_neD okN okN ?_
  rw [show deq (.lst (ns.map D.int)) (.lst (ns.map D.int)) = true from deqs_ints ns]
  walk_at "awt"
  refine ⟨by rw [List.length_map]; omega, ?_⟩
  walk_at "awt"
  refine comp_mapA (xs := ns) (fun _ => .int 0) (by show 0 + _ ≤ _; omega) (fun s hs Q hQ => ?_) ?_
  · walk_at "awt"
    exact hQ
  rw [List.nil_append, show (ns.map fun _ => D.int 0) = (List.replicate ns.length (0 : Int)).map D.int by rw [List.map_replicate, List.map_const']]
  have rep : ∀ k, (List.replicate ns.length (0 : Int)).getD k 0 = 0 := fun k => by
    rw [List.getD_eq_getElem?_getD, List.getElem?_replicate]
    split <;> rfl
  have C0 : ClkS ns (List.replicate ns.length (0 : Int)) := ⟨List.length_replicate, n4, n7, ⟨fun k => .inl (rep k), fun i j hi => absurd (rep i) hi⟩⟩
  have at0 : ∀ k, k < ns.length → b ≤ ns.getD k 0 ∧ ns.getD k 0 ≤ b + (2 * f + 2 * m) := fun k hk => by
    rw [List.getD_eq_getElem?_getD, List.getElem?_eq_getElem hk]
    exact hb _ (List.getElem_mem hk)
  have W0 : Wd ns (List.replicate ns.length (0 : Int)) (2 * f + 2 * m) := fun i j hi hj _ _ => by
    have h1 := at0 i hi
    have h2 := at0 j hj
    omega
  have B0 : ∀ k, -(10 ^ 12 + 2000 * ((0 : Nat) : Int)) ≤ ns.getD k 0 ∧ ns.getD k 0 ≤ 10 ^ 12 + 2000 * ((0 : Nat) : Int) := fun k => by
    by_cases hk : k < ns.length
    · have := at0 k hk
      omega
    · rw [List.getD_eq_getElem?_getD, List.getElem?_eq_none (by omega)]
      exact ⟨by show -(10 ^ 12 + 2000 * ((0 : Nat) : Int)) ≤ 0; omega, by show (0 : Int) ≤ 10 ^ 12 + 2000 * ((0 : Nat) : Int); omega⟩
  walk_at "awt"
  refine w_draw (by omega) (by omega) fun r r0 r1 => ?_
  walk_at "awt"
  refine ⟨⟨by omega, by omega⟩, ?_⟩
  refine loop_rng (fun i ρ => Inv39 T f m i ρ) ⟨ns, List.replicate ns.length 0, dx, ws_1, _, _, _, _, _, _, _, _, C0, W0, B0, rfl⟩ ?_ ?_
  · rintro i ρ K' hi ⟨cs, ss, dx, ws, v2, v8, v9, v10, v11, v12, v13, v14, C, W, B, rfl⟩ hK
    have hi' : i ≤ 40 := by omega
    walk_at "awt"
    refine w_draw (by omega) (by omega) fun w w0 w1 => ?_
    walk_at "awt"
    refine cond_dec (fun hw => ?_) (fun hw => ?_)
    · walk_at "awt"
      refine law_change_A T C fun ss' C' hz => ?_
      walk_at "awt"
      dsimp only [putA, List.set_cons_zero, List.set_cons_succ]
      exact law1_A T hi' C' (fun i j h1 h2 h3 h4 => W i j h1 h2 (hz i h3) (hz j h4)) f0 f1 m0 m1 B hK
    · walk_at "awt"
      exact law1_A T hi' C W f0 f1 m0 m1 B hK
  · rintro ρ ⟨cs, ss, dx, ws, v2, v8, v9, v10, v11, v12, v13, v14, C, W, B, rfl⟩
    walk_at "awt"
    rfl
theorem ok_law (T : Tx K mg base) : FnOkG P w K mg base CX0 7 T.f_law T.fd_law ["_law_script"] (spLaw K T.tb) := by
  refine fun_okG T.F_law sc_law (fun vs H Q E h => ?_) (fun cdv _ A gd outer s0 H vs Q E hr h => ?_)
  · obtain ⟨a, ns, rfl, _⟩ := h
    rfl
  · obtain ⟨a, ns, rfl, hS, hlen, hbits, htb, q⟩ := h
    obtain ⟨mv_kb_Clocks_init_gain_err, hkb_Clocks_init_gain_err⟩ := kb_Clocks_init_gain_err T
    have cl_Clocks := T.C_Clocks
    refine ⟨_, (pss_cons (ps_set (i := 1) sc_law.nd rfl (Or.inl rfl) (pe_call (ok_law_start T) (hr.mono (by decide)) (by rfl) T.g_law_start T.F_law_start.kp T.b_law_start .nil pass0 (pa_cons (pv 0) pa_nil)))
      (pss_cons (ps_asg (pe_call (ok_law_clocks T) (hr.mono (by decide)) (by rfl) T.g_law_clocks T.F_law_clocks.kp T.b_law_clocks .nil pass0 (pa_cons (pv 1) pa_nil)) (pg_tupK (K := K) (n := 3) rfl (by rfl) (pgs_cons (pg_name (i := 2) sc_law.nd rfl (Or.inl rfl)) (pgs_cons (pg_name (i := 3) sc_law.nd rfl (Or.inl rfl)) (pgs_cons (pg_name (i := 4) sc_law.nd rfl (Or.inl rfl)) pgs_nil)))))
      (pss_cons (ps_set (i := 5) sc_law.nd rfl (Or.inr rfl) (pe_callTy (call_listK (K := K) rfl) (by rfl) T.z_list bt_list (pa_cons (pv 2) pa_nil)))
      (pss_cons (ps_set (i := 6) sc_law.nd rfl (Or.inl rfl) (pe_mkNS T.M_Clocks (ok_Clocks_init T) (hr.mono (by decide)) (by rfl) T.g_Clocks hkb_Clocks_init_gain_err coldAt (pa_cons (pv 2) pa_nil) (pk_cons (pv 4) (pk_cons (pv 3) pk_nil))))
      (pss_cons (ps_if (pt_cmpR (op_neDK (K := K) rfl hr.units) (pv 2) (pv 5) (nomark _))
      (pss_one (ps_ret pe_bl))
      pss_nil)
      (pss_cons (ps_expr (pe_bm PySem.F.plainAttrs_list PySem.F.slot_list_append PySem.F.type_list_append mt_append (pv 2) (pa_cons pe_int pa_nil)))
      (pss_cons (ps_set (i := 7) sc_law.nd rfl (Or.inr rfl) (pe_lc (own := [("_law_one", 13)]) (by rfl) sc_law.nd (pi_listK (K := K) rfl (pv 5)) (blkOk_by (own := [("_law_one", 13)]) (N := ["_law_script", "_law_s", "_law_first", "_law_fault", "_law_more", "_law_stands", "_law_clocks_here", "_law_state", "_law_turn_here", "_law_due", "_law_good", "_law_found", "_law_wide", "_law_one", "_law_at"]) (sc := defScope s_law) (by decide +kernel)) (fun _ _ _ _ _ => (pg_name (i := 13) sc_law.nd rfl (Or.inl rfl))) (fun _ _ _ _ _ => pts_nil) (fun _ _ _ _ _ => pe_int)))
      (pss_cons (ps_for PassesOwn.never rfl (pi_range1 (by rfl) T.z_range (pa_cons (pe_op op_add pe_int (pe_call (ok_law_draw T) (hr.mono (by decide)) (by rfl) T.g_law_draw T.F_law_draw.kp T.b_law_draw .nil pass0 (pa_cons (pv 1) (pa_cons pe_int pa_nil)))) pa_nil)) (pg_name (i := 8) sc_law.nd rfl (Or.inl rfl))
      (pss_cons (ps_if (pt_cmpR op_eq (pe_call (ok_law_draw T) (hr.mono (by decide)) (by rfl) T.g_law_draw T.F_law_draw.kp T.b_law_draw .nil pass0 (pa_cons (pv 1) (pa_cons pe_int pa_nil))) pe_int (nomark _))
      (pss_one (ps_expr (pe_call (ok_law_change T) (hr.mono (by decide)) (by rfl) T.g_law_change T.F_law_change.kp T.b_law_change .nil pass0 (pa_cons (pv 1) (pa_cons (pv 6) (pa_cons (pv 7) pa_nil))))))
      pss_nil)
      (pss_cons (ps_if (pt_not (pt_val (pe_callG (ok_law_turn T) gd (hr.mono (by decide)) (by rfl) T.g_law_turn T.F_law_turn.kp T.b_law_turn (pa_cons (pv 1) (pa_cons (pv 6) (pa_cons (pv 5) (pa_cons (pv 7) (pa_cons (pv 3) (pa_cons (pv 4) pa_nil)))))))))
      (pss_one (ps_ret pe_bl))
      pss_nil)
      (pss_cons (ps_setLc (i := 9) (own := [("_law_at", 14)]) (by rfl) sc_law.nd rfl rfl (sw_true rfl rfl rfl (by decide +kernel)) (pi_range1 (by rfl) T.z_range (pa_cons (pe_callB (call_lenK (K := K) rfl) (by rfl) T.z_len bt_len (pa_cons (pv 7) pa_nil)) pa_nil)) (blkOk_by (own := [("_law_at", 14)]) (N := ["_law_script", "_law_s", "_law_first", "_law_fault", "_law_more", "_law_stands", "_law_clocks_here", "_law_state", "_law_turn_here", "_law_due", "_law_good", "_law_found", "_law_wide", "_law_one", "_law_at"]) (sc := defScope s_law) (by decide +kernel)) (fun _ _ _ _ _ => (pg_name (i := 14) sc_law.nd rfl (Or.inl rfl))) (fun _ _ _ _ _ => pts_nil) (fun _ _ _ _ _ => (pe_ifExp (pt_cmpR op_eq (pe_ix (ix_listK (K := K) rfl) (pv 7) (pv 14) (fun _ _ => rfl)) pe_int (nomark _)) (pe_ix (ix_listK (K := K) rfl) (pv 5) (pv 14) (fun _ _ => rfl)) pe_non)))
      (pss_cons (ps_setLc (i := 10) (own := [("_law_one", 13)]) (by rfl) sc_law.nd rfl rfl (sw_true rfl rfl rfl (by decide +kernel)) (pi_listK (K := K) rfl (pv 9)) (blkOk_by (own := [("_law_one", 13)]) (N := ["_law_script", "_law_s", "_law_first", "_law_fault", "_law_more", "_law_stands", "_law_clocks_here", "_law_state", "_law_turn_here", "_law_due", "_law_good", "_law_found", "_law_wide", "_law_one", "_law_at"]) (sc := defScope s_law) (by decide +kernel)) (fun _ _ _ _ _ => (pg_name (i := 13) sc_law.nd rfl (Or.inl rfl))) (fun _ _ _ _ _ => (pts_one (pt_cmpR op_notN (pv 13) pe_non (nomark _)))) (fun _ _ _ _ _ => (pv 13)))
      (pss_cons (ps_set (i := 11) sc_law.nd rfl (Or.inl rfl) (pe_meth0 (pv 6) T.C_Clocks T.m_Clocks_told (ok_Clocks_told T) (hr.mono (by decide)) T.b_Clocks_told .nil pass0))
      (pss_cons (ps_if ((pw_or (pt_not (pt_val (pe_callB (call_isiKK (K := K) rfl) (by rfl) T.z_isinstance bt_isinstance (pa_cons (pv 11) (pa_cons (pe_bltn (v := .ty "list") (by rfl) T.z_list bt_list rfl) pa_nil))))) (pw_or (pt_cmpR (op_neDK (K := K) rfl hr.units) (pv 11) (pv 9) (nomark _)) (pw_or1 (pt_not (pt_val (pe_callB (cr_allK (K := K) rfl (by rfl)) (by rfl) T.z_all bt_all (pa_cons (pe_lc (own := [("_law_one", 13)]) (by rfl) sc_law.nd (pi_listK (K := K) rfl (pv 11)) (blkOk_by (own := [("_law_one", 13)]) (N := ["_law_script", "_law_s", "_law_first", "_law_fault", "_law_more", "_law_stands", "_law_clocks_here", "_law_state", "_law_turn_here", "_law_due", "_law_good", "_law_found", "_law_wide", "_law_one", "_law_at"]) (sc := defScope s_law) (by decide +kernel)) (fun _ _ _ _ _ => (pg_name (i := 13) sc_law.nd rfl (Or.inl rfl))) (fun _ _ _ _ _ => pts_nil) (fun _ _ _ _ _ => (pe_or (pe_call (ok_law_whole T) (hr.mono (by decide)) (by rfl) T.g_law_whole T.F_law_whole.kp T.b_law_whole .nil pass0 (pa_cons (pv 13) pa_nil)) (pe_one (pe_cmpR op_isN (pv 13) pe_non (nomark _)))))) pa_nil)))))))).pt
      (pss_one (ps_ret pe_bl))
      pss_nil)
      (pss_cons (ps_expr (pe_bm PySem.F.plainAttrs_list PySem.F.slot_list_append PySem.F.type_list_append mt_append (pv 11) (pa_cons pe_int pa_nil)))
      (pss_cons (ps_expr (pe_bm0 PySem.F.plainAttrs_list PySem.F.slot_list_reverse PySem.F.type_list_reverse mt_reverse (pv 11)))
      (pss_cons (ps_if (pt_cmpR (op_neDK (K := K) rfl hr.units) (pe_meth0 (pv 6) T.C_Clocks T.m_Clocks_told (ok_Clocks_told T) (hr.mono (by decide)) T.b_Clocks_told .nil pass0) (pv 9) (nomark _))
      (pss_one (ps_ret pe_bl))
      pss_nil)
      (pss_cons (ps_set (i := 12) sc_law.nd rfl (Or.inl rfl) (pe_op op_sub (pe_callB (cr_maxK (K := K) rfl (by rfl)) (by rfl) T.z_max bt_max (pa_cons (pv 10) pa_nil)) (pe_callB (cr_minK (K := K) rfl (by rfl)) (by rfl) T.z_min bt_min (pa_cons (pv 10) pa_nil))))
      (pss_one (ps_if ((pw_or (pt_cmpR op_ne (pe_meth0 (pv 6) T.C_Clocks T.m_Clocks_width (ok_Clocks_width T) (hr.mono (by decide)) T.b_Clocks_width .nil pass0) (pv 12) (nomark _)) (pw_or1 (pt_cmpR op_gt (pv 12) (pe_call (ok_slack_of T) (hr.mono (by decide)) (by rfl) T.g_slack_of T.F_slack_of.kp T.b_slack_of .nil pass0 (pa_cons (pv 3) (pa_cons (pv 4) pa_nil))) (nomark _))))).pt
      (pss_one (ps_ret pe_bl))
      pss_nil)))))))))))))
      (pss_one (ps_ret pe_bl)))))))))), ?_⟩
    refine i_seq (i_set (i_call (i_cons (i_var rfl (i_nil ?_)))))
    refine ⟨a, ns, fun _ => none, rfl, hS, fun _ _ z => (nomatch z), fun s U H1 g D n0 => ?_⟩
    refine law_run (K := K) (nl := 13) (x := a) (U := fun _ => none) ⟨htb, fun _ _ z => (by cases z)⟩ g D n0 q (fun U0 H0 X E => ?_) (law_math T)
    unfold b_law b_law_1
    exact (sim_seq (sim_asgU1 rfl rfl rfl (sim_call (sim_slot sim_args)))
    (sim_seq (sim_setO rfl (sim_cbO bu_list (sim_consW sim_varW sim_nilW)))
    (sim_seq (sim_setO rfl (sim_mkK0 rfl (by walk_at "arr") (sim_cons sim_var (sim_cons sim_var sim_nil))))
    (sim_seq (sim_if (sim_test (SimE.w (sim_op op_neDD sim_varW sim_varW)))
    (sim_ret sim_bl)
    sim_next)
    (sim_seq (sim_app sim_int)
    (sim_seq (sim_setO rfl (sim_lc (sim_itLW sim_varW) (sim_gN rfl) sim_yes sim_int rfl rfl))
    (sim_seq (sim_for (sim_rng1 (sim_consW (SimE.w (sim_op (op_i0 (fun _ _ _ => rfl)) (SimE.w sim_int) (SimE.w (sim_fz (sim_call (sim_slot (sim_arg sim_int sim_args))))))) sim_nilW)) (sim_gN rfl)
    (sim_seq (sim_if (sim_test (SimE.w (sim_op op_eqS (SimE.w (sim_fz (sim_call (sim_slot (sim_arg sim_int sim_args))))) (SimE.w sim_int))))
    (simM_drop (simM_fz (simM_call (sim_slot (sim_slotO (sim_slotO sim_args))))))
    sim_next)
    (sim_seq (simM_if (simM_not (simM_test (simM_fz (simM_call (sim_slot (sim_slotO (sim_slotO (sim_slotO (sim_arg sim_var (sim_arg sim_var sim_args))))))))))
    (sim_ret sim_bl)
    sim_next)
    (sim_seq (sim_set rfl (sim_fz (sim_lc (SimI.w (sim_rng1 (sim_consW (SimE.w (sim_cb bu_len (sim_consW sim_varW sim_nilW))) sim_nilW))) (sim_gN rfl) sim_yes (sim_ifE (sim_test (SimE.w (sim_op op_eqS (SimE.w (sim_op op_ixL sim_varW (SimE.w sim_var))) (SimE.w sim_int)))) (sim_op op_ixL sim_varW (SimE.w sim_var)) sim_non) rfl rfl)))
    (sim_seq (sim_set rfl (sim_fz (sim_lc (sim_itLW (SimE.w sim_var)) (sim_gN rfl) (sim_test (SimE.w (sim_op op_notND (SimE.w sim_var) (SimE.w sim_non)))) sim_var rfl rfl)))
    (sim_seq (sim_setO rfl (sim_meF0 sim_args))
    (sim_seq (sim_if (sim_or (sim_not (sim_test (SimE.w (sim_cb bu_isi (sim_consW sim_varW (sim_consW (SimE.w sim_ty) sim_nilW)))))) (sim_or (sim_test (SimE.w (sim_op op_neDD sim_varW (SimE.w sim_var)))) (sim_not (sim_test (SimE.w (sim_cb bu_all (sim_consW (SimE.w (sim_fz (sim_lc (sim_itLW sim_varW) (sim_gN rfl) sim_yes (sim_orV (SimE.w (sim_fz (sim_call (sim_arg sim_var sim_args)))) (sim_op op_isND (SimE.w sim_var) (SimE.w sim_non))) rfl rfl))) sim_nilW)))))))
    (sim_ret sim_bl)
    sim_next)
    (sim_seq (sim_app sim_int)
    (sim_seq sim_revS
    (sim_seq (sim_if (sim_test (SimE.w (sim_op op_neDD (SimE.w (sim_fz (sim_meF0 sim_args))) (SimE.w sim_var))))
    (sim_ret sim_bl)
    sim_next)
    (sim_seq (sim_set rfl (sim_op (op_i0 (fun _ _ _ => rfl)) (SimE.w (sim_cb bu_max (sim_consW (SimE.w sim_var) sim_nilW))) (SimE.w (sim_cb bu_min (sim_consW (SimE.w sim_var) sim_nilW)))))
    (sim_if (sim_or (sim_test (SimE.w (sim_op op_neS (SimE.w (sim_fz (sim_meF0 sim_args))) (SimE.w sim_var)))) (sim_test (SimE.w (sim_op (op_i0 (fun _ _ _ => rfl)) (SimE.w sim_var) (SimE.w (sim_fz (sim_call (sim_arg sim_var (sim_arg sim_var sim_args)))))))))
    (sim_ret sim_bl)
    sim_next))))))))))))
    (sim_ret sim_bl))))))))
end
theorem all_mk {l : PySem.W.OpenLaw} {w : World} {K : PySem.W.Frag} {h : Heap} {mg : Str → Option Value} {fa : Addr} (X : K.In h) (G : h.Ns mainGlobals mg) (hfa : mg "law" = some (.ref fa))
    {oc_Clocks : Addr}
    {f0 : Addr} {od0 an0 : Option Addr} {sl0 : Array (Option Value)} {oc0 kV0 dc0 pm0 cd0 ct0 : Value}
    {f1 : Addr} {od1 an1 : Option Addr} {sl1 : Array (Option Value)} {oc1 kV1 dc1 pm1 cd1 ct1 : Value}
    {f2 : Addr} {od2 an2 : Option Addr} {sl2 : Array (Option Value)} {oc2 kV2 dc2 pm2 cd2 ct2 : Value}
    {f3 : Addr} {od3 an3 : Option Addr} {sl3 : Array (Option Value)} {oc3 kV3 dc3 pm3 cd3 ct3 : Value}
    {f4 : Addr} {od4 an4 : Option Addr} {sl4 : Array (Option Value)} {oc4 kV4 dc4 pm4 cd4 ct4 : Value}
    {f5 : Addr} {od5 an5 : Option Addr} {sl5 : Array (Option Value)} {oc5 dc5 pm5 cd5 ct5 : Value} {DD5 : Addr} {tk5_0 : Tok} {tk5_1 : Tok}
    {f6 : Addr} {od6 an6 : Option Addr} {sl6 : Array (Option Value)} {oc6 kV6 dc6 pm6 cd6 ct6 : Value}
    {f7 : Addr} {od7 an7 : Option Addr} {sl7 : Array (Option Value)} {oc7 kV7 dc7 pm7 cd7 ct7 : Value}
    {f8 : Addr} {od8 an8 : Option Addr} {sl8 : Array (Option Value)} {oc8 kV8 dc8 pm8 cd8 ct8 : Value}
    {f9 : Addr} {od9 an9 : Option Addr} {sl9 : Array (Option Value)} {oc9 kV9 dc9 pm9 cd9 ct9 : Value}
    {f10 : Addr} {od10 an10 : Option Addr} {sl10 : Array (Option Value)} {oc10 kV10 dc10 pm10 cd10 ct10 : Value}
    {f11 : Addr} {od11 an11 : Option Addr} {sl11 : Array (Option Value)} {oc11 kV11 dc11 pm11 cd11 ct11 : Value}
    {f12 : Addr} {od12 an12 : Option Addr} {sl12 : Array (Option Value)} {oc12 kV12 dc12 pm12 cd12 ct12 : Value}
    {f13 : Addr} {od13 an13 : Option Addr} {sl13 : Array (Option Value)} {oc13 kV13 dc13 pm13 cd13 ct13 : Value}
    {f14 : Addr} {od14 an14 : Option Addr} {sl14 : Array (Option Value)} {oc14 kV14 dc14 pm14 cd14 ct14 : Value}
    {f15 : Addr} {od15 an15 : Option Addr} {sl15 : Array (Option Value)} {oc15 kV15 dc15 pm15 cd15 ct15 : Value}
    {f16 : Addr} {od16 an16 : Option Addr} {sl16 : Array (Option Value)} {oc16 kV16 dc16 pm16 cd16 ct16 : Value}
    {f17 : Addr} {od17 an17 : Option Addr} {sl17 : Array (Option Value)} {oc17 kV17 dc17 pm17 cd17 ct17 : Value}
    {f18 : Addr} {od18 an18 : Option Addr} {sl18 : Array (Option Value)} {oc18 kV18 dc18 pm18 cd18 ct18 : Value}
    {f19 : Addr} {od19 an19 : Option Addr} {sl19 : Array (Option Value)} {oc19 kV19 dc19 pm19 cd19 ct19 : Value}
    {f20 : Addr} {od20 an20 : Option Addr} {sl20 : Array (Option Value)} {oc20 kV20 dc20 pm20 cd20 ct20 : Value}
    {f21 : Addr} {od21 an21 : Option Addr} {sl21 : Array (Option Value)} {oc21 kV21 dc21 pm21 cd21 ct21 : Value}
    {tc_FALLEN : Tok}
    {tc_GOOD : Tok}
    {tc_LISTENS : Tok}
    {tc_MOST_CLOCKS : Tok}
    {ec_NetError : Addr} {ec_BadNumber : Addr} {ec_NoStep : Addr} {ec_TooFew : Addr}
    (oa_Clocks : PySem.W.nsIn K mainGlobals "Clocks" = some (some (.ref oc_Clocks))) (opg_Clocks : PySem.W.plainGet K oc_Clocks Str.empty = true) (ohd_Clocks : PySem.W.hasDictIn K oc_Clocks = true) (opo_Clocks : PySem.W.plainOver K oc_Clocks = true) (osa_Clocks : PySem.W.findIn K (.ref oc_Clocks) "__setattr__" = some (some (.builtin "object.__setattr__")))
    (on_Clocks_stands : PySem.W.findIn K (.ref oc_Clocks) "stands" = some none)
    (on_Clocks_state : PySem.W.findIn K (.ref oc_Clocks) "state" = some none)
    (on_Clocks_err : PySem.W.findIn K (.ref oc_Clocks) "err" = some none)
    (on_Clocks_gain : PySem.W.findIn K (.ref oc_Clocks) "gain" = some none)
    (omk_Clocks : PySem.W.makesIn K oc_Clocks = true) (okp_Clocks : PySem.W.keepIn K (.ref oc_Clocks) = true)
    (a0 : PySem.W.nsIn K mainGlobals "within" = some (some (.ref f0))) (l0 : K.lookup f0 = some ⟨oc0, od0, .func (PySem.W.fnOf "within" "within" (defArgs s_within) (defBody s_within) (defScope s_within) .none kV0 dc0 pm0 an0 cd0 ct0), sl0⟩) (c0 : PySem.W.codeIn K cd0 "within" = true) (k0 : PySem.W.keepIn K (.ref f0) = true)
    (a1 : PySem.W.nsIn K mainGlobals "check" = some (some (.ref f1))) (l1 : K.lookup f1 = some ⟨oc1, od1, .func (PySem.W.fnOf "check" "check" (defArgs s_check) (defBody s_check) (defScope s_check) .none kV1 dc1 pm1 an1 cd1 ct1), sl1⟩) (c1 : PySem.W.codeIn K cd1 "check" = true) (k1 : PySem.W.keepIn K (.ref f1) = true)
    (a2 : PySem.W.nsIn K mainGlobals "middle" = some (some (.ref f2))) (l2 : K.lookup f2 = some ⟨oc2, od2, .func (PySem.W.fnOf "middle" "middle" (defArgs s_middle) (defBody s_middle) (defScope s_middle) .none kV2 dc2 pm2 an2 cd2 ct2), sl2⟩) (c2 : PySem.W.codeIn K cd2 "middle" = true) (k2 : PySem.W.keepIn K (.ref f2) = true)
    (a3 : PySem.W.nsIn K mainGlobals "slack_of" = some (some (.ref f3))) (l3 : K.lookup f3 = some ⟨oc3, od3, .func (PySem.W.fnOf "slack_of" "slack_of" (defArgs s_slack_of) (defBody s_slack_of) (defScope s_slack_of) .none kV3 dc3 pm3 an3 cd3 ct3), sl3⟩) (c3 : PySem.W.codeIn K cd3 "slack_of" = true) (k3 : PySem.W.keepIn K (.ref f3) = true)
    (a4 : PySem.W.nsIn K mainGlobals "plain" = some (some (.ref f4))) (l4 : K.lookup f4 = some ⟨oc4, od4, .func (PySem.W.fnOf "plain" "plain" (defArgs s_plain) (defBody s_plain) (defScope s_plain) .none kV4 dc4 pm4 an4 cd4 ct4), sl4⟩) (c4 : PySem.W.codeIn K cd4 "plain" = true) (k4 : PySem.W.keepIn K (.ref f4) = true)
    (a5 : PySem.W.findIn K (.ref oc_Clocks) "__init__" = some (some (.ref f5))) (i5 : PySem.W.isFn K (.ref f5) = true) (l5 : K.lookup f5 = some ⟨oc5, od5, .func (PySem.W.fnOf "__init__" "Clocks.__init__" (defArgs s_Clocks_init) (defBody s_Clocks_init) (defScope s_Clocks_init) .none (.ref DD5) dc5 pm5 an5 cd5 ct5), sl5⟩) (c5 : PySem.W.codeIn K cd5 "Clocks.__init__" = true) (k5 : PySem.W.keepIn K (.ref f5) = true)
    (q5_0 : PySem.W.nsIn K DD5 "err" = some (some (.int 0 tk5_0)))
    (q5_1 : PySem.W.nsIn K DD5 "gain" = some (some (.int 0 tk5_1)))
    (a6 : PySem.W.findIn K (.ref oc_Clocks) "fall" = some (some (.ref f6))) (i6 : PySem.W.isFn K (.ref f6) = true) (l6 : K.lookup f6 = some ⟨oc6, od6, .func (PySem.W.fnOf "fall" "Clocks.fall" (defArgs s_Clocks_fall) (defBody s_Clocks_fall) (defScope s_Clocks_fall) .none kV6 dc6 pm6 an6 cd6 ct6), sl6⟩) (c6 : PySem.W.codeIn K cd6 "Clocks.fall" = true) (k6 : PySem.W.keepIn K (.ref f6) = true)
    (a7 : PySem.W.findIn K (.ref oc_Clocks) "rise" = some (some (.ref f7))) (i7 : PySem.W.isFn K (.ref f7) = true) (l7 : K.lookup f7 = some ⟨oc7, od7, .func (PySem.W.fnOf "rise" "Clocks.rise" (defArgs s_Clocks_rise) (defBody s_Clocks_rise) (defScope s_Clocks_rise) .none kV7 dc7 pm7 an7 cd7 ct7), sl7⟩) (c7 : PySem.W.codeIn K cd7 "Clocks.rise" = true) (k7 : PySem.W.keepIn K (.ref f7) = true)
    (a8 : PySem.W.findIn K (.ref oc_Clocks) "judge_word" = some (some (.ref f8))) (i8 : PySem.W.isFn K (.ref f8) = true) (l8 : K.lookup f8 = some ⟨oc8, od8, .func (PySem.W.fnOf "judge_word" "Clocks.judge_word" (defArgs s_Clocks_judge_word) (defBody s_Clocks_judge_word) (defScope s_Clocks_judge_word) .none kV8 dc8 pm8 an8 cd8 ct8), sl8⟩) (c8 : PySem.W.codeIn K cd8 "Clocks.judge_word" = true) (k8 : PySem.W.keepIn K (.ref f8) = true)
    (a9 : PySem.W.findIn K (.ref oc_Clocks) "judge" = some (some (.ref f9))) (i9 : PySem.W.isFn K (.ref f9) = true) (l9 : K.lookup f9 = some ⟨oc9, od9, .func (PySem.W.fnOf "judge" "Clocks.judge" (defArgs s_Clocks_judge) (defBody s_Clocks_judge) (defScope s_Clocks_judge) .none kV9 dc9 pm9 an9 cd9 ct9), sl9⟩) (c9 : PySem.W.codeIn K cd9 "Clocks.judge" = true) (k9 : PySem.W.keepIn K (.ref f9) = true)
    (a10 : PySem.W.findIn K (.ref oc_Clocks) "turn" = some (some (.ref f10))) (i10 : PySem.W.isFn K (.ref f10) = true) (l10 : K.lookup f10 = some ⟨oc10, od10, .func (PySem.W.fnOf "turn" "Clocks.turn" (defArgs s_Clocks_turn) (defBody s_Clocks_turn) (defScope s_Clocks_turn) .none kV10 dc10 pm10 an10 cd10 ct10), sl10⟩) (c10 : PySem.W.codeIn K cd10 "Clocks.turn" = true) (k10 : PySem.W.keepIn K (.ref f10) = true)
    (a11 : PySem.W.findIn K (.ref oc_Clocks) "told" = some (some (.ref f11))) (i11 : PySem.W.isFn K (.ref f11) = true) (l11 : K.lookup f11 = some ⟨oc11, od11, .func (PySem.W.fnOf "told" "Clocks.told" (defArgs s_Clocks_told) (defBody s_Clocks_told) (defScope s_Clocks_told) .none kV11 dc11 pm11 an11 cd11 ct11), sl11⟩) (c11 : PySem.W.codeIn K cd11 "Clocks.told" = true) (k11 : PySem.W.keepIn K (.ref f11) = true)
    (a12 : PySem.W.findIn K (.ref oc_Clocks) "width" = some (some (.ref f12))) (i12 : PySem.W.isFn K (.ref f12) = true) (l12 : K.lookup f12 = some ⟨oc12, od12, .func (PySem.W.fnOf "width" "Clocks.width" (defArgs s_Clocks_width) (defBody s_Clocks_width) (defScope s_Clocks_width) .none kV12 dc12 pm12 an12 cd12 ct12), sl12⟩) (c12 : PySem.W.codeIn K cd12 "Clocks.width" = true) (k12 : PySem.W.keepIn K (.ref f12) = true)
    (a13 : PySem.W.nsIn K mainGlobals "_law_start" = some (some (.ref f13))) (l13 : K.lookup f13 = some ⟨oc13, od13, .func (PySem.W.fnOf "_law_start" "_law_start" (defArgs s_law_start) (defBody s_law_start) (defScope s_law_start) .none kV13 dc13 pm13 an13 cd13 ct13), sl13⟩) (c13 : PySem.W.codeIn K cd13 "_law_start" = true) (k13 : PySem.W.keepIn K (.ref f13) = true)
    (a14 : PySem.W.nsIn K mainGlobals "_law_draw" = some (some (.ref f14))) (l14 : K.lookup f14 = some ⟨oc14, od14, .func (PySem.W.fnOf "_law_draw" "_law_draw" (defArgs s_law_draw) (defBody s_law_draw) (defScope s_law_draw) .none kV14 dc14 pm14 an14 cd14 ct14), sl14⟩) (c14 : PySem.W.codeIn K cd14 "_law_draw" = true) (k14 : PySem.W.keepIn K (.ref f14) = true)
    (a15 : PySem.W.nsIn K mainGlobals "_law_whole" = some (some (.ref f15))) (l15 : K.lookup f15 = some ⟨oc15, od15, .func (PySem.W.fnOf "_law_whole" "_law_whole" (defArgs s_law_whole) (defBody s_law_whole) (defScope s_law_whole) .none kV15 dc15 pm15 an15 cd15 ct15), sl15⟩) (c15 : PySem.W.codeIn K cd15 "_law_whole" = true) (k15 : PySem.W.keepIn K (.ref f15) = true)
    (a16 : PySem.W.nsIn K mainGlobals "_law_heard" = some (some (.ref f16))) (l16 : K.lookup f16 = some ⟨oc16, od16, .func (PySem.W.fnOf "_law_heard" "_law_heard" (defArgs s_law_heard) (defBody s_law_heard) (defScope s_law_heard) .none kV16 dc16 pm16 an16 cd16 ct16), sl16⟩) (c16 : PySem.W.codeIn K cd16 "_law_heard" = true) (k16 : PySem.W.keepIn K (.ref f16) = true)
    (a17 : PySem.W.nsIn K mainGlobals "_law_middle" = some (some (.ref f17))) (l17 : K.lookup f17 = some ⟨oc17, od17, .func (PySem.W.fnOf "_law_middle" "_law_middle" (defArgs s_law_middle) (defBody s_law_middle) (defScope s_law_middle) .none kV17 dc17 pm17 an17 cd17 ct17), sl17⟩) (c17 : PySem.W.codeIn K cd17 "_law_middle" = true) (k17 : PySem.W.keepIn K (.ref f17) = true)
    (a18 : PySem.W.nsIn K mainGlobals "_law_clocks" = some (some (.ref f18))) (l18 : K.lookup f18 = some ⟨oc18, od18, .func (PySem.W.fnOf "_law_clocks" "_law_clocks" (defArgs s_law_clocks) (defBody s_law_clocks) (defScope s_law_clocks) .none kV18 dc18 pm18 an18 cd18 ct18), sl18⟩) (c18 : PySem.W.codeIn K cd18 "_law_clocks" = true) (k18 : PySem.W.keepIn K (.ref f18) = true)
    (a19 : PySem.W.nsIn K mainGlobals "_law_change" = some (some (.ref f19))) (l19 : K.lookup f19 = some ⟨oc19, od19, .func (PySem.W.fnOf "_law_change" "_law_change" (defArgs s_law_change) (defBody s_law_change) (defScope s_law_change) .none kV19 dc19 pm19 an19 cd19 ct19), sl19⟩) (c19 : PySem.W.codeIn K cd19 "_law_change" = true) (k19 : PySem.W.keepIn K (.ref f19) = true)
    (a20 : PySem.W.nsIn K mainGlobals "_law_turn" = some (some (.ref f20))) (l20 : K.lookup f20 = some ⟨oc20, od20, .func (PySem.W.fnOf "_law_turn" "_law_turn" (defArgs s_law_turn) (defBody s_law_turn) (defScope s_law_turn) .none kV20 dc20 pm20 an20 cd20 ct20), sl20⟩) (c20 : PySem.W.codeIn K cd20 "_law_turn" = true) (k20 : PySem.W.keepIn K (.ref f20) = true)
    (a21 : PySem.W.nsIn K mainGlobals "law" = some (some (.ref f21))) (l21 : K.lookup f21 = some ⟨oc21, od21, .func (PySem.W.fnOf "law" "law" (defArgs s_law) (defBody s_law) (defScope s_law) .none kV21 dc21 pm21 an21 cd21 ct21), sl21⟩) (c21 : PySem.W.codeIn K cd21 "law" = true) (k21 : PySem.W.keepIn K (.ref f21) = true)
    (ac_FALLEN : PySem.W.nsIn K mainGlobals "FALLEN" = some (some (.int 1 tc_FALLEN)))
    (ac_GOOD : PySem.W.nsIn K mainGlobals "GOOD" = some (some (.int 0 tc_GOOD)))
    (ac_LISTENS : PySem.W.nsIn K mainGlobals "LISTENS" = some (some (.int 2 tc_LISTENS)))
    (ac_MOST_CLOCKS : PySem.W.nsIn K mainGlobals "MOST_CLOCKS" = some (some (.int 7 tc_MOST_CLOCKS)))
    (z_abs : PySem.W.nsIn K mainGlobals "abs" = some none)
    (z_all : PySem.W.nsIn K mainGlobals "all" = some none)
    (z_any : PySem.W.nsIn K mainGlobals "any" = some none)
    (z_bool : PySem.W.nsIn K mainGlobals "bool" = some none)
    (z_enumerate : PySem.W.nsIn K mainGlobals "enumerate" = some none)
    (z_int : PySem.W.nsIn K mainGlobals "int" = some none)
    (z_isinstance : PySem.W.nsIn K mainGlobals "isinstance" = some none)
    (z_len : PySem.W.nsIn K mainGlobals "len" = some none)
    (z_list : PySem.W.nsIn K mainGlobals "list" = some none)
    (z_max : PySem.W.nsIn K mainGlobals "max" = some none)
    (z_min : PySem.W.nsIn K mainGlobals "min" = some none)
    (z_range : PySem.W.nsIn K mainGlobals "range" = some none)
    (z_repr : PySem.W.nsIn K mainGlobals "repr" = some none)
    (z_sorted : PySem.W.nsIn K mainGlobals "sorted" = some none)
    (z_zip : PySem.W.nsIn K mainGlobals "zip" = some none)
    (ea_NetError : PySem.W.nsIn K mainGlobals "NetError" = some (some (.ref ec_NetError))) (eb_base : PySem.W.subIn K (.ref ec_NetError) (.type "BaseException") = some true) (eb_dict : PySem.W.hasDictIn K ec_NetError = true) (eb_type : PySem.W.typeIn K (.ref ec_NetError) = some (.type "type")) (eb_get : PySem.W.specialIn K (.builtin "object.__class__") "__get__" = some (some (.builtin "getset_descriptor.__get__"))) (eb_tak : PySem.W.takesIn K (.builtin "object.__class__") = some true)
    (ea_BadNumber : PySem.W.nsIn K mainGlobals "BadNumber" = some (some (.ref ec_BadNumber))) (ee_BadNumber : errB K ec_BadNumber ec_NetError = true)
    (ex_BadNumber : PySem.W.excIn K ec_BadNumber [.type "ValueError", .type "Exception", .type "BaseException", .type "object"] "ValueError.__new__" = true)
    (ea_NoStep : PySem.W.nsIn K mainGlobals "NoStep" = some (some (.ref ec_NoStep))) (ee_NoStep : errB K ec_NoStep ec_NetError = true)
    (ex_NoStep : PySem.W.excIn K ec_NoStep [.type "ValueError", .type "Exception", .type "BaseException", .type "object"] "ValueError.__new__" = true)
    (ea_TooFew : PySem.W.nsIn K mainGlobals "TooFew" = some (some (.ref ec_TooFew))) (ee_TooFew : errB K ec_TooFew ec_NetError = true)
    (ex_TooFew : PySem.W.excIn K ec_TooFew [.type "ValueError", .type "Exception", .type "BaseException", .type "object"] "ValueError.__new__" = true)
    (e_nd : [ec_NetError, ec_BadNumber, ec_NoStep, ec_TooFew].Nodup) :
    ∃ fd : FuncData, (∀ (s : Shared) (v : Value), BindsTo s fd ⟨[v], []⟩ [("_law_script", v)]) ∧ ∀ base : Heap, K.In base → base.Ns mainGlobals mg → FnOkG l.prog w K mg base CX0 7 fa fd ["_law_script"] (spLaw K []) := by
  have e := hfa.symm.trans (PySem.W.mg_of X G a21)
  cases e
  have F0 := fun_mk (st := s_within) l0 c0 k0
  have b0 := F0.binds (ps := ["value", "low", "high"]) fun _ _ _ _ _ _ us hl => match us, hl with | [_, _, _], _ => rfl
  have F1 := fun_mk (st := s_check) l1 c1 k1
  have b1 := F1.binds (ps := ["value", "low", "high"]) fun _ _ _ _ _ _ us hl => match us, hl with | [_, _, _], _ => rfl
  have F2 := fun_mk (st := s_middle) l2 c2 k2
  have b2 := F2.binds (ps := ["numbers"]) fun _ _ _ _ _ _ us hl => match us, hl with | [_], _ => rfl
  have F3 := fun_mk (st := s_slack_of) l3 c3 k3
  have b3 := F3.binds (ps := ["err", "gain"]) fun _ _ _ _ _ _ us hl => match us, hl with | [_, _], _ => rfl
  have F4 := fun_mk (st := s_plain) l4 c4 k4
  have b4 := F4.binds (ps := ["value"]) fun _ _ _ _ _ _ us hl => match us, hl with | [_], _ => rfl
  have F5 := fun_mk (st := s_Clocks_init) l5 c5 k5
  have D5 : FunD K "__init__" "Clocks.__init__" (defArgs s_Clocks_init) (defBody s_Clocks_init) (defScope s_Clocks_init) [] [("err", V.int 0), ("gain", V.int 0)] f5 _ := ⟨⟨_, _, _, _, _, _, _, _, _, _, rfl, l5, c5, .inl ⟨rfl, rfl⟩, .inr ⟨_, rfl, (by intro q h; simp only [List.mem_cons, List.not_mem_nil, or_false] at h; rcases h with rfl | rfl <;> first | exact ⟨_, q5_0, ⟨_, rfl⟩⟩ | exact ⟨_, q5_1, ⟨_, rfl⟩⟩)⟩⟩, k5⟩
  have F6 := fun_mk (st := s_Clocks_fall) l6 c6 k6
  have b6 := F6.binds (ps := ["self", "at"]) fun _ _ _ _ _ _ us hl => match us, hl with | [_, _], _ => rfl
  have F7 := fun_mk (st := s_Clocks_rise) l7 c7 k7
  have b7 := F7.binds (ps := ["self", "at"]) fun _ _ _ _ _ _ us hl => match us, hl with | [_, _], _ => rfl
  have F8 := fun_mk (st := s_Clocks_judge_word) l8 c8 k8
  have b8 := F8.binds (ps := ["self", "word", "at"]) fun _ _ _ _ _ _ us hl => match us, hl with | [_, _, _], _ => rfl
  have F9 := fun_mk (st := s_Clocks_judge) l9 c9 k9
  have b9 := F9.binds (ps := ["self", "heard", "gains"]) fun _ _ _ _ _ _ us hl => match us, hl with | [_, _, _], _ => rfl
  have F10 := fun_mk (st := s_Clocks_turn) l10 c10 k10
  have b10 := F10.binds (ps := ["self", "heard", "gains"]) fun _ _ _ _ _ _ us hl => match us, hl with | [_, _, _], _ => rfl
  have F11 := fun_mk (st := s_Clocks_told) l11 c11 k11
  have b11 := F11.binds (ps := ["self"]) fun _ _ _ _ _ _ us hl => match us, hl with | [_], _ => rfl
  have F12 := fun_mk (st := s_Clocks_width) l12 c12 k12
  have b12 := F12.binds (ps := ["self"]) fun _ _ _ _ _ _ us hl => match us, hl with | [_], _ => rfl
  have F13 := fun_mk (st := s_law_start) l13 c13 k13
  have b13 := F13.binds (ps := ["_law_script"]) fun _ _ _ _ _ _ us hl => match us, hl with | [_], _ => rfl
  have F14 := fun_mk (st := s_law_draw) l14 c14 k14
  have b14 := F14.binds (ps := ["_law_s", "_law_many"]) fun _ _ _ _ _ _ us hl => match us, hl with | [_, _], _ => rfl
  have F15 := fun_mk (st := s_law_whole) l15 c15 k15
  have b15 := F15.binds (ps := ["_law_x"]) fun _ _ _ _ _ _ us hl => match us, hl with | [_], _ => rfl
  have F16 := fun_mk (st := s_law_heard) l16 c16 k16
  have b16 := F16.binds (ps := ["_law_s", "_law_stands", "_law_good", "_law_fault", "_law_hears"]) fun _ _ _ _ _ _ us hl => match us, hl with | [_, _, _, _, _], _ => rfl
  have F17 := fun_mk (st := s_law_middle) l17 c17 k17
  have b17 := F17.binds (ps := ["_law_words"]) fun _ _ _ _ _ _ us hl => match us, hl with | [_], _ => rfl
  have F18 := fun_mk (st := s_law_clocks) l18 c18 k18
  have b18 := F18.binds (ps := ["_law_s"]) fun _ _ _ _ _ _ us hl => match us, hl with | [_], _ => rfl
  have F19 := fun_mk (st := s_law_change) l19 c19 k19
  have b19 := F19.binds (ps := ["_law_s", "_law_clocks_here", "_law_state"]) fun _ _ _ _ _ _ us hl => match us, hl with | [_, _, _], _ => rfl
  have F20 := fun_mk (st := s_law_turn) l20 c20 k20
  have b20 := F20.binds (ps := ["_law_s", "_law_clocks_here", "_law_stands", "_law_state", "_law_fault", "_law_more"]) fun _ _ _ _ _ _ us hl => match us, hl with | [_, _, _, _, _, _], _ => rfl
  have F21 := fun_mk (st := s_law) l21 c21 k21
  have b21 := F21.binds (ps := ["_law_script"]) fun _ _ _ _ _ _ us hl => match us, hl with | [_], _ => rfl
  refine ⟨PySem.W.fnOf "law" "law" (defArgs s_law) (defBody s_law) (defScope s_law) .none kV21 dc21 pm21 an21 cd21 ct21, fun s v => .of_eq rfl, fun base _ _ => ?_⟩
  exact ok_law (T := ({ c_Clocks := oc_Clocks, g_Clocks := PySem.W.mg_of X G oa_Clocks, C_Clocks := ⟨opg_Clocks, ohd_Clocks, opo_Clocks, osa_Clocks⟩, N_Clocks_stands := on_Clocks_stands, N_Clocks_state := on_Clocks_state, N_Clocks_err := on_Clocks_err, N_Clocks_gain := on_Clocks_gain, f_within := f0, fd_within := _, F_within := F0, b_within := b0, g_within := PySem.W.mg_of X G a0, f_check := f1, fd_check := _, F_check := F1, b_check := b1, g_check := PySem.W.mg_of X G a1, f_middle := f2, fd_middle := _, F_middle := F2, b_middle := b2, g_middle := PySem.W.mg_of X G a2, f_slack_of := f3, fd_slack_of := _, F_slack_of := F3, b_slack_of := b3, g_slack_of := PySem.W.mg_of X G a3, f_plain := f4, fd_plain := _, F_plain := F4, b_plain := b4, g_plain := PySem.W.mg_of X G a4, f_Clocks_init := f5, fd_Clocks_init := _, F_Clocks_init := F5, D_Clocks_init := D5, m_Clocks_init := ⟨a5, i5, k5⟩, M_Clocks := ⟨omk_Clocks, a5, i5, okp_Clocks⟩, f_Clocks_fall := f6, fd_Clocks_fall := _, F_Clocks_fall := F6, b_Clocks_fall := b6, m_Clocks_fall := ⟨a6, i6, k6⟩, f_Clocks_rise := f7, fd_Clocks_rise := _, F_Clocks_rise := F7, b_Clocks_rise := b7, m_Clocks_rise := ⟨a7, i7, k7⟩, f_Clocks_judge_word := f8, fd_Clocks_judge_word := _, F_Clocks_judge_word := F8, b_Clocks_judge_word := b8, m_Clocks_judge_word := ⟨a8, i8, k8⟩, f_Clocks_judge := f9, fd_Clocks_judge := _, F_Clocks_judge := F9, b_Clocks_judge := b9, m_Clocks_judge := ⟨a9, i9, k9⟩, f_Clocks_turn := f10, fd_Clocks_turn := _, F_Clocks_turn := F10, b_Clocks_turn := b10, m_Clocks_turn := ⟨a10, i10, k10⟩, f_Clocks_told := f11, fd_Clocks_told := _, F_Clocks_told := F11, b_Clocks_told := b11, m_Clocks_told := ⟨a11, i11, k11⟩, f_Clocks_width := f12, fd_Clocks_width := _, F_Clocks_width := F12, b_Clocks_width := b12, m_Clocks_width := ⟨a12, i12, k12⟩, f_law_start := f13, fd_law_start := _, F_law_start := F13, b_law_start := b13, g_law_start := PySem.W.mg_of X G a13, f_law_draw := f14, fd_law_draw := _, F_law_draw := F14, b_law_draw := b14, g_law_draw := PySem.W.mg_of X G a14, f_law_whole := f15, fd_law_whole := _, F_law_whole := F15, b_law_whole := b15, g_law_whole := PySem.W.mg_of X G a15, f_law_heard := f16, fd_law_heard := _, F_law_heard := F16, b_law_heard := b16, g_law_heard := PySem.W.mg_of X G a16, f_law_middle := f17, fd_law_middle := _, F_law_middle := F17, b_law_middle := b17, g_law_middle := PySem.W.mg_of X G a17, f_law_clocks := f18, fd_law_clocks := _, F_law_clocks := F18, b_law_clocks := b18, g_law_clocks := PySem.W.mg_of X G a18, f_law_change := f19, fd_law_change := _, F_law_change := F19, b_law_change := b19, g_law_change := PySem.W.mg_of X G a19, f_law_turn := f20, fd_law_turn := _, F_law_turn := F20, b_law_turn := b20, g_law_turn := PySem.W.mg_of X G a20, f_law := fa, fd_law := _, F_law := F21, b_law := b21, g_law := PySem.W.mg_of X G a21, t_FALLEN := tc_FALLEN, g_FALLEN := PySem.W.mg_of X G ac_FALLEN, t_GOOD := tc_GOOD, g_GOOD := PySem.W.mg_of X G ac_GOOD, t_LISTENS := tc_LISTENS, g_LISTENS := PySem.W.mg_of X G ac_LISTENS, t_MOST_CLOCKS := tc_MOST_CLOCKS, g_MOST_CLOCKS := PySem.W.mg_of X G ac_MOST_CLOCKS, z_abs := PySem.W.mg_none_of X G z_abs, z_all := PySem.W.mg_none_of X G z_all, z_any := PySem.W.mg_none_of X G z_any, z_bool := PySem.W.mg_none_of X G z_bool, z_enumerate := PySem.W.mg_none_of X G z_enumerate, z_int := PySem.W.mg_none_of X G z_int, z_isinstance := PySem.W.mg_none_of X G z_isinstance, z_len := PySem.W.mg_none_of X G z_len, z_list := PySem.W.mg_none_of X G z_list, z_max := PySem.W.mg_none_of X G z_max, z_min := PySem.W.mg_none_of X G z_min, z_range := PySem.W.mg_none_of X G z_range, z_repr := PySem.W.mg_none_of X G z_repr, z_sorted := PySem.W.mg_none_of X G z_sorted, z_zip := PySem.W.mg_none_of X G z_zip, c_NetError := ec_NetError, g_NetError := PySem.W.mg_of X G ea_NetError, k_base := eb_base, k_dict := eb_dict, k_type := eb_type, k_get := eb_get, k_tak := eb_tak, c_BadNumber := ec_BadNumber, g_BadNumber := PySem.W.mg_of X G ea_BadNumber, e_BadNumber := errC_of ee_BadNumber, x_BadNumber := ex_BadNumber, c_NoStep := ec_NoStep, g_NoStep := PySem.W.mg_of X G ea_NoStep, e_NoStep := errC_of ee_NoStep, x_NoStep := ex_NoStep, c_TooFew := ec_TooFew, g_TooFew := PySem.W.mg_of X G ea_TooFew, e_TooFew := errC_of ee_TooFew, x_TooFew := ex_TooFew, k_nd := e_nd, tb := [] } : Tx K mg base))
end SW
namespace HX
open PySem PySem.W PySem.Calls PyProof.Rows
abbrev R : OpenRow := OpenLaw.row PySem.Challenge.rw_slotwright_k39_whole_clocks_in_slack
abbrev qv : Program := view R.prog [26]
def names0 : List PySem.Str := [("__name__" : PySem.Str), ("NetError" : PySem.Str), ("BadNumber" : PySem.Str), ("NoStep" : PySem.Str), ("TooFew" : PySem.Str), ("within" : PySem.Str), ("check" : PySem.Str), ("MOST_CLOCKS" : PySem.Str), ("GOOD" : PySem.Str), ("FALLEN" : PySem.Str), ("LISTENS" : PySem.Str), ("middle" : PySem.Str)]
def names1 : List PySem.Str := [("slack_of" : PySem.Str), ("plain" : PySem.Str), ("Clocks" : PySem.Str), ("_law_start" : PySem.Str), ("_law_draw" : PySem.Str), ("_law_whole" : PySem.Str), ("_law_heard" : PySem.Str), ("_law_middle" : PySem.Str), ("_law_clocks" : PySem.Str), ("_law_change" : PySem.Str), ("_law_turn" : PySem.Str)]
def names : List PySem.Str := names0 ++ (names1)
end HX
section
open PySem PySem.W PyProof.Rows
local macro_rules | `(tactic| o_head ($f $k $a $e)) => `(tactic| assumption)
set_option maxRecDepth 100000 in
set_option maxHeartbeats 0 in
theorem HX.t0 (h : OpenRow.Holds HX.R) : OpenRow.Holds HX.R := by
  k_head
end
namespace HX
open PySem PySem.W PySem.Calls PyProof.Rows
def pz : PySem.Params := { strHash := fun _ => 0, shareClass := fun _ => 0, mergeTok := id, idOf := fun _ => 0, idOfShared := fun _ _ => 0, followText := fun _ => false, idOfImm := fun _ => 0 }
noncomputable def as : List Addr := (HX.t0.heap_1 pz).map (·.1)
theorem ae (P : PySem.Params) : as = (HX.t0.heap_1 P).map (·.1) := by kernel_rfl
noncomputable abbrev fin (w : World) (os : OsState) : Option SharedT := HandSHeadRun.endF (HandSHeadRun.stepQ (HandSHeadRun.denQ HandSHeadRun.tabQ) R.prog w) 30000 R.prog w os
set_option maxRecDepth 100000 in
set_option maxHeartbeats 0 in
theorem run1 (w : World) (os : OsState) : (fin w os).map (fun s => HandSHeadRun.looksF R.prog (boot_heap w.params) s.abs) = some true := by kernel_rfl
set_option maxRecDepth 100000 in
set_option maxHeartbeats 0 in
theorem run2 (w : World) (os : OsState) : (fin w os).map (fun s => HandSHeadRun.seenQ qv names (importedModules R.prog.main.body) (fun s => xlAt qv [] s && recOk R.toRowW.records s) s.abs) = some (openGood qv names) := by kernel_rfl
set_option maxRecDepth 100000 in
set_option maxHeartbeats 0 in
theorem run3 (w : World) (os : OsState) : (fin w os).map (fun s => List.map (HandSHeadRun.getT s) as) = some ((kHook HX.t0.heap_1 as ae).val w) := by kernel_rfl
theorem run_of {α β γ : Type} {o : Option SharedT} {f : SharedT → α} {g : SharedT → β} {h : SharedT → γ} {a : α} {b : β} {c : γ} (h1 : o.map f = some a) (h2 : o.map g = some b) (h3 : o.map h = some c) : o.map (fun s => (f s, g s, h s)) = some (a, b, c) := by
  cases o with
  | none => cases h1
  | some s =>
    cases h1
    cases h2
    cases h3
    rfl
theorem run (w : World) : HandSHeadRun.RunEq R qv (kHook HX.t0.heap_1 as ae) (fun s => List.map (HandSHeadRun.getT s) as) 30000 names w := fun os => run_of (run1 w os) (run2 w os) (run3 w os)
end HX
open PySem PySem.W PyProof.Rows
set_option maxRecDepth 100000 in
set_option maxHeartbeats 0 in
theorem PySem.Challenge.cw_slotwright_k39_whole_clocks_in_slack_holds : PySem.Challenge.rw_slotwright_k39_whole_clocks_in_slack.Holds := by
  w_on; o_law
  refine HandSHeadRun.head_any (r := HX.R) (q := HX.qv) (H := kHook HX.t0.heap_1 HX.as HX.ae) (ob := fun s => List.map (HandSHeadRun.getT s) HX.as) (M := 30000) (loose := HX.names) (kwd := []) (d := HandSHeadRun.topDef HX.R.prog 26) (fun s => List.map_congr_left fun a _ => HandSHeadRun.getT_eq s a) (by kernel_rfl) (fun s => by kernel_rfl) HX.run (by kernel_rfl) (by kernel_rfl) (by kernel_rfl) (by rfl) (by first | assumption | decide +kernel) (by decide +kernel) ⟨rfl, rfl, rfl, rfl, rfl, by decide +kernel⟩ ?hw ?hc
  (case hw => w_witness2)
  k_fill
  letI : SW.QN := SW.qnc ("-")
  refine SW.walk_G (l := PySem.Challenge.rw_slotwright_k39_whole_clocks_in_slack) (n := 63) (k := 7) (x := "_law_script") (sp := fun w => SW.spLaw _ []) rfl (by decide) rfl ⟨rfl, by decide, by decide⟩ (fun w h Y => PySem.W.kIn_of Y) ?F (fun _ _ a ns hl hb hS => ⟨a, ns, rfl, hS, hl, hb, (fun _ h => nomatch h), fun _ => rfl⟩)
  case F =>
    intro w mg fa h KX G hmg
    letI : SW.QN := SW.qnc ("-")
    refine' SW.all_mk KX G hmg ?oa_Clocks ?opg_Clocks ?ohd_Clocks ?opo_Clocks ?osa_Clocks ?on_Clocks_stands ?on_Clocks_state ?on_Clocks_err ?on_Clocks_gain ?omk_Clocks ?okp_Clocks ?a0 ?l0 ?c0 ?k0 ?a1 ?l1 ?c1 ?k1 ?a2 ?l2 ?c2 ?k2 ?a3 ?l3 ?c3 ?k3 ?a4 ?l4 ?c4 ?k4 ?a5 ?i5 ?l5 ?c5 ?k5 ?q5_0 ?q5_1 ?a6 ?i6 ?l6 ?c6 ?k6 ?a7 ?i7 ?l7 ?c7 ?k7 ?a8 ?i8 ?l8 ?c8 ?k8 ?a9 ?i9 ?l9 ?c9 ?k9 ?a10 ?i10 ?l10 ?c10 ?k10 ?a11 ?i11 ?l11 ?c11 ?k11 ?a12 ?i12 ?l12 ?c12 ?k12 ?a13 ?l13 ?c13 ?k13 ?a14 ?l14 ?c14 ?k14 ?a15 ?l15 ?c15 ?k15 ?a16 ?l16 ?c16 ?k16 ?a17 ?l17 ?c17 ?k17 ?a18 ?l18 ?c18 ?k18 ?a19 ?l19 ?c19 ?k19 ?a20 ?l20 ?c20 ?k20 ?a21 ?l21 ?c21 ?k21 ?ac_FALLEN ?ac_GOOD ?ac_LISTENS ?ac_MOST_CLOCKS ?z_abs ?z_all ?z_any ?z_bool ?z_enumerate ?z_int ?z_isinstance ?z_len ?z_list ?z_max ?z_min ?z_range ?z_repr ?z_sorted ?z_zip ?ea_NetError ?eb_base ?eb_dict ?eb_type ?eb_get ?eb_tak ?ea_BadNumber ?ee_BadNumber ?ex_BadNumber ?ea_NoStep ?ee_NoStep ?ex_NoStep ?ea_TooFew ?ee_TooFew ?ex_TooFew ?e_nd
    (case ea_NetError => k_is)
    (case ea_BadNumber => k_is)
    (case ea_NoStep => k_is)
    (case ea_TooFew => k_is)
    (case oa_Clocks => k_is)
    (case opg_Clocks => k_is)
    (case ohd_Clocks => k_is)
    (case opo_Clocks => k_is)
    (case osa_Clocks => k_is)
    (case on_Clocks_stands => k_is)
    (case on_Clocks_state => k_is)
    (case on_Clocks_err => k_is)
    (case on_Clocks_gain => k_is)
    (case omk_Clocks => k_is)
    (case okp_Clocks => k_is)
    (case a0 => k_is)
    (case l0 => k_is)
    (case c0 => k_is)
    (case k0 => k_is)
    (case a1 => k_is)
    (case l1 => k_is)
    (case c1 => k_is)
    (case k1 => k_is)
    (case a2 => k_is)
    (case l2 => k_is)
    (case c2 => k_is)
    (case k2 => k_is)
    (case a3 => k_is)
    (case l3 => k_is)
    (case c3 => k_is)
    (case k3 => k_is)
    (case a4 => k_is)
    (case l4 => k_is)
    (case c4 => k_is)
    (case k4 => k_is)
    (case a5 => k_is)
    (case i5 => k_is)
    (case l5 => k_is)
    (case c5 => k_is)
    (case k5 => k_is)
    (case q5_0 => k_is)
    (case q5_1 => k_is)
    (case a6 => k_is)
    (case i6 => k_is)
    (case l6 => k_is)
    (case c6 => k_is)
    (case k6 => k_is)
    (case a7 => k_is)
    (case i7 => k_is)
    (case l7 => k_is)
    (case c7 => k_is)
    (case k7 => k_is)
    (case a8 => k_is)
    (case i8 => k_is)
    (case l8 => k_is)
    (case c8 => k_is)
    (case k8 => k_is)
    (case a9 => k_is)
    (case i9 => k_is)
    (case l9 => k_is)
    (case c9 => k_is)
    (case k9 => k_is)
    (case a10 => k_is)
    (case i10 => k_is)
    (case l10 => k_is)
    (case c10 => k_is)
    (case k10 => k_is)
    (case a11 => k_is)
    (case i11 => k_is)
    (case l11 => k_is)
    (case c11 => k_is)
    (case k11 => k_is)
    (case a12 => k_is)
    (case i12 => k_is)
    (case l12 => k_is)
    (case c12 => k_is)
    (case k12 => k_is)
    (case a13 => k_is)
    (case l13 => k_is)
    (case c13 => k_is)
    (case k13 => k_is)
    (case a14 => k_is)
    (case l14 => k_is)
    (case c14 => k_is)
    (case k14 => k_is)
    (case a15 => k_is)
    (case l15 => k_is)
    (case c15 => k_is)
    (case k15 => k_is)
    (case a16 => k_is)
    (case l16 => k_is)
    (case c16 => k_is)
    (case k16 => k_is)
    (case a17 => k_is)
    (case l17 => k_is)
    (case c17 => k_is)
    (case k17 => k_is)
    (case a18 => k_is)
    (case l18 => k_is)
    (case c18 => k_is)
    (case k18 => k_is)
    (case a19 => k_is)
    (case l19 => k_is)
    (case c19 => k_is)
    (case k19 => k_is)
    (case a20 => k_is)
    (case l20 => k_is)
    (case c20 => k_is)
    (case k20 => k_is)
    (case a21 => k_is)
    (case l21 => k_is)
    (case c21 => k_is)
    (case k21 => k_is)
    (case ac_FALLEN => k_is)
    (case ac_GOOD => k_is)
    (case ac_LISTENS => k_is)
    (case ac_MOST_CLOCKS => k_is)
    (case z_abs => k_is)
    (case z_all => k_is)
    (case z_any => k_is)
    (case z_bool => k_is)
    (case z_enumerate => k_is)
    (case z_int => k_is)
    (case z_isinstance => k_is)
    (case z_len => k_is)
    (case z_list => k_is)
    (case z_max => k_is)
    (case z_min => k_is)
    (case z_range => k_is)
    (case z_repr => k_is)
    (case z_sorted => k_is)
    (case z_zip => k_is)
    (case eb_base => k_is)
    (case eb_dict => k_is)
    (case eb_type => k_is)
    (case eb_get => k_is)
    (case eb_tak => k_is)
    (case ee_BadNumber => kernel_rfl)
    (case ex_BadNumber => kernel_rfl)
    (case ee_NoStep => kernel_rfl)
    (case ex_NoStep => kernel_rfl)
    (case ee_TooFew => kernel_rfl)
    (case ex_TooFew => kernel_rfl)
    (case e_nd => decide +kernel)
#print axioms PySem.Challenge.cw_slotwright_k39_whole_clocks_in_slack_holds
