import PyProof.Rows.All
import Wide.All
import OpenK.AllK
import Wide.FinOn
import KE.KStateDown
import Lean
import HandS.ForMost
import HandS.ForExc
import HandS.Steps
import HandS.IsInst
import HandS.Wide
import HandS.WideBits
import HandS.Defaults
import HandS.Flow
import HandS.Style
import HandS.Head0
import HandS.Head1
import HandS.Head2
import HandS.HeadEnd
import HandS.HeadHook1
import HandS.HeadHook2
import PySem.Challenge.RW_thinwood_k03_ones_of_a_block
set_option Elab.async false
set_option linter.all false
set_option maxRecDepth 100000
set_option maxHeartbeats 4000000
set_option Elab.async false
set_option linter.all false
set_option maxRecDepth 100000
set_option maxHeartbeats 4000000
namespace Tw
open PySem PySem.Spec PyProof.Rows L2
/-! ### a def by its global name, and its call -/
/-- the def named x keeps the promise sp -/
structure Okf (P : Program) (w : World) (K : PySem.W.Frag) (mg : Str → Option Value) (base : Heap) (CX : CXT) (k : Nat) (x : Str) (ps : List Str) (sp : Sp) : Prop where
  ex : ∃ fd : FuncData, (∃ (oc : Value) (od : Option Addr) (osl : Array (Option Value)), K.lookup (He.ga K x) = some ⟨oc, od, .func fd, osl⟩) ∧ Binds K fd ps [] ∧ FnOk P w K mg base CX k (He.ga K x) fd ps sp
  kp : PySem.W.keepIn K (.ref (He.ga K x)) = true
  gl : mg x = some (.ref (He.ga K x))
theorem FunD.look {K : PySem.W.Frag} {x qual : Str} {params : Arguments} {body : List Stmt} {scope : Scope} {dvs : List V} {kws : List (Str × V)} {f : Addr} {fd : FuncData} (F : FunD K x qual params body scope dvs kws f fd) :
    ∃ (oc : Value) (od : Option Addr) (osl : Array (Option Value)), K.lookup f = some ⟨oc, od, .func fd, osl⟩ := by
  obtain ⟨oc, od, dV, kV, doc, pm, an, cdv, ct, osl, e, lk, _⟩ := F.ex
  exact ⟨oc, od, osl, lk⟩
section
variable {X : Cx} {CX : CXT} {k j : Nat} {ps : List Str} {sp : Sp} {E : XK} {x : Str} {p pos : Pos} {e : Expr} {es : List Expr} {t : TA}
theorem pe_callF (F : Okf X.prog X.w X.K X.mg X.base CX k x ps sp) (hr : Room j X.A) (hk : k ≤ j) (hg : Gl X x) (hx : Passes CX X E)
    (ha : PA X (e :: es) t) (hdb : (x == ("__debug__" : Str)) = false := by decide) (he : starEach (e :: es) X.env = (false, eval e X.env) :: starEach es X.env := by rfl) (hpl : (backTo pos (starEach es X.env)).any (·.1) = false := by rfl) :
    PE X (.Call (.Name x p) (e :: es) [] pos) (tCall sp [] E t) := by
  obtain ⟨fd, _, hb, ok⟩ := F.ex
  exact pe_call ok (hr.mono hk) hg F.gl F.kp hb .nil hx ha hdb he hpl
theorem pe_callF0 (F : Okf X.prog X.w X.K X.mg X.base CX k x ps sp) (hr : Room j X.A) (hk : k ≤ j) (hg : Gl X x) (hx : Passes CX X E)
    (hdb : (x == ("__debug__" : Str)) = false := by decide) : PE X (.Call (.Name x p) [] [] pos) (tCall sp [] E tNil) := by
  obtain ⟨fd, _, hb, ok⟩ := F.ex
  exact pe_call0 ok (hr.mono hk) hg F.gl F.kp hb .nil hx hdb
theorem Okf.imp {P : Program} {w : World} {K : PySem.W.Frag} {mg : Str → Option Value} {base : Heap} {sp' : Sp} (F : Okf P w K mg base CX k x ps sp)
    (h : ∀ vs H Q E, sp' vs H Q E → sp vs H Q E) : Okf P w K mg base CX k x ps sp' := by
  obtain ⟨⟨fd, lk, hb, ok⟩, kp, gl⟩ := F
  exact ⟨⟨fd, lk, hb, ok.imp h⟩, kp, gl⟩
theorem okf_fn {P : Program} {w : World} {K : PySem.W.Frag} {mg : Str → Option Value} {base : Heap} {params : Arguments} {body : List Stmt} {scope : Scope} {qual y : Str} {fd : FuncData} {dvs : List V} {kws : List (Str × V)} (F : Okf P w K mg base CX k x ps sp)
    (FD : FunD K y qual params body scope dvs kws (He.ga K x) fd) : FnOk P w K mg base CX k (He.ga K x) fd ps sp := by
  obtain ⟨⟨fd', ⟨_, _, _, lk'⟩, hb, ok⟩, kp, gl⟩ := F
  obtain ⟨_, _, _, lk⟩ := FunD.look FD
  rw [lk] at lk'
  injection lk' with e
  injection e with _ _ e
  injection e with e
  subst e
  exact ok
/-- a global int, as a constant -/
theorem pe_gint {i : Int} (h : ∃ t, X.mg x = some (.int i t)) (hg : Gl X x) (hd : (x == ("__debug__" : Str)) = false := by decide) : PE X (.Name x pos) (tC (.int i)) := by
  obtain ⟨t, h⟩ := h
  exact pe_glob hg h ⟨_, rfl⟩ hd
/-- a constant that the text reckons -/
theorem pe_cst {v : Int} {te : TE} (h : PE X e te) (hi : ∀ (σ : L2.St) (H : Hp) (Q : VK), Q (.int v) H → te σ H Q) : PE X e (tC (.int v)) :=
  ⟨fun pins s σ H Q I q => h.run pins s σ H Q I (hi σ H Q q)⟩
/-- e & 1 -/
def rAnd1 : R2 := fun x y H Q => ∃ i : Int, x = .int i ∧ y = .int 1 ∧ Q (.int (i % 2)) H
theorem op_and1 : OpR X (binaryOp .BitAnd) rAnd1 := by
  intro pins s σ H x y v u Q I rx ry h
  obtain ⟨i, rfl, rfl, q⟩ := h
  exact op_andM pins s σ H (.int i) (.int (2 ^ 1 - 1)) v u Q I rx ry ⟨i, 1, rfl, rfl, q⟩
/-- isinstance(x, T), T a built-in type's name -/
def rIsB : List V → Hp → VK → Prop := fun xs H Q => ∃ (x : V) (n : String), xs = [x, .ty n] ∧ ∃ (t : String) (b : Bool), (∀ K : PySem.W.Frag, TyX K H x (.type t)) ∧ kitB t n = some b ∧ Q (.bl b) H
theorem call_isB : CallR X (.builtin "isinstance") rIsB := by
  intro pins s σ H xs us Q I r h
  obtain ⟨x, n, rfl, t, b, ty, e, q⟩ := h
  exact call_isi pins s σ H [x, .ty n] us Q I r ⟨x, .ty n, .type t, .type n, b, rfl, .ty n, ty _, kit_ty e, q⟩
end
/-! ### names of the operators' readings -/
abbrev rPlus : R2 := rI0 fun i j => .int (i + j)
abbrev rMinus : R2 := rI0 fun i j => .int (i - j)
abbrev rTimes : R2 := rI CMul fun i j => .int (i * j)
abbrev rDiv : R2 := rI CDiv fun i j => .int (i / j)
abbrev rDivW : R2 := rI CDivW fun i j => .int (i / j)
abbrev rMod : R2 := rI (fun _ j => 0 < j) fun i j => .int (i % j)
abbrev rPow : R2 := rI CPow fun i j => .int (i ^ j.toNat)
abbrev rShl : R2 := rI CPow fun i j => .int (i * 2 ^ j.toNat)
abbrev rShr : R2 := rI (fun _ j => 0 ≤ j) fun i j => .int (i / 2 ^ j.toNat)
abbrev rBitAnd : R2 := rI0 fun i j => .int (Builtin.bitAnd i j)
abbrev rBitOr : R2 := rI0 fun i j => .int (Builtin.bitOr i j)
abbrev rBitXor : R2 := rI0 fun i j => .int (Builtin.bitXor i j)
abbrev rLt : R2 := rI0 fun i j => .bl (decide (i < j))
abbrev rLe : R2 := rI0 fun i j => .bl (decide (i ≤ j))
abbrev rGtI : R2 := rI0 fun i j => .bl (decide (j < i))
abbrev rGeI : R2 := rI0 fun i j => .bl (decide (j ≤ i))
abbrev rNeg : V → Hp → VK → Prop := rU fun i => .int (-i)
/-! ### steps of a reading -/
section
variable {D : Ends} {σ : L2.St} {H : Hp} {Q : VK} {Qb : Bool → Hp → Prop} {ta tb te : TE} {t u v : TS} {c d : TT} {i : Nat} {x y z : V} {r : R2} {K : PySem.W.Frag}
theorem k_seq (h : t { D with nx := u D } σ H) : tSeq t u D σ H := h
theorem k_next (h : D.nx σ H) : tNext D σ H := h
theorem k_asg (h : te σ H fun x H1 => D.nx (σ.set i (some x)) H1) : tAsg te (gName i) D σ H := h
theorem k_drop (h : te σ H fun _ H1 => D.nx σ H1) : tDrop te D σ H := h
theorem k_ret (h : te σ H D.rt) : tRet te D σ H := h
theorem k_retN (h : D.rt .non H) : tRetN D σ H := h
theorem k_if (h : c σ H fun b H1 => if b = true then t D σ H1 else u D σ H1) : tIfS c t u D σ H := h
theorem k_var (h : σ[i]? = some (some x)) (q : Q x H) : tVar i σ H Q := ⟨x, h, q⟩
theorem k_c (q : Q x H) : tC x σ H Q := q
theorem k_op (h : ta σ H fun x H1 => tb σ H1 fun y H2 => r x y H2 Q) : tOp r ta tb σ H Q := h
theorem k_un {r : V → Hp → VK → Prop} (h : ta σ H fun x H1 => r x H1 Q) : tUn r ta σ H Q := h
theorem k_I0 {g : Int → Int → V} {a b : Int} (q : Q (g a b) H) : rI0 g (.int a) (.int b) H Q := ⟨a, b, rfl, rfl, q⟩
theorem k_I {C : Int → Int → Prop} {g : Int → Int → V} {a b : Int} (hc : C a b) (q : Q (g a b) H) : rI C g (.int a) (.int b) H Q := ⟨a, b, rfl, rfl, hc, q⟩
theorem k_U {g : Int → V} {a : Int} (q : Q (g a) H) : rU g (.int a) H Q := ⟨a, rfl, q⟩
theorem k_and1 {a : Int} (q : Q (.int (a % 2)) H) : rAnd1 (.int a) (.int 1) H Q := ⟨a, rfl, rfl, q⟩
theorem k_eqI {a b : Int} (q : Q (.bl (decide (a = b))) H) : rEq (.int a) (.int b) H Q := ⟨rfl, by
  have e : decide ((V.int a : V) = V.int b) = decide (a = b) := by simp
  rw [e]; exact q⟩
theorem k_neI {a b : Int} (q : Q (.bl (!decide (a = b))) H) : rNe (.int a) (.int b) H Q := ⟨rfl, by
  have e : decide ((V.int a : V) = V.int b) = decide (a = b) := by simp
  rw [e]; exact q⟩
theorem k_eq (hs : scal x y = true) (q : Q (.bl (decide (x = y))) H) : rEq x y H Q := ⟨hs, q⟩
theorem k_ne (hs : scal x y = true) (q : Q (.bl (!decide (x = y))) H) : rNe x y H Q := ⟨hs, q⟩
theorem k_isN (q : Q (.bl (decide (x = .non))) H) : rIsN x .non H Q := ⟨rfl, q⟩
theorem k_notN (q : Q (.bl (!decide (x = .non))) H) : rNotN x .non H Q := ⟨rfl, q⟩
def BlK (Qb : Bool → Hp → Prop) (x : V) (H : Hp) : Prop := ∃ k, x = .bl k ∧ Qb k H
theorem k_test (h : te σ H (BlK Qb)) : tTest te σ H Qb := h
theorem k_tB (h : te σ H (BlK Qb)) : tB te σ H Qb := h
theorem k_bl {b : Bool} (q : Qb b H) : BlK Qb (V.bl b) H := ⟨b, rfl, q⟩
theorem k_and (h : c σ H fun b H1 => if b = true then d σ H1 Qb else Qb false H1) : tAnd c d σ H Qb := h
theorem k_or (h : c σ H fun b H1 => if b = true then Qb true H1 else d σ H1 Qb) : tOr c d σ H Qb := h
theorem k_not (h : c σ H fun b H1 => Qb (!b) H1) : tNot c σ H Qb := h
theorem k_andV (h : ta σ H (BlK fun k H1 => if k = true then tb σ H1 Q else Q (.bl false) H1)) : tAndV ta tb σ H Q := h
theorem k_orV (h : ta σ H (BlK fun k H1 => if k = true then Q (.bl true) H1 else tb σ H1 Q)) : tOrV ta tb σ H Q := h
theorem k_notV (h : ta σ H (BlK fun k H1 => Q (.bl (!k)) H1)) : tNotV ta σ H Q := h
theorem k_ifE (h : c σ H fun b H1 => if b = true then ta σ H1 Q else tb σ H1 Q) : tIf c ta tb σ H Q := h
theorem k_cons {Qv : List V → Hp → Prop} {tr : TA} (h : ta σ H fun x H1 => tr σ H1 fun xs H2 => Qv (x :: xs) H2) : tCons ta tr σ H Qv := h
theorem k_nil {Qv : List V → Hp → Prop} (h : Qv [] H) : tNil σ H Qv := h
theorem k_call {sp : Sp} {dvs : List V} {E : XK} {tr : TA} (h : tr σ H fun vs H1 => sp (vs ++ dvs) H1 Q E) : tCall sp dvs E tr σ H Q := h
theorem k_cb {rc : List V → Hp → VK → Prop} {tr : TA} (h : tr σ H fun vs H1 => rc vs H1 Q) : tCB rc tr σ H Q := h
theorem k_tup {tr : TA} (h : tr σ H fun xs H1 => xs.length ≤ sizeLine ∧ ∀ p, H1 p = none → Q (.ref p) (upd H1 p (.tup xs))) : tTup tr σ H Q := h
theorem k_lst {tr : TA} (h : tr σ H fun xs H1 => xs.length ≤ sizeLine ∧ ∀ p, H1 p = none → Q (.ref p) (upd H1 p (.lst xs))) : tLst tr σ H Q := h
theorem k_aug {ti : TIp} (hx : σ[i]? = some (some x)) (h : te σ H fun y H1 => ti x y H1 fun z H2 => D.nx (σ.set i (some z)) H2) : tAug i te ti D σ H := ⟨x, hx, h⟩
theorem k_ipI {f : Int → Int → Int} {a b : Int} (q : Q (.int (f a b)) H) : ipI f (.int a) (.int b) H Q := ⟨a, b, rfl, rfl, q⟩
theorem k_sl {rs : V → Option Int → Option Int → Hp → VK → Prop} {tl th : TO} (h : te σ H fun x H1 => tl σ H1 fun l H2 => th σ H2 fun u H3 => rs x l u H3 Q) : tSl rs te tl th σ H Q := h
def PartK (Qo : Option Int → Hp → Prop) (x : V) (H : Hp) : Prop := ∃ j, x = .int j ∧ Qo (some j) H
theorem k_part {Qo : Option Int → Hp → Prop} (h : te σ H (PartK Qo)) : tPart te σ H Qo := h
theorem k_partE {Qo : Option Int → Hp → Prop} {a : Int} (h : Qo (some a) H) : PartK Qo (.int a) H := ⟨a, rfl, h⟩
theorem k_noPart {Qo : Option Int → Hp → Prop} (h : Qo none H) : tNoPart σ H Qo := h
theorem k_bm {T : String} {rm : V → List V → Hp → VK → Prop} {tr : TA} (h : te σ H fun x H1 => tyV K T x H1 ∧ tr σ H1 fun xs H2 => rm x xs H2 Q) : tBM K T rm te tr σ H Q := h
theorem k_bm0 {T : String} {rm : V → List V → Hp → VK → Prop} (h : te σ H fun x H1 => tyV K T x H1 ∧ rm x [] H1 Q) : tBM0 K T rm te σ H Q := h
theorem k_app {l : Addr} {xs : List V} (h : H l = some (.lst xs)) (hl : xs.length < 100000) (q : Q .non (upd H l (.lst (xs ++ [y])))) : rAppend (.ref l) [y] H Q := ⟨l, xs, y, rfl, rfl, h, Nat.lt_of_lt_of_le hl (by decide), q⟩
theorem k_tyL {l : Addr} {xs : List V} {A : Prop} (h : SqL K H l xs) (q : A) : tyV K "list" (.ref l) H ∧ A := ⟨.inl ⟨rfl, _, h⟩, q⟩
theorem k_ixL {p : Addr} {xs : List V} {a : Int} (h : SqL K H p xs) (e : atI xs a = some x) (q : Q x H) : rIxL K (.ref p) (.int a) H Q := ⟨p, xs, a, x, rfl, rfl, h, e, q⟩
theorem k_ixT {p : Addr} {xs : List V} {a : Int} (h : SqT K H p xs) (e : atI xs a = some x) (q : Q x H) : rIxT K (.ref p) (.int a) H Q := ⟨p, xs, a, x, rfl, rfl, h, e, q⟩
theorem k_slL {p : Addr} {xs : List V} {lo hi : Option Int} (h : SqL K H p xs) (q : ∀ l, H l = none → Q (.ref l) (upd H l (.lst (cutV xs lo hi)))) : rSlL K (.ref p) lo hi H Q := ⟨p, xs, rfl, h, q⟩
def rLen (K : PySem.W.Frag) : List V → Hp → VK → Prop := fun xs H Q => ∃ p ys, xs = [.ref p] ∧ (SqL K H p ys ∨ SqT K H p ys) ∧ Q (.int ys.length) H
theorem call_lenK {X : Cx} : CallR X (.builtin "len") (rLen X.K) := call_len_seq
theorem k_lenL {p : Addr} {xs : List V} (h : SqL K H p xs) (q : Q (.int (xs.length : Int)) H) : rLen K [.ref p] H Q := ⟨p, xs, rfl, .inl h, q⟩
theorem k_lenT {p : Addr} {xs : List V} (h : SqT K H p xs) (q : Q (.int (xs.length : Int)) H) : rLen K [.ref p] H Q := ⟨p, xs, rfl, .inr h, q⟩
def rMin2 : List V → Hp → VK → Prop := fun xs H Q => ∃ i j, xs = [.int i, .int j] ∧ Q (.int (if j < i then j else i)) H
def rMax2 : List V → Hp → VK → Prop := fun xs H Q => ∃ i j, xs = [.int i, .int j] ∧ Q (.int (if j > i then j else i)) H
theorem call_min2K {X : Cx} (hc : X.calm = true) : CallR X (.builtin "min") rMin2 := call_min2 hc
theorem call_max2K {X : Cx} (hc : X.calm = true) : CallR X (.builtin "max") rMax2 := call_max2 hc
theorem k_min2 {a b : Int} (q : Q (.int (if b < a then b else a)) H) : rMin2 [.int a, .int b] H Q := ⟨a, b, rfl, q⟩
theorem k_max2 {a b : Int} (q : Q (.int (if b > a then b else a)) H) : rMax2 [.int a, .int b] H Q := ⟨a, b, rfl, q⟩
def rListOf (K : PySem.W.Frag) : List V → Hp → VK → Prop := fun xs H Q => ∃ p ys, xs = [.ref p] ∧ (SqL K H p ys ∨ SqT K H p ys) ∧ ∀ l, H l = none → Q (.ref l) (upd H l (.lst ys))
theorem call_listK {X : Cx} : CallR X (.type "list") (rListOf X.K) := call_list_of
theorem k_listL {p : Addr} {xs : List V} (h : SqL K H p xs) (q : ∀ l, H l = none → Q (.ref l) (upd H l (.lst xs))) : rListOf K [.ref p] H Q := ⟨p, xs, rfl, .inl h, q⟩
theorem k_sum {p : Addr} {ns : List Int} (h : SqL K H p (ns.map V.int)) (q : Q (.int ns.sum) H) : rSum K [.ref p] H Q := ⟨p, ns, rfl, h, q⟩
theorem k_isInt {a : Int} (q : Q (.bl true) H) : rIsB [.int a, .ty "int"] H Q := ⟨.int a, "int", rfl, "int", true, fun _ => .base (.int a), by decide +kernel, q⟩
theorem k_isBool {a : Int} (q : Q (.bl false) H) : rIsB [.int a, .ty "bool"] H Q := ⟨.int a, "bool", rfl, "int", false, fun _ => .base (.int a), by decide +kernel, q⟩
theorem k_isIntN (q : Q (.bl false) H) : rIsB [.non, .ty "int"] H Q := ⟨.non, "int", rfl, "NoneType", false, fun _ => .base .non, by decide +kernel, q⟩
theorem k_isList {a : Addr} {xs : List V} (h : H a = some (.lst xs)) (q : Q (.bl true) H) : rIsB [.ref a, .ty "list"] H Q := ⟨.ref a, "list", rfl, "list", true, fun _ => .base (.lst h), by decide +kernel, q⟩
theorem k_isTup {a : Addr} {xs : List V} (h : H a = some (.tup xs)) (q : Q (.bl true) H) : rIsB [.ref a, .ty "tuple"] H Q := ⟨.ref a, "tuple", rfl, "tuple", true, fun _ => .base (.tup h), by decide +kernel, q⟩
/-! ends -/
theorem k_nx {nx : L2.St → Hp → Prop} {rt : VK} {bk ct : L2.St → Hp → Prop} (h : nx σ H) : (Ends.mk nx rt bk ct).nx σ H := h
theorem k_rt {nx : L2.St → Hp → Prop} {rt : VK} {bk ct : L2.St → Hp → Prop} (h : rt x H) : (Ends.mk nx rt bk ct).rt x H := h
/-! ifs -/
theorem k_dec {p A B : Prop} [Decidable p] (h1 : p → A) (h2 : ¬ p → B) : if decide p = true then A else B := by
  by_cases h : p
  · rw [if_pos (decide_eq_true h)]; exact h1 h
  · rw [if_neg (fun z => h (of_decide_eq_true z))]; exact h2 h
theorem k_ndec {p A B : Prop} [Decidable p] (h1 : ¬ p → A) (h2 : p → B) : if (!decide p) = true then A else B := by
  by_cases h : p
  · rw [if_neg (by rw [decide_eq_true h]; decide)]; exact h2 h
  · rw [if_pos (by rw [decide_eq_false h]; decide)]; exact h1 h
theorem k_decT {p A B : Prop} [Decidable p] (h : p) (q : A) : if decide p = true then A else B := k_dec (fun _ => q) (fun z => absurd h z)
theorem k_decF {p A B : Prop} [Decidable p] (h : ¬ p) (q : B) : if decide p = true then A else B := k_dec (fun z => absurd z h) (fun _ => q)
theorem k_ndecT {p A B : Prop} [Decidable p] (h : p) (q : B) : if (!decide p) = true then A else B := k_ndec (fun z => absurd h z) (fun _ => q)
theorem k_ndecF {p A B : Prop} [Decidable p] (h : ¬ p) (q : A) : if (!decide p) = true then A else B := k_ndec (fun _ => q) (fun z => absurd z h)
theorem k_yes (h : Qb true H) : tYes σ H Qb := h
theorem k_T {A B : Prop} (q : A) : if true = true then A else B := iteT q
theorem k_F {A B : Prop} (q : B) : if false = true then A else B := iteF q
theorem k_nT {A B : Prop} (q : B) : if (!true) = true then A else B := iteF q
theorem k_nF {A B : Prop} (q : A) : if (!false) = true then A else B := iteT q
end
/-! ### heaps -/
theorem same_new {H : Hp} {p : Addr} {o : HO} (h : H p = none) : Same H (upd H p o) := fun b x e => by
  rw [upd_ne (ne_of_none e h)]; exact e
/-- an object that H does not know may change -/
theorem Same.mut {H H' : Hp} {p : Addr} {o : HO} (e : Same H H') (h : H p = none) : Same H (upd H' p o) := fun b x hb => by
  rw [upd_ne (ne_of_none hb h)]; exact e b x hb
theorem Same.seqT {K : PySem.W.Frag} {H H' : Hp} {a : Addr} {xs : List V} (e : Same H H') (h : SqT K H a xs) : SqT K H' a xs := by
  rcases h with (h | ⟨o, h⟩) | h
  · exact .inl (.inl (e _ _ h))
  · exact .inl (.inr ⟨o, e _ _ h⟩)
  · exact .inr h
theorem Same.ne {H : Hp} {a p : Addr} {o : HO} (h : H p = none) (e : H a = some o) : a ≠ p := ne_of_none e h
/-! ### items -/
theorem at_nat {α : Type} {xs : List α} {i : Nat} {x : α} (h : xs[i]? = some x) : atI xs (i : Int) = some x := atI_nat h
theorem at_int {α : Type} {xs : List α} {i : Int} {x : α} (h0 : 0 ≤ i) (h : xs[i.toNat]? = some x) : atI xs i = some x := by
  have e : i = ((i.toNat : Nat) : Int) := by omega
  rw [e]; exact atI_nat h
theorem mapint {ns : List Int} {i : Nat} {n : Int} (h : ns[i]? = some n) : (ns.map V.int)[i]? = some (.int n) := by
  rw [List.getElem?_map, h]; rfl
theorem of_mapint {ns : List Int} {i : Nat} {v : V} (h : (ns.map V.int)[i]? = some v) : ∃ n, ns[i]? = some n ∧ v = .int n := by
  rw [List.getElem?_map] at h
  cases e : ns[i]? with
  | none => rw [e] at h; cases h
  | some n => rw [e] at h; exact ⟨n, rfl, (Option.some.inj h).symm⟩
theorem cutTake (xs : List V) (n : Nat) : cutV xs none (some (n : Int)) = xs.take n := by
  unfold cutV
  rw [HT.sIx_none, HT.sIx_nat, List.drop_zero, Nat.sub_zero]
  rcases Nat.le_total n xs.length with h | h
  · rw [Nat.min_eq_left h]
  · rw [Nat.min_eq_right h, List.take_length, List.take_of_length_le h]
/-! ### steps on ends that are written out; loops -/
section
variable {σ : L2.St} {H : Hp} {Q rt : VK} {nx bk ct : L2.St → Hp → Prop} {t u tb : TS} {g : TG} {wi : TI} {c : TT} {i : Nat} {x : V} {K : PySem.W.Frag}
theorem m_seq (h : t (Ends.mk (u (Ends.mk nx rt bk ct)) rt bk ct) σ H) : tSeq t u (Ends.mk nx rt bk ct) σ H := h
theorem m_bk (h : bk σ H) : tBreak (Ends.mk nx rt bk ct) σ H := h
theorem m_ct (h : ct σ H) : tCont (Ends.mk nx rt bk ct) σ H := h
theorem m_next (h : nx σ H) : tNext (Ends.mk nx rt bk ct) σ H := h
theorem m_gName {Qs : L2.St → Hp → Prop} (h : Qs (σ.set i (some x)) H) : gName i x σ H Qs := h
theorem m_call {sp : Sp} {E : XK} {tr : TA} (h : tr σ H fun vs H1 => sp vs H1 Q E) : tCall sp [] E tr σ H Q := by
  have e : (fun (vs : List V) (H1 : Hp) => sp (vs ++ []) H1 Q E) = fun vs H1 => sp vs H1 Q E := by
    funext vs H1; rw [List.append_nil]
  show tr σ H fun vs H1 => sp (vs ++ []) H1 Q E
  rw [e]; exact h
/-- a for loop over what J yields -/
def LoopOk (J : It) (g : TG) (tb : TS) (nx : L2.St → Hp → Prop) (rt : VK) (σ : L2.St) (H : Hp) : Prop :=
  ∃ W : Nat → Nat → L2.St → Hp → Prop, (∃ m, W 0 m σ H) ∧ ∀ i m σ H, W i m σ H →
  (J.stop i H ∧ nx σ H) ∨ (J.go i H ∧ ∃ N : L2.St → Hp → Prop, (∀ σ' H', N σ' H' → ∃ m', m' < m ∧ W (i + 1) m' σ' H') ∧ ∀ x H', J.yld i H x H' → g x σ H' fun σ2 H2 => tb (Ends.mk N rt nx N) σ2 H2)
theorem m_for (h : wi σ H fun J H1 => LoopOk J g tb nx rt σ H1) : tFor wi g tb (Ends.mk nx rt bk ct) σ H := h
def Rng1K (R : It → Hp → Prop) (vs : List V) (H : Hp) : Prop := ∃ j : Int, vs = [.int j] ∧ -(2 ^ 62) ≤ j ∧ j < 2 ^ 62 ∧ R (Itr 0 j.toNat) H
theorem m_rng1 {ta : TA} {R : It → Hp → Prop} (h : ta σ H (Rng1K R)) : iRng1 ta σ H R := h
theorem m_rng1e {R : It → Hp → Prop} {a : Int} (h1 : -(2 ^ 62) ≤ a ∧ a < 2 ^ 62) (h : R (Itr 0 a.toNat) H) : Rng1K R [V.int a] H := ⟨a, rfl, h1.1, h1.2, h⟩
theorem m_rng1n {R : It → Hp → Prop} {a : Nat} (h1 : (a : Int) < 2 ^ 62) (h : R (Itr 0 a) H) : Rng1K R [V.int (a : Int)] H := ⟨a, rfl, by omega, h1, by rw [Int.toNat_natCast]; exact h⟩
def Rng2K (R : It → Hp → Prop) (vs : List V) (H : Hp) : Prop := ∃ i j : Int, vs = [.int i, .int j] ∧ (-(2 ^ 62) ≤ i ∧ i < 2 ^ 62 ∧ -(2 ^ 62) ≤ j ∧ j < 2 ^ 62) ∧ R (Itr i (j - i).toNat) H
theorem m_rng2 {ta : TA} {R : It → Hp → Prop} (h : ta σ H (Rng2K R)) : iRng2 ta σ H R := h
theorem m_rng2e {R : It → Hp → Prop} {a b : Int} (h1 : -(2 ^ 62) ≤ a ∧ a < 2 ^ 62 ∧ -(2 ^ 62) ≤ b ∧ b < 2 ^ 62) (h : R (Itr a (b - a).toNat) H) : Rng2K R [V.int a, V.int b] H := ⟨a, b, rfl, h1, h⟩
def ListK (K : PySem.W.Frag) (R : It → Hp → Prop) (x : V) (H : Hp) : Prop := ∃ a, x = .ref a ∧ (∃ xs, SqL K H a xs) ∧ R (Itl K a) H
theorem m_iL {tl : TE} {R : It → Hp → Prop} (h : tl σ H (ListK K R)) : iList K tl σ H R := h
theorem m_iLe {R : It → Hp → Prop} {a : Addr} {xs : List V} (hx : SqL K H a xs) (h : R (Itl K a) H) : ListK K R (V.ref a) H := ⟨a, rfl, ⟨xs, hx⟩, h⟩
def TupK (K : PySem.W.Frag) (R : It → Hp → Prop) (x : V) (H : Hp) : Prop := ∃ a, x = .ref a ∧ (∃ xs, SqT K H a xs) ∧ R (Itt K a) H
theorem m_iT {tl : TE} {R : It → Hp → Prop} (h : tl σ H (TupK K R)) : iTup K tl σ H R := h
theorem m_iTe {R : It → Hp → Prop} {a : Addr} {xs : List V} (hx : SqT K H a xs) (h : R (Itt K a) H) : TupK K R (V.ref a) H := ⟨a, rfl, ⟨xs, hx⟩, h⟩
theorem loop_range {lo : Int} {n : Nat} (Pv : Nat → L2.St → Hp → Prop) (h0 : Pv 0 σ H)
    (hs : ∀ i σ H, i < n → Pv i σ H → g (.int (lo + i)) σ H fun σ2 H2 => tb (Ends.mk (Pv (i + 1)) rt nx (Pv (i + 1))) σ2 H2) (hd : ∀ σ H, Pv n σ H → nx σ H) : LoopOk (Itr lo n) g tb nx rt σ H :=
  for_range (D := Ends.mk nx rt nx nx) Pv h0 hs hd
theorem loop_range0 {n : Nat} (Pv : Nat → L2.St → Hp → Prop) (h0 : Pv 0 σ H)
    (hs : ∀ (i : Nat) σ H, i < n → Pv i σ H → g (.int (i : Int)) σ H fun σ2 H2 => tb (Ends.mk (Pv (i + 1)) rt nx (Pv (i + 1))) σ2 H2) (hd : ∀ σ H, Pv n σ H → nx σ H) : LoopOk (Itr 0 n) g tb nx rt σ H :=
  loop_range Pv h0 (fun i σ H hi p => by rw [Int.zero_add]; exact hs i σ H hi p) hd
theorem loop_list {a : Addr} {xs : List V} (Pv : Nat → L2.St → Hp → Prop) (h0 : Pv 0 σ H) (hl : ∀ i σ H, i ≤ xs.length → Pv i σ H → SqL K H a xs)
    (hs : ∀ i x σ H, xs[i]? = some x → Pv i σ H → g x σ H fun σ2 H2 => tb (Ends.mk (Pv (i + 1)) rt nx (Pv (i + 1))) σ2 H2) (hd : ∀ σ H, Pv xs.length σ H → nx σ H) : LoopOk (Itl K a) g tb nx rt σ H :=
  for_list (D := Ends.mk nx rt nx nx) Pv h0 hl hs hd
/-- over a list of ints -/
theorem loop_ints {a : Addr} {ns : List Int} (Pv : Nat → L2.St → Hp → Prop) (h0 : Pv 0 σ H) (hl : ∀ i σ H, Pv i σ H → SqL K H a (ns.map V.int))
    (hs : ∀ i n σ H, ns[i]? = some n → Pv i σ H → g (.int n) σ H fun σ2 H2 => tb (Ends.mk (Pv (i + 1)) rt nx (Pv (i + 1))) σ2 H2) (hd : ∀ σ H, Pv ns.length σ H → nx σ H) : LoopOk (Itl K a) g tb nx rt σ H :=
  loop_list (xs := ns.map V.int) Pv h0 (fun i σ H _ p => hl i σ H p) (fun i x σ H hx p => by
    obtain ⟨n, hn, rfl⟩ := of_mapint hx
    exact hs i n σ H hn p) (fun σ H p => hd σ H (by rw [List.length_map] at p; exact p))
theorem loop_tup {a : Addr} {xs : List V} (Pv : Nat → L2.St → Hp → Prop) (h0 : Pv 0 σ H) (hl : ∀ i σ H, i ≤ xs.length → Pv i σ H → SqT K H a xs)
    (hs : ∀ i x σ H, xs[i]? = some x → Pv i σ H → g x σ H fun σ2 H2 => tb (Ends.mk (Pv (i + 1)) rt nx (Pv (i + 1))) σ2 H2) (hd : ∀ σ H, Pv xs.length σ H → nx σ H) : LoopOk (Itt K a) g tb nx rt σ H :=
  for_tup (D := Ends.mk nx rt nx nx) Pv h0 hl hs hd
def WBody (W : Nat → L2.St → Hp → Prop) (m : Nat) (tb : TS) (rt : VK) (nx : L2.St → Hp → Prop) (σ : L2.St) (H : Hp) : Prop :=
  ∃ N : L2.St → Hp → Prop, (∀ σ' H', N σ' H' → ∃ m', m' < m ∧ W m' σ' H') ∧ tb (Ends.mk N rt nx N) σ H
theorem m_wbody {W : Nat → L2.St → Hp → Prop} {m : Nat} (h : tb (Ends.mk (fun σ' H' => ∃ m', m' < m ∧ W m' σ' H') rt nx (fun σ' H' => ∃ m', m' < m ∧ W m' σ' H')) σ H) : WBody W m tb rt nx σ H := ⟨_, fun _ _ h => h, h⟩
theorem loop_while (W : Nat → L2.St → Hp → Prop) (m : Nat) (h0 : W m σ H)
    (hs : ∀ m σ H, W m σ H → c σ H fun b H1 => if b = true then WBody W m tb rt nx σ H1 else nx σ H1) : tWhile c tb (Ends.mk nx rt bk ct) σ H := ⟨W, ⟨m, h0⟩, hs⟩
/-- a comprehension over what J yields -/
def CompOk (J : It) (g : TG) (tt : TT) (te : TE) (vs : List Nat) (σ : L2.St) (H1 : Hp) (Q : VK) : Prop :=
  ∀ D, H1 D = none → ∃ W : Nat → Nat → Hp → Prop, (∃ m, W 0 m (upd H1 D (.lst []))) ∧ ∀ i m H, W i m H →
  (J.stop i H ∧ Q (.ref D) H) ∨ (J.go i H ∧ ∃ Nx : Hp → Prop, (∀ H', Nx H' → ∃ m', m' < m ∧ W (i + 1) m' H') ∧ ∀ x H', J.yld i H x H' → g x (wipe σ vs) H' fun σ2 H2 => wipe σ2 vs = wipe σ vs ∧ tt σ2 H2 fun b H3 =>
    if b = true then te σ2 H3 fun y H4 => ∃ acc, H4 D = some (.lst acc) ∧ acc.length < sizeLine ∧ Nx (upd H4 D (.lst (acc ++ [y]))) else Nx H3)
theorem m_lc {tt : TT} {te : TE} {vs : List Nat} (h : wi σ H fun J H1 => CompOk J g tt te vs σ H1 Q) : tLc wi g tt te vs σ H Q := h
/-- over a range, no test, pure elements f i: the list made -/
theorem comp_rangeV {n : Nat} {te : TE} {j : Nat} {f : Nat → V} (hn : n ≤ 100000)
    (he : ∀ (k : Nat) (H2 : Hp) (Q2 : VK), k < n → Same H H2 → (∀ H3, Same H2 H3 → Q2 (f k) H3) → te ((wipe σ [j]).set j (some (.int (k : Int)))) H2 Q2)
    (q : ∀ p H', H p = none → Same H H' → H' p = some (.lst ((List.range n).map f)) → Q (.ref p) H') (hw : ∀ x, wipe ((wipe σ [j]).set j (some x)) [j] = wipe σ [j] := by intro _; rfl) : CompOk (Itr 0 n) (gName j) tYes te [j] σ H Q := by
  intro Dl hD
  refine lc_range (lo := 0) (n := n) (fun i H' => Same H H' ∧ H' Dl = some (.lst ((List.range i).map f))) ⟨same_new hD, upd_same⟩ (fun i H' hi p => ?_) (fun H' p => q Dl H' hD p.1 p.2)
  obtain ⟨p1, p2⟩ := p
  refine ⟨hw _, ?_⟩
  refine k_yes (iteT ?_)
  rw [Int.zero_add]
  refine he i H' _ hi p1 (fun H3 s3 => ⟨_, s3 _ _ p2, ?_, Same.mut (p1.trans s3) hD, ?_⟩)
  · rw [List.length_map, List.length_range]; exact Nat.lt_of_lt_of_le (Nat.lt_of_lt_of_le hi hn) (by decide)
  · rw [upd_same, List.range_succ, List.map_append]; rfl
/-- over a list, no test, pure elements -/
theorem comp_listV {a : Addr} {xs ys : List V} {te : TE} {j : Nat} (hl : SqL K H a xs) (hn : xs.length ≤ 100000) (hy : ys.length = xs.length)
    (he : ∀ (k : Nat) (x y : V) (H2 : Hp) (Q2 : VK), xs[k]? = some x → ys[k]? = some y → Same H H2 → (∀ H3, Same H2 H3 → Q2 y H3) → te ((wipe σ [j]).set j (some x)) H2 Q2)
    (q : ∀ p H', H p = none → Same H H' → H' p = some (.lst ys) → Q (.ref p) H') (hw : ∀ x, wipe ((wipe σ [j]).set j (some x)) [j] = wipe σ [j] := by intro _; rfl) : CompOk (Itl K a) (gName j) tYes te [j] σ H Q := by
  intro Dl hD
  refine lc_list (xs := xs) (fun i H' => Same H H' ∧ H' Dl = some (.lst (ys.take i))) ⟨same_new hD, upd_same⟩ (fun i H' _ p => p.1.seq hl) (fun i x H' hi p => ?_) (fun H' p => q Dl H' hD p.1 (by rw [p.2, ← hy, List.take_length]))
  obtain ⟨p1, p2⟩ := p
  refine ⟨hw _, ?_⟩
  refine k_yes (iteT ?_)
  have hlt : i < xs.length := (List.getElem?_eq_some_iff.mp hi).1
  obtain ⟨y, ey⟩ : ∃ y, ys[i]? = some y := ⟨ys[i]'(by omega), List.getElem?_eq_getElem (by omega)⟩
  refine he i x y H' _ hi ey p1 (fun H3 s3 => ⟨_, s3 _ _ p2, ?_, Same.mut (p1.trans s3) hD, ?_⟩)
  · rw [List.length_take]; exact Nat.lt_of_le_of_lt (Nat.min_le_right _ _) (Nat.lt_of_lt_of_le (show ys.length < 100001 by omega) (by decide))
  · rw [upd_same, List.take_add_one, ey]; rfl
end
end Tw
open PySem PySem.Spec PyProof.Rows L2 Tw
set_option hygiene false in
local macro_rules | `(tactic| walk_at "s1") => `(tactic| first
  | with_reducible refine m_seq ?_
  | with_reducible refine k_asg ?_
  | ((with_reducible refine' k_var ?kv ?_); case kv => walk_at "look")
  | with_reducible refine k_c ?_
  | with_reducible refine k_op ?_
  | with_reducible refine k_I0 ?_
  | ((with_reducible refine k_I ?kv ?_); case kv => walk_at "cond")
  | with_reducible refine k_and1 ?_
  | with_reducible refine k_eqI ?_
  | with_reducible refine k_neI ?_
  | ((with_reducible refine k_eq ?kv ?_); case kv => exact rfl)
  | ((with_reducible refine k_ne ?kv ?_); case kv => exact rfl)
  | with_reducible refine k_isN ?_
  | with_reducible refine k_notN ?_
  | with_reducible refine k_nx ?_
  | with_reducible refine k_rt ?_
  | with_reducible refine m_next ?_
  | with_reducible refine m_bk ?_
  | with_reducible refine m_ct ?_
  | with_reducible refine k_if ?_
  | with_reducible refine k_test ?_
  | with_reducible refine k_tB ?_
  | with_reducible refine k_bl ?_
  | with_reducible refine k_not ?_
  | with_reducible refine k_and ?_
  | with_reducible refine k_or ?_
  | with_reducible refine k_andV ?_
  | with_reducible refine k_orV ?_
  | with_reducible refine k_notV ?_
  | with_reducible refine k_ifE ?_
  | with_reducible refine k_ret ?_
  | with_reducible refine k_retN ?_
  | with_reducible refine k_drop ?_
  | with_reducible refine k_cons ?_
  | with_reducible refine k_nil ?_
  | with_reducible refine m_call ?_
  | with_reducible refine k_cb ?_
  | with_reducible refine k_tup ?_
  | with_reducible refine k_lst ?_
  | ((with_reducible refine' k_aug ?kv ?_); case kv => exact rfl)
  | with_reducible refine k_ipI ?_
  | with_reducible refine k_un ?_
  | with_reducible refine k_U ?_
  | with_reducible refine k_sl ?_
  | with_reducible refine k_part ?_
  | with_reducible refine k_noPart ?_
  | with_reducible refine k_partE ?_
  | with_reducible refine k_bm ?_
  | with_reducible refine k_bm0 ?_
  | with_reducible refine k_isInt ?_
  | with_reducible refine k_isBool ?_
  | with_reducible refine k_min2 ?_
  | with_reducible refine k_max2 ?_
  | with_reducible refine m_gName ?_
  | with_reducible refine m_for ?_
  | with_reducible refine m_rng1 ?_
  | ((with_reducible refine m_rng1n ?kv ?_); case kv => first | decide | omega)
  | ((with_reducible refine m_rng1e ?kv ?_); case kv => first | decide | omega)
  | with_reducible refine m_rng2 ?_
  | ((with_reducible refine m_rng2e ?kv ?_); case kv => first | decide | omega)
  | with_reducible refine m_iL ?_
  | with_reducible refine m_iT ?_
  | with_reducible refine m_lc ?_
  | with_reducible refine m_wbody ?_
  | with_reducible refine k_yes ?_
  | with_reducible refine k_T ?_
  | with_reducible refine k_F ?_
  | with_reducible refine k_nT ?_
  | with_reducible refine k_nF ?_)
local macro_rules | `(tactic| walk_at "cond") => `(tactic| first | exact ⟨by decide, by decide⟩ | omega | decide | exact ⟨by omega, by omega⟩ | exact ⟨by omega, by omega, by decide⟩ | exact Or.inr (by omega) | exact Or.inr (by decide) | exact Or.inl (by omega) | exact Or.inl (by decide) | assumption)
local macro_rules | `(tactic| walk_at "st") => `(tactic| repeat (walk_at "s1"))
local macro_rules | `(tactic| walk_at "look") => `(tactic| first | exact rfl | (simp only [List.getElem?_set, List.getElem?_cons_zero, List.getElem?_cons_succ]; exact rfl))
local macro_rules | `(tactic| walk_at "if") => `(tactic| first | with_reducible apply k_dec | with_reducible apply k_ndec)
namespace Tw
/-! ### bits of a number -/
/-- the bit k of b -/
def bit (b : Int) (k : Nat) : Int := b / 2 ^ k % 2
theorem bit_cases (b : Int) (k : Nat) : bit b k = 0 ∨ bit b k = 1 := by unfold bit; omega
/-- the ones among the first n bits -/
def onesIn (b : Int) : Nat → Int
  | 0 => 0
  | n + 1 => onesIn b n + bit b n
theorem onesIn_mono1 (b : Int) (n : Nat) : onesIn b n ≤ onesIn b (n + 1) ∧ onesIn b (n + 1) ≤ onesIn b n + 1 := by
  show onesIn b n ≤ onesIn b n + bit b n ∧ onesIn b n + bit b n ≤ _
  have := bit_cases b n; omega
theorem onesIn_mono (b : Int) (n m : Nat) (h : n ≤ m) : onesIn b n ≤ onesIn b m := by
  induction m with
  | zero => have : n = 0 := by omega
            subst this; exact Int.le_refl _
  | succ m ih =>
    rcases Nat.lt_or_ge m n with q | q
    · have : n = m + 1 := by omega
      subst this; exact Int.le_refl _
    · have := ih q; have := onesIn_mono1 b m; omega
theorem onesIn_range (b : Int) (n : Nat) : 0 ≤ onesIn b n ∧ onesIn b n ≤ n := by
  induction n with
  | zero => exact ⟨Int.le_refl _, Int.le_refl _⟩
  | succ n ih => have := onesIn_mono1 b n; omega
theorem sum_range_succ (f : Nat → Int) (n : Nat) : ((List.range (n + 1)).map f).sum = ((List.range n).map f).sum + f n := by
  rw [List.range_succ, List.map_append, List.sum_append]; simp
theorem onesIn_sum (b : Int) (n : Nat) : ((List.range n).map fun k => bit b k).sum = onesIn b n := by
  induction n with
  | zero => rfl
  | succ n ih => rw [sum_range_succ, ih]; rfl
theorem halve (b : Int) (k : Nat) : b / 2 ^ k / 2 = b / 2 ^ (k + 1) := by
  rw [Int.pow_succ, Int.ediv_ediv_of_nonneg]
  exact Int.le_of_lt (Int.pow_pos (by decide))

/-! ### promises -/
/-- ones_in(b, u) -/
def sp_ones_in (_ : PySem.W.Frag) : Sp := fun vs H Q _ => ∃ (b : Int) (u : Nat), vs = [.int b, .int (u : Int)] ∧ u ≤ 1000 ∧ ∀ H', Same H H' → Q (.int (onesIn b u)) H'
theorem len_ones_in (K : PySem.W.Frag) : ∀ vs H Q E, sp_ones_in K vs H Q E → vs.length = 2 := by
  rintro vs H Q E ⟨b, u, rfl, _⟩; rfl
def t_ones_in (K : PySem.W.Frag) : TS :=
  (tRet (tCB (rSum K) (tCons (tLc (iRng1 (tCons (tVar 1) tNil)) (gName 2) tYes (tOp rAnd1 (tOp rShr (tVar 0) (tVar 2)) (tC (.int 1))) [2]) tNil)))
abbrev n_ones_in : List Str := ["block", "upto", "k"]

theorem rd_ones_in (K : PySem.W.Frag) (vs : List V) (H : Hp) (Q : VK) (E : XK) (h : sp_ones_in K vs H Q E) : t_ones_in K { nx := fun _ H' => Q .non H', rt := Q } (start n_ones_in vs) H := by
  obtain ⟨b, u, rfl, hu, q⟩ := h
  unfold t_ones_in
  walk_at "st"
  refine comp_rangeV (n := u) (f := fun k => .int (bit b k)) (by omega) (fun k H2 Q2 _ _ q2 => ?_) (fun p H' _ s e => ?_)
  · walk_at "st"
    exact q2 _ (Same.refl _)
  · walk_at "st"
    refine k_sum (ns := (List.range u).map fun k => bit b k) (.of ?_) ?_
    · rw [e, List.map_map]; rfl
    · rw [onesIn_sum]; walk_at "st"; exact q _ s

/-- one_in(b, n) -/
def sp_one_in (_ : PySem.W.Frag) : Sp := fun vs H Q _ => ∃ (b n : Int), vs = [.int b, .int n] ∧ 0 ≤ n ∧ (∀ k : Nat, k < 32 → bit b k = 1 → onesIn b k = n → Q (.int (k : Int)) H) ∧ (onesIn b 32 ≤ n → Q .non H)
theorem len_one_in (K : PySem.W.Frag) : ∀ vs H Q E, sp_one_in K vs H Q E → vs.length = 2 := by
  rintro vs H Q E ⟨b, u, rfl, _⟩; rfl
def t_one_in (K : PySem.W.Frag) : TS :=
  (tSeq (tFor (iRng1 (tCons (tC (.int 32)) tNil)) (gName 2)
  (tIfS (tTest (tOp rEq (tOp rAnd1 (tOp rShr (tVar 0) (tVar 2)) (tC (.int 1))) (tC (.int 1))))
  (tSeq (tIfS (tTest (tOp rEq (tVar 1) (tC (.int 0))))
  (tRet (tVar 2))
  tNext)
  (tAug 1 (tC (.int 1)) (ipI fun i j => i - j)))
  tNext))
  (tRet (tC .non)))
abbrev n_one_in : List Str := ["block", "nth", "k"]

theorem rd_one_in (K : PySem.W.Frag) (vs : List V) (H : Hp) (Q : VK) (E : XK) (h : sp_one_in K vs H Q E) : t_one_in K { nx := fun _ H' => Q .non H', rt := Q } (start n_one_in vs) H := by
  obtain ⟨b, n, rfl, hn, q1, q2⟩ := h
  unfold t_one_in
  walk_at "st"
  refine loop_range0 (fun i σ H' => ∃ y, σ = [some (.int b), some (.int (n - onesIn b i)), y] ∧ H' = H ∧ onesIn b i ≤ n) ⟨none, ?_, rfl, hn⟩ ?_ ?_
  · show _ = [some (V.int b), some (V.int (n - 0)), none]; rw [Int.sub_zero]; rfl
  · rintro i σ H' hi ⟨y, rfl, rfl, hle⟩
    walk_at "st"
    walk_at "if" <;> intro c
    · have c : bit b i = 1 := c
      walk_at "st"
      walk_at "if" <;> intro d
      · walk_at "st"
        exact q1 i hi c (by omega)
      · walk_at "st"
        refine ⟨some (.int (i : Int)), ?_, rfl, ?_⟩
        · have e : n - onesIn b i - 1 = n - onesIn b (i + 1) := by show _ = n - (onesIn b i + bit b i); omega
          rw [e]; rfl
        · show onesIn b i + bit b i ≤ n; omega
    · have c : bit b i ≠ 1 := c
      have c0 : bit b i = 0 := by have := bit_cases b i; omega
      walk_at "st"
      refine ⟨some (.int (i : Int)), ?_, rfl, ?_⟩
      · have e : n - onesIn b i = n - onesIn b (i + 1) := by show _ = n - (onesIn b i + bit b i); omega
        rw [← e]; rfl
      · show onesIn b i + bit b i ≤ n; omega
  · rintro σ H' ⟨y, rfl, rfl, hle⟩
    walk_at "st"
    exact q2 hle

/-- _law_whole(x) -/
def sp_law_whole (_ : PySem.W.Frag) : Sp := fun vs H Q _ => ∃ x : V, vs = [x] ∧ ((∃ n : Int, x = .int n ∧ Q (.bl true) H) ∨ (x = .non ∧ Q (.bl false) H))
theorem whole_int {K : PySem.W.Frag} {H : Hp} {Q : VK} {E : XK} {n : Int} (q : Q (.bl true) H) : sp_law_whole K [.int n] H Q E := ⟨_, rfl, .inl ⟨n, rfl, q⟩⟩
theorem whole_non {K : PySem.W.Frag} {H : Hp} {Q : VK} {E : XK} (q : Q (.bl false) H) : sp_law_whole K [.non] H Q E := ⟨_, rfl, .inr ⟨rfl, q⟩⟩
theorem len_law_whole (K : PySem.W.Frag) : ∀ vs H Q E, sp_law_whole K vs H Q E → vs.length = 1 := by
  rintro vs H Q E ⟨x, rfl, _⟩; rfl
def t_law_whole (K : PySem.W.Frag) : TS :=
  (tRet (tAndV (tCB rIsB (tCons (tVar 0) (tCons (tC (.ty "int")) tNil))) (tNotV (tCB rIsB (tCons (tVar 0) (tCons (tC (.ty "bool")) tNil))))))
abbrev n_law_whole : List Str := ["_law_found"]

theorem rd_law_whole (K : PySem.W.Frag) (vs : List V) (H : Hp) (Q : VK) (E : XK) (h : sp_law_whole K vs H Q E) : t_law_whole K { nx := fun _ H' => Q .non H', rt := Q } (start n_law_whole vs) H := by
  obtain ⟨x, rfl, (⟨n, rfl, q⟩ | ⟨rfl, q⟩)⟩ := h
  · unfold t_law_whole
    walk_at "st"
    exact q
  · unfold t_law_whole
    walk_at "st"
    refine k_isIntN ?_
    walk_at "st"
    exact q

/-- _law_block(c): some block -/
def sp_law_block (_ : PySem.W.Frag) : Sp := fun vs H Q _ => ∃ c : Int, vs = [.int c] ∧ ∀ (b : Int) (H' : Hp), Same H H' → 0 ≤ b → b < 4294967296 → Q (.int b) H'
theorem len_law_block (K : PySem.W.Frag) : ∀ vs H Q E, sp_law_block K vs H Q E → vs.length = 1 := by
  rintro vs H Q E ⟨x, rfl, _⟩; rfl
def t_law_block (K : PySem.W.Frag) : TS :=
  (tSeq (tAsg (tOp rMod (tVar 0) (tC (.int 4294967296))) (gName 1))
  (tSeq (tAsg (tOp rMod (tOp rDiv (tVar 1) (tC (.int 5))) (tC (.int 24))) (gName 2))
  (tSeq (tIfS (tTest (tOp rEq (tVar 2) (tC (.int 1))))
  (tRet (tC (.int 0)))
  tNext)
  (tSeq (tIfS (tTest (tOp rEq (tVar 2) (tC (.int 2))))
  (tRet (tC (.int 4294967295)))
  tNext)
  (tSeq (tIfS (tTest (tOp rEq (tVar 2) (tC (.int 3))))
  (tRet (tOp (rIxL K) (tLst (tCons (tC (.int 1)) (tCons (tC (.int 2)) (tCons (tC (.int 32768)) (tCons (tC (.int 65536)) (tCons (tC (.int 1073741824)) (tCons (tC (.int 2147483648)) tNil))))))) (tOp rMod (tOp rDiv (tVar 1) (tC (.int 120))) (tC (.int 6)))))
  tNext)
  (tRet (tVar 1)))))))
abbrev n_law_block : List Str := ["_law_cell", "_law_block_here", "_law_way"]

theorem rd_law_block (K : PySem.W.Frag) (vs : List V) (H : Hp) (Q : VK) (E : XK) (h : sp_law_block K vs H Q E) : t_law_block K { nx := fun _ H' => Q .non H', rt := Q } (start n_law_block vs) H := by
  obtain ⟨c, rfl, q⟩ := h
  unfold t_law_block
  walk_at "st"
  have hb : 0 ≤ c % 4294967296 ∧ c % 4294967296 < 4294967296 := by omega
  generalize c % 4294967296 = b at hb ⊢
  walk_at "if" <;> intro h1
  · walk_at "st"; exact q _ _ (Same.refl _) (by decide) (by decide)
  · walk_at "st"
    walk_at "if" <;> intro h2
    · walk_at "st"; exact q _ _ (Same.refl _) (by decide) (by decide)
    · walk_at "st"
      walk_at "if" <;> intro h3
      · walk_at "st"
        refine ⟨by decide, fun p hp => ?_⟩
        walk_at "st"
        have hk : ∀ k : Nat, k < 6 → ∃ m : Int, ([V.int 1, V.int 2, V.int 32768, V.int 65536, V.int 1073741824, V.int 2147483648] : List V)[k]? = some (.int m) ∧ 0 ≤ m ∧ m < 4294967296 := by
          intro k hk
          match k, hk with
          | 0, _ => exact ⟨_, rfl, by decide, by decide⟩
          | 1, _ => exact ⟨_, rfl, by decide, by decide⟩
          | 2, _ => exact ⟨_, rfl, by decide, by decide⟩
          | 3, _ => exact ⟨_, rfl, by decide, by decide⟩
          | 4, _ => exact ⟨_, rfl, by decide, by decide⟩
          | 5, _ => exact ⟨_, rfl, by decide, by decide⟩
        obtain ⟨m, e, m0, m1⟩ := hk (b / 120 % 6).toNat (by omega)
        refine k_ixL (.of upd_same) (at_int (by omega) e) ?_
        walk_at "st"
        exact q _ _ (same_new hp) m0 m1
      · walk_at "st"; exact q _ _ (Same.refl _) hb.1 hb.2
/-- _law_holds(b, far) -/
def sp_law_holds (_ : PySem.W.Frag) : Sp := fun vs H Q _ => ∃ b f : Int, vs = [.int b, .int f] ∧ 0 ≤ b ∧ b < 4294967296 ∧ 32 ≤ f ∧ ∀ H' : Hp, Same H H' → Q (.bl true) H'
theorem len_law_holds (K : PySem.W.Frag) : ∀ vs H Q E, sp_law_holds K vs H Q E → vs.length = 2 := by
  rintro vs H Q E ⟨x, y, rfl, _⟩; rfl
def t_law_holds (K : PySem.W.Frag) : TS :=
  (tSeq (tAsg (tVar 0) (gName 2))
  (tSeq (tAsg (tC (.int 0)) (gName 3))
  (tSeq (tFor (iRng1 (tCons (tC (.int 32)) tNil)) (gName 4)
  (tSeq (tAsg (tCall (sp_ones_in K) [] E0 (tCons (tVar 0) (tCons (tVar 4) tNil))) (gName 5))
  (tSeq (tIfS (tOr (tNot (tB (tCall (sp_law_whole K) [] E0 (tCons (tVar 5) tNil)))) (tTest (tOp rNe (tVar 5) (tVar 3))))
  (tRet (tC (.bl false)))
  tNext)
  (tSeq (tIfS (tTest (tOp rEq (tOp rMod (tVar 2) (tC (.int 2))) (tC (.int 1))))
  (tSeq (tAsg (tCall (sp_one_in K) [] E0 (tCons (tVar 0) (tCons (tVar 3) tNil))) (gName 5))
  (tSeq (tIfS (tOr (tNot (tB (tCall (sp_law_whole K) [] E0 (tCons (tVar 5) tNil)))) (tTest (tOp rNe (tVar 5) (tVar 4))))
  (tRet (tC (.bl false)))
  tNext)
  (tAsg (tOp rPlus (tVar 3) (tC (.int 1))) (gName 3))))
  tNext)
  (tAsg (tOp rDiv (tVar 2) (tC (.int 2))) (gName 2))))))
  (tSeq (tIfS (tTest (tOp rNe (tCall (sp_ones_in K) [] E0 (tCons (tVar 0) (tCons (tC (.int 32)) tNil))) (tVar 3)))
  (tRet (tC (.bl false)))
  tNext)
  (tRet (tAndV (tOp rIsN (tCall (sp_one_in K) [] E0 (tCons (tVar 0) (tCons (tVar 3) tNil))) (tC .non)) (tOp rIsN (tCall (sp_one_in K) [] E0 (tCons (tVar 0) (tCons (tVar 1) tNil))) (tC .non))))))))
abbrev n_law_holds : List Str := ["_law_block_here", "_law_far", "_law_rest", "_law_count", "_law_k", "_law_found"]

theorem rd_law_holds (K : PySem.W.Frag) (vs : List V) (H : Hp) (Q : VK) (E : XK) (h : sp_law_holds K vs H Q E) : t_law_holds K { nx := fun _ H' => Q .non H', rt := Q } (start n_law_holds vs) H := by
  obtain ⟨b, f, rfl, h0, h1, hf, q⟩ := h
  unfold t_law_holds
  walk_at "st"
  refine loop_range0 (fun i σ H' => ∃ y z, σ = [some (.int b), some (.int f), some (.int (b / 2 ^ i)), some (.int (onesIn b i)), y, z] ∧ Same H H') ⟨none, none, ?_, Same.refl _⟩ ?_ ?_
  · rw [show b / 2 ^ 0 = b by simp]; rfl
  · rintro i σ H' hi ⟨y, z, rfl, s⟩
    have hi : i < 32 := hi
    walk_at "st"
    refine ⟨b, i, rfl, by omega, fun H1 s1 => ?_⟩
    walk_at "st"
    refine whole_int ?_
    walk_at "st"
    refine k_ndecT rfl ?_
    walk_at "st"
    walk_at "if" <;> intro c
    · have c : bit b i = 1 := c
      walk_at "st"
      refine ⟨b, onesIn b i, rfl, (onesIn_range b i).1, fun k hk ck ek => ?_, fun hk => ?_⟩
      · have e : k = i := by
          rcases Nat.lt_trichotomy k i with l | l | l
          · have := onesIn_mono b (k + 1) i l
            have e : onesIn b (k + 1) = onesIn b k + bit b k := rfl
            omega
          · exact l
          · have := onesIn_mono b (i + 1) k l
            have e : onesIn b (i + 1) = onesIn b i + bit b i := rfl
            omega
        subst e
        walk_at "st"
        refine whole_int ?_
        walk_at "st"
        refine k_ndecT rfl ?_
        walk_at "st"
        refine ⟨some (.int (k : Int)), some (.int (k : Int)), ?_, s.trans s1⟩
        rw [halve]
        have e : onesIn b (k + 1) = onesIn b k + 1 := by show onesIn b k + bit b k = _; rw [c]
        rw [e]; rfl
      · exfalso
        have := onesIn_mono b (i + 1) 32 (by omega)
        have e : onesIn b (i + 1) = onesIn b i + bit b i := rfl
        omega
    · have c : bit b i ≠ 1 := c
      have c0 : bit b i = 0 := by have := bit_cases b i; omega
      walk_at "st"
      refine ⟨some (.int (i : Int)), some (.int (onesIn b i)), ?_, s.trans s1⟩
      rw [halve]
      have e : onesIn b (i + 1) = onesIn b i := by show onesIn b i + bit b i = _; rw [c0]; omega
      rw [e]; rfl
  · rintro σ H' ⟨y, z, rfl, s⟩
    walk_at "st"
    refine ⟨b, 32, rfl, by omega, fun H1 s1 => ?_⟩
    walk_at "st"
    refine k_ndecT rfl ?_
    walk_at "st"
    refine ⟨b, _, rfl, (onesIn_range b 32).1, fun k hk ck ek => ?_, fun hk => ?_⟩
    · exfalso
      have ek : onesIn b k = onesIn b 32 := ek
      have := onesIn_mono b (k + 1) 32 (by omega)
      have e : onesIn b (k + 1) = onesIn b k + bit b k := rfl
      omega
    · walk_at "st"
      refine k_decT rfl ?_
      walk_at "st"
      refine ⟨b, f, rfl, by omega, fun k hk ck ek => ?_, fun hk => ?_⟩
      · exfalso
        have := onesIn_range b k
        omega
      · walk_at "st"
        exact q _ (s.trans s1)
/-- law(script) -/
def sp_law (K : PySem.W.Frag) : Sp := fun vs H Q _ => ∃ (a : Addr) (ns : List Int), vs = [.ref a] ∧ SqL K H a (ns.map V.int) ∧ ns.length ≤ 63 ∧ ∀ H', Q (.bl true) H'
theorem len_law (K : PySem.W.Frag) : ∀ vs H Q E, sp_law K vs H Q E → vs.length = 1 := by
  rintro vs H Q E ⟨x, y, rfl, _⟩; rfl

def t_law (K : PySem.W.Frag) : TS :=
  (tSeq (tIfS (tTest (tOp rEq (tCB (rLen K) (tCons (tVar 0) tNil)) (tC (.int 0))))
  (tRet (tCall (sp_law_holds K) [] E0 (tCons (tC (.int 0)) (tCons (tC (.int 32)) tNil))))
  tNext)
  (tSeq (tFor (iList K (tSl (rSlL K) (tVar 0) tNoPart (tPart (tC (.int 12))))) (gName 1)
  (tIfS (tNot (tB (tCall (sp_law_holds K) [] E0 (tCons (tCall (sp_law_block K) [] E0 (tCons (tVar 1) tNil)) (tCons (tOp rPlus (tC (.int 32)) (tOp rMod (tOp rTimes (tVar 1) (tC (.int 69621))) (tC (.int 1000000000000000000000000000000000000000000000000000000000000)))) tNil)))))
  (tRet (tC (.bl false)))
  tNext))
  (tRet (tC (.bl true)))))
abbrev n_law : List Str := ["_law_script", "_law_cell"]

theorem rd_law (K : PySem.W.Frag) (vs : List V) (H : Hp) (Q : VK) (E : XK) (h : sp_law K vs H Q E) : t_law K { nx := fun _ H' => Q .non H', rt := Q } (start n_law vs) H := by
  obtain ⟨a, ns, rfl, hS, hl, q⟩ := h
  unfold t_law
  walk_at "st"
  refine k_lenL hS ?_
  walk_at "st"
  walk_at "if" <;> intro c
  · walk_at "st"
    exact ⟨0, 32, rfl, by decide, by decide, by decide, fun H' _ => q H'⟩
  · walk_at "st"
    refine k_slL hS fun p hp => ?_
    rw [show ((12 : Int)) = ((12 : Nat) : Int) from rfl, cutTake, ← List.map_take]
    have s0 := same_new (o := .lst ((ns.take 12).map V.int)) hp
    refine m_iLe (.of upd_same) ?_
    refine loop_ints (ns := ns.take 12) (fun i σ H' => ∃ y, σ = [some (.ref a), y] ∧ Same (upd H p (.lst ((ns.take 12).map V.int))) H') ⟨none, rfl, Same.refl _⟩ (fun i σ H' ⟨y, _, s⟩ => .of (s _ _ upd_same)) ?_ ?_
    · rintro i n σ H' hn ⟨y, rfl, s⟩
      walk_at "st"
      refine ⟨n, rfl, fun b H1 s1 b0 b1 => ?_⟩
      walk_at "st"
      have hm : 0 ≤ n * 69621 % 10 ^ 60 := Int.emod_nonneg _ (by decide)
      refine ⟨b, _, rfl, b0, b1, ?_, fun H2 s2 => ?_⟩
      · show 32 ≤ 32 + n * 69621 % 10 ^ 60; omega
      · walk_at "st"
        exact ⟨_, rfl, s.trans (s1.trans s2)⟩
    · rintro σ H' ⟨y, rfl, s⟩
      walk_at "st"
      exact q _

end Tw
namespace Tw
open PySem PySem.Spec PyProof.Rows L2
/-! the text -/
def topS (i : Nat) : Stmt := PySem.Challenge.pw_thinwood_k03_ones_of_a_block.main.body.getD i (.Pass ⟨0, 0, 0, 0⟩)
abbrev s_ones_in : Stmt := topS 2
theorem sc_ones_in : FnScope n_ones_in ["block", "upto"] (defScope s_ones_in) := ⟨rfl, rfl, rfl, by decide +kernel, rfl, by decide +kernel, by decide +kernel⟩

abbrev s_one_in : Stmt := topS 3
theorem sc_one_in : FnScope n_one_in ["block", "nth"] (defScope s_one_in) := ⟨rfl, rfl, rfl, by decide +kernel, rfl, by decide +kernel, by decide +kernel⟩

abbrev s_law_whole : Stmt := topS 5
theorem sc_law_whole : FnScope n_law_whole ["_law_found"] (defScope s_law_whole) := ⟨rfl, rfl, rfl, by decide +kernel, rfl, by decide +kernel, by decide +kernel⟩

abbrev s_law_block : Stmt := topS 6
theorem sc_law_block : FnScope n_law_block ["_law_cell"] (defScope s_law_block) := ⟨rfl, rfl, rfl, by decide +kernel, rfl, by decide +kernel, by decide +kernel⟩

abbrev s_law_holds : Stmt := topS 7
theorem sc_law_holds : FnScope n_law_holds ["_law_block_here", "_law_far"] (defScope s_law_holds) := ⟨rfl, rfl, rfl, by decide +kernel, rfl, by decide +kernel, by decide +kernel⟩

abbrev s_law : Stmt := topS 8
theorem sc_law : FnScope n_law ["_law_script"] (defScope s_law) := ⟨rfl, rfl, rfl, by decide +kernel, rfl, by decide +kernel, by decide +kernel⟩

structure Tx (P : Program) (w : World) (K : PySem.W.Frag) (mg : Str → Option Value) (base : Heap) : Prop where
  d_ones_in : ∃ fd, FunD K "ones_in" "ones_in" (defArgs s_ones_in) (defBody s_ones_in) (defScope s_ones_in) [] [] (He.ga K "ones_in") fd
  g_ones_in : mg "ones_in" = some (.ref (He.ga K "ones_in"))
  d_one_in : ∃ fd, FunD K "one_in" "one_in" (defArgs s_one_in) (defBody s_one_in) (defScope s_one_in) [] [] (He.ga K "one_in") fd
  g_one_in : mg "one_in" = some (.ref (He.ga K "one_in"))
  d_law_whole : ∃ fd, FunD K "_law_whole" "_law_whole" (defArgs s_law_whole) (defBody s_law_whole) (defScope s_law_whole) [] [] (He.ga K "_law_whole") fd
  g_law_whole : mg "_law_whole" = some (.ref (He.ga K "_law_whole"))
  d_law_block : ∃ fd, FunD K "_law_block" "_law_block" (defArgs s_law_block) (defBody s_law_block) (defScope s_law_block) [] [] (He.ga K "_law_block") fd
  g_law_block : mg "_law_block" = some (.ref (He.ga K "_law_block"))
  d_law_holds : ∃ fd, FunD K "_law_holds" "_law_holds" (defArgs s_law_holds) (defBody s_law_holds) (defScope s_law_holds) [] [] (He.ga K "_law_holds") fd
  g_law_holds : mg "_law_holds" = some (.ref (He.ga K "_law_holds"))
  d_law : ∃ fd, FunD K "law" "law" (defArgs s_law) (defBody s_law) (defScope s_law) [] [] (He.ga K "law") fd
  g_law : mg "law" = some (.ref (He.ga K "law"))
  b_bool : mg "bool" = none
  b_int : mg "int" = none
  b_isinstance : mg "isinstance" = none
  b_len : mg "len" = none
  b_range : mg "range" = none
  b_sum : mg "sum" = none
  i_WIDE : ∃ t, mg "WIDE" = some (.int 32 t)
section
variable {P : Program} {w : World} {K : PySem.W.Frag} {mg : Str → Option Value} {base : Heap}
theorem ok_ones_in (T : Tx P w K mg base) : Okf P w K mg base CX0 1 "ones_in" ["block", "upto"] (sp_ones_in K) := by
  obtain ⟨fd, FD⟩ := T.d_ones_in
  refine ⟨⟨fd, FunD.look FD, FD.bindsN fun _ _ _ _ _ _ us hl => match us, hl with | [_, _], _ => rfl, ?_⟩, FD.kp, T.g_ones_in⟩
  refine FunD.ok FD sc_ones_in (len_ones_in K) (fun cdv A outer s H vs Q E hr h => ⟨t_ones_in K, PSs.nox ?_, rd_ones_in K vs H Q E h⟩)
  exact (pss_one (ps_ret (pe_callB (cr_sum rfl) (by rfl) T.b_sum (by decide +kernel) (pa_cons (pe_lc (own := [("k", 2)]) (g := (gName 2)) (tt := tYes) rfl sc_ones_in.nd (pi_range1 (by rfl) T.b_range (pa_cons (pv 1) pa_nil)) (blkOk_by (N := ["block", "upto", "k"]) (sc := defScope s_ones_in) (own := [("k", 2)]) (by decide +kernel)) (fun _ _ _ _ _ => (pg_name (i := 2) sc_ones_in.nd rfl (.inl rfl))) (fun _ _ _ _ _ => pts_nil) (fun _ _ _ _ _ => (pe_op op_and1 (pe_op op_shr (pv 0) (pv 2)) pe_int))) pa_nil))))

theorem ok_one_in (T : Tx P w K mg base) : Okf P w K mg base CX0 1 "one_in" ["block", "nth"] (sp_one_in K) := by
  obtain ⟨fd, FD⟩ := T.d_one_in
  refine ⟨⟨fd, FunD.look FD, FD.bindsN fun _ _ _ _ _ _ us hl => match us, hl with | [_, _], _ => rfl, ?_⟩, FD.kp, T.g_one_in⟩
  refine FunD.ok FD sc_one_in (len_one_in K) (fun cdv A outer s H vs Q E hr h => ⟨t_one_in K, PSs.nox ?_, rd_one_in K vs H Q E h⟩)
  exact (pss_cons (ps_for PassesOwn.never rfl (pi_range1 (by rfl) T.b_range (pa_cons (pe_gint T.i_WIDE (by rfl)) pa_nil)) (pg_name (i := 2) sc_one_in.nd rfl (.inl rfl))
  (pss_one (ps_if (pt_cmpR op_eq (pe_op op_and1 (pe_op op_shr (pv 0) (pv 2)) pe_int) pe_int (nomark _))
  (pss_cons (ps_if (pt_cmpR op_eq (pv 1) pe_int (nomark _))
  (pss_one (ps_ret (pv 2)))
  pss_nil)
  (pss_one (ps_aug (i := 1) sc_one_in.nd rfl (.inl rfl) pe_int ip_sub)))
  pss_nil)))
  (pss_one (ps_ret pe_non)))

theorem ok_law_whole (T : Tx P w K mg base) : Okf P w K mg base CX0 1 "_law_whole" ["_law_found"] (sp_law_whole K) := by
  obtain ⟨fd, FD⟩ := T.d_law_whole
  refine ⟨⟨fd, FunD.look FD, FD.bindsN fun _ _ _ _ _ _ us hl => match us, hl with | [_], _ => rfl, ?_⟩, FD.kp, T.g_law_whole⟩
  refine FunD.ok FD sc_law_whole (len_law_whole K) (fun cdv A outer s H vs Q E hr h => ⟨t_law_whole K, PSs.nox ?_, rd_law_whole K vs H Q E h⟩)
  exact (pss_one (ps_ret (pe_and (pe_callB call_isB (by rfl) T.b_isinstance (by decide +kernel) (pa_cons (pv 0) (pa_cons (pe_bltn (v := .ty "int") (by rfl) T.b_int (by decide +kernel) rfl) pa_nil))) (pe_one (pe_not (pe_callB call_isB (by rfl) T.b_isinstance (by decide +kernel) (pa_cons (pv 0) (pa_cons (pe_bltn (v := .ty "bool") (by rfl) T.b_bool (by decide +kernel) rfl) pa_nil))))))))

theorem ok_law_block (T : Tx P w K mg base) : Okf P w K mg base CX0 1 "_law_block" ["_law_cell"] (sp_law_block K) := by
  obtain ⟨fd, FD⟩ := T.d_law_block
  refine ⟨⟨fd, FunD.look FD, FD.bindsN fun _ _ _ _ _ _ us hl => match us, hl with | [_], _ => rfl, ?_⟩, FD.kp, T.g_law_block⟩
  refine FunD.ok FD sc_law_block (len_law_block K) (fun cdv A outer s H vs Q E hr h => ⟨t_law_block K, PSs.nox ?_, rd_law_block K vs H Q E h⟩)
  exact (pss_cons (ps_set (i := 1) sc_law_block.nd rfl (.inl rfl) (pe_op op_mod (pv 0) (pe_cst (pe_op op_pow pe_int pe_int) fun _ _ _ h => ⟨_, _, rfl, rfl, ⟨by decide, by decide, by decide⟩, h⟩)))
  (pss_cons (ps_set (i := 2) sc_law_block.nd rfl (.inl rfl) (pe_op op_mod (pe_op op_fdiv (pv 1) pe_int) pe_int))
  (pss_cons (ps_if (pt_cmpR op_eq (pv 2) pe_int (nomark _))
  (pss_one (ps_ret pe_int))
  pss_nil)
  (pss_cons (ps_if (pt_cmpR op_eq (pv 2) pe_int (nomark _))
  (pss_one (ps_ret (pe_cst (pe_op op_sub (pe_cst (pe_op op_pow pe_int pe_int) fun _ _ _ h => ⟨_, _, rfl, rfl, ⟨by decide, by decide, by decide⟩, h⟩) pe_int) fun _ _ _ h => ⟨_, _, rfl, rfl, h⟩)))
  pss_nil)
  (pss_cons (ps_if (pt_cmpR op_eq (pv 2) pe_int (nomark _))
  (pss_one (ps_ret (pe_ix ix_list (pe_lst (pa_cons pe_int (pa_cons pe_int (pa_cons (pe_cst (pe_op op_pow pe_int pe_int) fun _ _ _ h => ⟨_, _, rfl, rfl, ⟨by decide, by decide, by decide⟩, h⟩) (pa_cons (pe_cst (pe_op op_pow pe_int pe_int) fun _ _ _ h => ⟨_, _, rfl, rfl, ⟨by decide, by decide, by decide⟩, h⟩) (pa_cons (pe_cst (pe_op op_pow pe_int pe_int) fun _ _ _ h => ⟨_, _, rfl, rfl, ⟨by decide, by decide, by decide⟩, h⟩) (pa_cons (pe_cst (pe_op op_pow pe_int pe_int) fun _ _ _ h => ⟨_, _, rfl, rfl, ⟨by decide, by decide, by decide⟩, h⟩) pa_nil))))))) (pe_op op_mod (pe_op op_fdiv (pv 1) pe_int) pe_int) (fun _ _ => rfl))))
  pss_nil)
  (pss_one (ps_ret (pv 1))))))))

theorem ok_law_holds (T : Tx P w K mg base) (o_ones_in : Okf P w K mg base CX0 1 "ones_in" ["block", "upto"] (sp_ones_in K)) (o_law_whole : Okf P w K mg base CX0 1 "_law_whole" ["_law_found"] (sp_law_whole K)) (o_one_in : Okf P w K mg base CX0 1 "one_in" ["block", "nth"] (sp_one_in K)) : Okf P w K mg base CX0 2 "_law_holds" ["_law_block_here", "_law_far"] (sp_law_holds K) := by
  obtain ⟨fd, FD⟩ := T.d_law_holds
  refine ⟨⟨fd, FunD.look FD, FD.bindsN fun _ _ _ _ _ _ us hl => match us, hl with | [_, _], _ => rfl, ?_⟩, FD.kp, T.g_law_holds⟩
  refine FunD.ok FD sc_law_holds (len_law_holds K) (fun cdv A outer s H vs Q E hr h => ⟨t_law_holds K, PSs.nox ?_, rd_law_holds K vs H Q E h⟩)
  exact (pss_cons (ps_set (i := 2) sc_law_holds.nd rfl (.inl rfl) (pv 0))
  (pss_cons (ps_set (i := 3) sc_law_holds.nd rfl (.inl rfl) pe_int)
  (pss_cons (ps_for PassesOwn.never rfl (pi_range1 (by rfl) T.b_range (pa_cons pe_int pa_nil)) (pg_name (i := 4) sc_law_holds.nd rfl (.inl rfl))
  (pss_cons (ps_set (i := 5) sc_law_holds.nd rfl (.inl rfl) (pe_callF o_ones_in hr (by decide) (by rfl) pass0 (pa_cons (pv 0) (pa_cons (pv 4) pa_nil))))
  (pss_cons (ps_if (PW.pt (pw_or (pt_not (pt_val (pe_callF o_law_whole hr (by decide) (by rfl) pass0 (pa_cons (pv 5) pa_nil)))) (pw_or1 (pt_cmpR op_ne (pv 5) (pv 3) (nomark _)))))
  (pss_one (ps_ret pe_bl))
  pss_nil)
  (pss_cons (ps_if (pt_cmpR op_eq (pe_op op_mod (pv 2) pe_int) pe_int (nomark _))
  (pss_cons (ps_set (i := 5) sc_law_holds.nd rfl (.inl rfl) (pe_callF o_one_in hr (by decide) (by rfl) pass0 (pa_cons (pv 0) (pa_cons (pv 3) pa_nil))))
  (pss_cons (ps_if (PW.pt (pw_or (pt_not (pt_val (pe_callF o_law_whole hr (by decide) (by rfl) pass0 (pa_cons (pv 5) pa_nil)))) (pw_or1 (pt_cmpR op_ne (pv 5) (pv 4) (nomark _)))))
  (pss_one (ps_ret pe_bl))
  pss_nil)
  (pss_one (ps_set (i := 3) sc_law_holds.nd rfl (.inl rfl) (pe_op op_add (pv 3) pe_int)))))
  pss_nil)
  (pss_one (ps_set (i := 2) sc_law_holds.nd rfl (.inl rfl) (pe_op op_fdiv (pv 2) pe_int)))))))
  (pss_cons (ps_if (pt_cmpR op_ne (pe_callF o_ones_in hr (by decide) (by rfl) pass0 (pa_cons (pv 0) (pa_cons pe_int pa_nil))) (pv 3) (nomark _))
  (pss_one (ps_ret pe_bl))
  pss_nil)
  (pss_one (ps_ret (pe_and (pe_cmpR op_isN1 (pe_callF o_one_in hr (by decide) (by rfl) pass0 (pa_cons (pv 0) (pa_cons (pv 3) pa_nil))) pe_non (nomark _)) (pe_one (pe_cmpR op_isN1 (pe_callF o_one_in hr (by decide) (by rfl) pass0 (pa_cons (pv 0) (pa_cons (pv 1) pa_nil))) pe_non (nomark _))))))))))

theorem ok_law (T : Tx P w K mg base) (o_law_holds : Okf P w K mg base CX0 2 "_law_holds" ["_law_block_here", "_law_far"] (sp_law_holds K)) (o_law_block : Okf P w K mg base CX0 1 "_law_block" ["_law_cell"] (sp_law_block K)) : Okf P w K mg base CX0 3 "law" ["_law_script"] (sp_law K) := by
  obtain ⟨fd, FD⟩ := T.d_law
  refine ⟨⟨fd, FunD.look FD, FD.bindsN fun _ _ _ _ _ _ us hl => match us, hl with | [_], _ => rfl, ?_⟩, FD.kp, T.g_law⟩
  refine FunD.ok FD sc_law (len_law K) (fun cdv A outer s H vs Q E hr h => ⟨t_law K, PSs.nox ?_, rd_law K vs H Q E h⟩)
  exact (pss_cons (ps_if (pt_cmpR op_eq (pe_callB call_lenK (by rfl) T.b_len (by decide +kernel) (pa_cons (pv 0) pa_nil)) pe_int (nomark _))
  (pss_one (ps_ret (pe_callF o_law_holds hr (by decide) (by rfl) pass0 (pa_cons pe_int (pa_cons pe_int pa_nil)))))
  pss_nil)
  (pss_cons (ps_for PassesOwn.never rfl (pi_list (pe_slice sl_list (pv 0) po_none (po_some pe_int))) (pg_name (i := 1) sc_law.nd rfl (.inl rfl))
  (pss_one (ps_if (pt_not (pt_val (pe_callF o_law_holds hr (by decide) (by rfl) pass0 (pa_cons (pe_callF o_law_block hr (by decide) (by rfl) pass0 (pa_cons (pv 1) pa_nil)) (pa_cons (pe_op op_add pe_int (pe_op op_mod (pe_op op_mul (pv 1) pe_int) (pe_cst (pe_op op_pow pe_int pe_int) fun _ _ _ h => ⟨_, _, rfl, rfl, ⟨by decide, by decide, by decide⟩, h⟩))) pa_nil)))))
  (pss_one (ps_ret pe_bl))
  pss_nil)))
  (pss_one (ps_ret pe_bl))))
end
def dd_ones_in : He.DefD := ⟨("ones_in", none), "ones_in", "ones_in", defArgs s_ones_in, defBody s_ones_in, defScope s_ones_in, [], []⟩
def dd_one_in : He.DefD := ⟨("one_in", none), "one_in", "one_in", defArgs s_one_in, defBody s_one_in, defScope s_one_in, [], []⟩
def dd_law_whole : He.DefD := ⟨("_law_whole", none), "_law_whole", "_law_whole", defArgs s_law_whole, defBody s_law_whole, defScope s_law_whole, [], []⟩
def dd_law_block : He.DefD := ⟨("_law_block", none), "_law_block", "_law_block", defArgs s_law_block, defBody s_law_block, defScope s_law_block, [], []⟩
def dd_law_holds : He.DefD := ⟨("_law_holds", none), "_law_holds", "_law_holds", defArgs s_law_holds, defBody s_law_holds, defScope s_law_holds, [], []⟩
def dd_law : He.DefD := ⟨("law", none), "law", "law", defArgs s_law, defBody s_law, defScope s_law, [], []⟩
def fnL : List He.DefD := [dd_ones_in, dd_one_in, dd_law_whole, dd_law_block, dd_law_holds, dd_law]
def faL : List He.Fa := [.glo "ones_in", .glo "one_in", .glo "_law_whole", .glo "_law_block", .glo "_law_holds", .glo "law", .free "bool", .free "int", .free "isinstance", .free "len", .free "range", .free "sum", .int "WIDE" 32]
abbrev R : PySem.W.OpenRow := PySem.W.OpenLaw.row PySem.Challenge.rw_thinwood_k03_ones_of_a_block
abbrev hk : PySem.W.Hook := He.hookD 4 faL fnL
def ob (s : PySem.W.SharedT) : He.AlD := He.obsDG 4 faL fnL (HandSHeadRun.getT s)
theorem ob_eq (s : PySem.W.SharedT) : ob s = hk.obs s.abs := He.obsDG_eq (HandSHeadRun.getT_eq s)
def looseL : List PySem.Str := (["WIDE", "ones_in", "one_in", "_law_whole", "_law_block", "_law_holds"] : List PySem.Str)
theorem run (w : World) : HandSHeadRun.RunEq R (PySem.W.view R.prog [8]) hk ob 2000 looseL w := by
  intro os
  kernel_rfl
theorem tx_of {P : Program} {w : World} {K : PySem.W.Frag} {h : Heap} {mg : Str → Option Value} (X : K.In h) (G : h.Ns mainGlobals mg) (c : He.SaysD faL fnL K) (base : Heap) : Tx P w K mg base where
  d_ones_in := c.def_ 0 (d := dd_ones_in) rfl
  g_ones_in := He.glo_ok X G (c.fact 0 (f := .glo "ones_in") rfl)
  d_one_in := c.def_ 1 (d := dd_one_in) rfl
  g_one_in := He.glo_ok X G (c.fact 1 (f := .glo "one_in") rfl)
  d_law_whole := c.def_ 2 (d := dd_law_whole) rfl
  g_law_whole := He.glo_ok X G (c.fact 2 (f := .glo "_law_whole") rfl)
  d_law_block := c.def_ 3 (d := dd_law_block) rfl
  g_law_block := He.glo_ok X G (c.fact 3 (f := .glo "_law_block") rfl)
  d_law_holds := c.def_ 4 (d := dd_law_holds) rfl
  g_law_holds := He.glo_ok X G (c.fact 4 (f := .glo "_law_holds") rfl)
  d_law := c.def_ 5 (d := dd_law) rfl
  g_law := He.glo_ok X G (c.fact 5 (f := .glo "law") rfl)
  b_bool := He.free_ok X G (c.fact 6 (f := .free "bool") rfl)
  b_int := He.free_ok X G (c.fact 7 (f := .free "int") rfl)
  b_isinstance := He.free_ok X G (c.fact 8 (f := .free "isinstance") rfl)
  b_len := He.free_ok X G (c.fact 9 (f := .free "len") rfl)
  b_range := He.free_ok X G (c.fact 10 (f := .free "range") rfl)
  b_sum := He.free_ok X G (c.fact 11 (f := .free "sum") rfl)
  i_WIDE := He.int_ok X G (c.fact 12 (f := .int "WIDE" 32) rfl)
theorem facts {P : Program} {w : World} {K : PySem.W.Frag} {h : Heap} {mg : Str → Option Value} (X : K.In h) (G : h.Ns mainGlobals mg) (c : He.SaysD faL fnL K) (base : Heap) :
    Okf P w K mg base CX0 3 "law" ["_law_script"] (sp_law K) := by
  have T : Tx P w K mg base := tx_of X G c base
  have o_ones_in := ok_ones_in (P := P) (w := w) T 
  have o_one_in := ok_one_in (P := P) (w := w) T 
  have o_law_whole := ok_law_whole (P := P) (w := w) T 
  have o_law_block := ok_law_block (P := P) (w := w) T 
  have o_law_holds := ok_law_holds (P := P) (w := w) T o_ones_in o_law_whole o_one_in
  have o_law := ok_law (P := P) (w := w) T o_law_holds o_law_block
  exact o_law
theorem binds_law {K : PySem.W.Frag} (c : He.SaysD faL fnL K) : ∃ fd : FuncData, FunD K "law" "law" (defArgs s_law) (defBody s_law) (defScope s_law) [] [] (He.ga K "law") fd := c.def_ 5 (d := dd_law) rfl
end Tw
open PySem PySem.W PySem.Calls PyProof.Rows
set_option maxHeartbeats 0 in
theorem PySem.Challenge.cw_thinwood_k03_ones_of_a_block_holds : PySem.Challenge.rw_thinwood_k03_ones_of_a_block.Holds := by
  w_on; o_law
  refine HandSHeadRun.head_any (r := OpenLaw.row PySem.Challenge.rw_thinwood_k03_ones_of_a_block) (q := view (OpenLaw.row PySem.Challenge.rw_thinwood_k03_ones_of_a_block).prog [8]) (H := Tw.hk) (ob := Tw.ob) (M := 2000) (loose := Tw.looseL) (d := HandSHeadRun.topDef (OpenLaw.row PySem.Challenge.rw_thinwood_k03_ones_of_a_block).prog 8) (kwd := []) Tw.ob_eq
    (by kernel_rfl) (fun s => by kernel_rfl) Tw.run (by kernel_rfl) (by kernel_rfl) (by kernel_rfl) (by rfl) (by first | assumption | decide +kernel) (by decide +kernel) ⟨rfl, rfl, rfl, rfl, rfl, by decide +kernel⟩ ?hw ?hc
  case hw => w_witness2
  case hc =>
    refine L2.walk_ofE (l := PySem.Challenge.rw_thinwood_k03_ones_of_a_block) (n := 63) (k := 3) (x := "_law_script") (CX := L2.CX0) rfl (by decide) (by kernel_rfl) ⟨rfl, by decide, by decide⟩ ?F (fun _ _ _ _ z => z)
    intro w mg fa h Y G hmg0
    obtain ⟨K, KX, c⟩ := Y
    have hmg : mg ("law" : PySem.Str) = some (.ref fa) := by
      have e : (HandSHeadRun.topDef (OpenLaw.row PySem.Challenge.rw_thinwood_k03_ones_of_a_block).prog 8).name = ("law" : PySem.Str) := by kernel_rfl
      rw [← e]
      exact hmg0
    have e : fa = He.ga K "law" := by
      have z := hmg.symm.trans (Tw.facts (P := (PySem.Challenge.rw_thinwood_k03_ones_of_a_block).prog) (w := w) KX G c h).gl
      injection z with z; injection z
    subst e
    obtain ⟨fd, FD⟩ := Tw.binds_law c
    refine ⟨K, fd, Tw.sp_law K, KX, fun s v => FunD.bindsA (ps := ["_law_script"]) FD (fun _ _ _ _ _ _ us hl => match us, hl with | [_], _ => rfl) s [v] rfl, fun H a ns hl _ hS => ⟨a, ns, rfl, hS, hl, fun _ => rfl⟩, fun base KB GB => ?_⟩
    exact Tw.okf_fn (Tw.facts KB GB c base) FD
#print axioms PySem.Challenge.cw_thinwood_k03_ones_of_a_block_holds
