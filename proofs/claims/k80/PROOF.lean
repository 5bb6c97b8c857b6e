import PyProof.Rows.All
import Wide.All
import OpenK.AllK
import Wide.FinOn
import KE.KStateDown
import Lean
import HandS.ForMost
import HandS.ForExc
import HandS.Steps
import HandS.IsInst
import HandS.Wide
import HandS.WideBits
import HandS.Defaults
import HandS.Flow
import HandS.Style
import HandS.Evl
import HandS.Walk
import HandS.Rev
import HandS.RevRange
import HandS.SortInts
import HandS.Head0
import HandS.Head1
import HandS.Head2
import HandS.HeadEnd
import HandS.HeadHook1
import HandS.HeadHook2
import PySem.Challenge.RW_thinwood_k80_numbers_as_octets
set_option Elab.async false
set_option linter.all false
set_option maxRecDepth 100000
set_option maxHeartbeats 4000000
set_option Elab.async false
set_option linter.all false
set_option maxRecDepth 100000
set_option maxHeartbeats 4000000
namespace Tw
open PySem PySem.Spec PyProof.Rows L2
/-! ### a def by its global name, and its call -/
/-- the def named x keeps the promise sp -/
structure Okf (P : Program) (w : World) (K : PySem.W.Frag) (mg : Str → Option Value) (base : Heap) (CX : CXT) (k : Nat) (x : Str) (ps : List Str) (sp : Sp) : Prop where
  ex : ∃ fd : FuncData, (∃ (oc : Value) (od : Option Addr) (osl : Array (Option Value)), K.lookup (He.ga K x) = some ⟨oc, od, .func fd, osl⟩) ∧ Binds K fd ps [] ∧ FnOk P w K mg base CX k (He.ga K x) fd ps sp
  kp : PySem.W.keepIn K (.ref (He.ga K x)) = true
  gl : mg x = some (.ref (He.ga K x))
theorem FunD.look {K : PySem.W.Frag} {x qual : Str} {params : Arguments} {body : List Stmt} {scope : Scope} {dvs : List V} {kws : List (Str × V)} {f : Addr} {fd : FuncData} (F : FunD K x qual params body scope dvs kws f fd) :
    ∃ (oc : Value) (od : Option Addr) (osl : Array (Option Value)), K.lookup f = some ⟨oc, od, .func fd, osl⟩ := by
  obtain ⟨oc, od, dV, kV, doc, pm, an, cdv, ct, osl, e, lk, _⟩ := F.ex
  exact ⟨oc, od, osl, lk⟩
section
variable {X : Cx} {CX : CXT} {k j : Nat} {ps : List Str} {sp : Sp} {E : XK} {x : Str} {p pos : Pos} {e : Expr} {es : List Expr} {t : TA}
theorem pe_callF (F : Okf X.prog X.w X.K X.mg X.base CX k x ps sp) (hr : Room j X.A) (hk : k ≤ j) (hg : Gl X x) (hx : Passes CX X E)
    (ha : PA X (e :: es) t) (hdb : (x == ("__debug__" : Str)) = false := by decide) (he : starEach (e :: es) X.env = (false, eval e X.env) :: starEach es X.env := by rfl) (hpl : (backTo pos (starEach es X.env)).any (·.1) = false := by rfl) :
    PE X (.Call (.Name x p) (e :: es) [] pos) (tCall sp [] E t) := by
  obtain ⟨fd, _, hb, ok⟩ := F.ex
  exact pe_call ok (hr.mono hk) hg F.gl F.kp hb .nil hx ha hdb he hpl
theorem pe_callF0 (F : Okf X.prog X.w X.K X.mg X.base CX k x ps sp) (hr : Room j X.A) (hk : k ≤ j) (hg : Gl X x) (hx : Passes CX X E)
    (hdb : (x == ("__debug__" : Str)) = false := by decide) : PE X (.Call (.Name x p) [] [] pos) (tCall sp [] E tNil) := by
  obtain ⟨fd, _, hb, ok⟩ := F.ex
  exact pe_call0 ok (hr.mono hk) hg F.gl F.kp hb .nil hx hdb
theorem Okf.imp {P : Program} {w : World} {K : PySem.W.Frag} {mg : Str → Option Value} {base : Heap} {sp' : Sp} (F : Okf P w K mg base CX k x ps sp)
    (h : ∀ vs H Q E, sp' vs H Q E → sp vs H Q E) : Okf P w K mg base CX k x ps sp' := by
  obtain ⟨⟨fd, lk, hb, ok⟩, kp, gl⟩ := F
  exact ⟨⟨fd, lk, hb, ok.imp h⟩, kp, gl⟩
theorem okf_fn {P : Program} {w : World} {K : PySem.W.Frag} {mg : Str → Option Value} {base : Heap} {params : Arguments} {body : List Stmt} {scope : Scope} {qual y : Str} {fd : FuncData} {dvs : List V} {kws : List (Str × V)} (F : Okf P w K mg base CX k x ps sp)
    (FD : FunD K y qual params body scope dvs kws (He.ga K x) fd) : FnOk P w K mg base CX k (He.ga K x) fd ps sp := by
  obtain ⟨⟨fd', ⟨_, _, _, lk'⟩, hb, ok⟩, kp, gl⟩ := F
  obtain ⟨_, _, _, lk⟩ := FunD.look FD
  rw [lk] at lk'
  injection lk' with e
  injection e with _ _ e
  injection e with e
  subst e
  exact ok
/-- a global int, as a constant -/
theorem pe_gint {i : Int} (h : ∃ t, X.mg x = some (.int i t)) (hg : Gl X x) (hd : (x == ("__debug__" : Str)) = false := by decide) : PE X (.Name x pos) (tC (.int i)) := by
  obtain ⟨t, h⟩ := h
  exact pe_glob hg h ⟨_, rfl⟩ hd
/-- a constant that the text reckons -/
theorem pe_cst {v : Int} {te : TE} (h : PE X e te) (hi : ∀ (σ : L2.St) (H : Hp) (Q : VK), Q (.int v) H → te σ H Q) : PE X e (tC (.int v)) :=
  ⟨fun pins s σ H Q I q => h.run pins s σ H Q I (hi σ H Q q)⟩
/-- e & 1 -/
def rAnd1 : R2 := fun x y H Q => ∃ i : Int, x = .int i ∧ y = .int 1 ∧ Q (.int (i % 2)) H
theorem op_and1 : OpR X (binaryOp .BitAnd) rAnd1 := by
  intro pins s σ H x y v u Q I rx ry h
  obtain ⟨i, rfl, rfl, q⟩ := h
  exact op_andM pins s σ H (.int i) (.int (2 ^ 1 - 1)) v u Q I rx ry ⟨i, 1, rfl, rfl, q⟩
/-- isinstance(x, T), T a built-in type's name -/
def rIsB : List V → Hp → VK → Prop := fun xs H Q => ∃ (x : V) (n : String), xs = [x, .ty n] ∧ ∃ (t : String) (b : Bool), (∀ K : PySem.W.Frag, TyX K H x (.type t)) ∧ kitB t n = some b ∧ Q (.bl b) H
theorem call_isB : CallR X (.builtin "isinstance") rIsB := by
  intro pins s σ H xs us Q I r h
  obtain ⟨x, n, rfl, t, b, ty, e, q⟩ := h
  exact call_isi pins s σ H [x, .ty n] us Q I r ⟨x, .ty n, .type t, .type n, b, rfl, .ty n, ty _, kit_ty e, q⟩
end
/-! ### names of the operators' readings -/
abbrev rPlus : R2 := rI0 fun i j => .int (i + j)
abbrev rMinus : R2 := rI0 fun i j => .int (i - j)
abbrev rTimes : R2 := rI CMul fun i j => .int (i * j)
abbrev rDiv : R2 := rI CDiv fun i j => .int (i / j)
abbrev rDivW : R2 := rI CDivW fun i j => .int (i / j)
abbrev rMod : R2 := rI (fun _ j => 0 < j) fun i j => .int (i % j)
abbrev rPow : R2 := rI CPow fun i j => .int (i ^ j.toNat)
abbrev rShl : R2 := rI CPow fun i j => .int (i * 2 ^ j.toNat)
abbrev rShr : R2 := rI (fun _ j => 0 ≤ j) fun i j => .int (i / 2 ^ j.toNat)
abbrev rBitAnd : R2 := rI0 fun i j => .int (Builtin.bitAnd i j)
abbrev rBitOr : R2 := rI0 fun i j => .int (Builtin.bitOr i j)
abbrev rBitXor : R2 := rI0 fun i j => .int (Builtin.bitXor i j)
abbrev rLt : R2 := rI0 fun i j => .bl (decide (i < j))
abbrev rLe : R2 := rI0 fun i j => .bl (decide (i ≤ j))
abbrev rGtI : R2 := rI0 fun i j => .bl (decide (j < i))
abbrev rGeI : R2 := rI0 fun i j => .bl (decide (j ≤ i))
abbrev rShlW : R2 := rI CShl fun i j => .int (i * 2 ^ j.toNat)
def rDivmod : List V → Hp → VK → Prop := fun xs H Q => ∃ i j, xs = [.int i, .int j] ∧ CDivP i j ∧ ∀ p, H p = none → Q (.ref p) (upd H p (.tup [.int (i / j), .int (i % j)]))
abbrev rNeg : V → Hp → VK → Prop := rU fun i => .int (-i)
/-! ### steps of a reading -/
section
variable {D : Ends} {σ : L2.St} {H : Hp} {Q : VK} {Qb : Bool → Hp → Prop} {ta tb te : TE} {t u v : TS} {c d : TT} {i : Nat} {x y z : V} {r : R2} {K : PySem.W.Frag}
theorem k_seq (h : t { D with nx := u D } σ H) : tSeq t u D σ H := h
theorem k_next (h : D.nx σ H) : tNext D σ H := h
theorem k_asg (h : te σ H fun x H1 => D.nx (σ.set i (some x)) H1) : tAsg te (gName i) D σ H := h
theorem k_drop (h : te σ H fun _ H1 => D.nx σ H1) : tDrop te D σ H := h
theorem k_ret (h : te σ H D.rt) : tRet te D σ H := h
theorem k_retN (h : D.rt .non H) : tRetN D σ H := h
theorem k_if (h : c σ H fun b H1 => if b = true then t D σ H1 else u D σ H1) : tIfS c t u D σ H := h
theorem k_var (h : σ[i]? = some (some x)) (q : Q x H) : tVar i σ H Q := ⟨x, h, q⟩
theorem k_c (q : Q x H) : tC x σ H Q := q
theorem k_op (h : ta σ H fun x H1 => tb σ H1 fun y H2 => r x y H2 Q) : tOp r ta tb σ H Q := h
theorem k_un {r : V → Hp → VK → Prop} (h : ta σ H fun x H1 => r x H1 Q) : tUn r ta σ H Q := h
theorem k_I0 {g : Int → Int → V} {a b : Int} (q : Q (g a b) H) : rI0 g (.int a) (.int b) H Q := ⟨a, b, rfl, rfl, q⟩
theorem k_I {C : Int → Int → Prop} {g : Int → Int → V} {a b : Int} (hc : C a b) (q : Q (g a b) H) : rI C g (.int a) (.int b) H Q := ⟨a, b, rfl, rfl, hc, q⟩
theorem k_U {g : Int → V} {a : Int} (q : Q (g a) H) : rU g (.int a) H Q := ⟨a, rfl, q⟩
theorem k_and1 {a : Int} (q : Q (.int (a % 2)) H) : rAnd1 (.int a) (.int 1) H Q := ⟨a, rfl, rfl, q⟩
theorem k_eqI {a b : Int} (q : Q (.bl (decide (a = b))) H) : rEq (.int a) (.int b) H Q := ⟨rfl, by
  have e : decide ((V.int a : V) = V.int b) = decide (a = b) := by simp
  rw [e]; exact q⟩
theorem k_neI {a b : Int} (q : Q (.bl (!decide (a = b))) H) : rNe (.int a) (.int b) H Q := ⟨rfl, by
  have e : decide ((V.int a : V) = V.int b) = decide (a = b) := by simp
  rw [e]; exact q⟩
theorem k_eq (hs : scal x y = true) (q : Q (.bl (decide (x = y))) H) : rEq x y H Q := ⟨hs, q⟩
theorem k_ne (hs : scal x y = true) (q : Q (.bl (!decide (x = y))) H) : rNe x y H Q := ⟨hs, q⟩
theorem k_isN (q : Q (.bl (decide (x = .non))) H) : rIsN x .non H Q := ⟨rfl, q⟩
theorem k_notN (q : Q (.bl (!decide (x = .non))) H) : rNotN x .non H Q := ⟨rfl, q⟩
def BlK (Qb : Bool → Hp → Prop) (x : V) (H : Hp) : Prop := ∃ k, x = .bl k ∧ Qb k H
theorem k_test (h : te σ H (BlK Qb)) : tTest te σ H Qb := h
theorem k_tB (h : te σ H (BlK Qb)) : tB te σ H Qb := h
theorem k_bl {b : Bool} (q : Qb b H) : BlK Qb (V.bl b) H := ⟨b, rfl, q⟩
theorem k_and (h : c σ H fun b H1 => if b = true then d σ H1 Qb else Qb false H1) : tAnd c d σ H Qb := h
theorem k_or (h : c σ H fun b H1 => if b = true then Qb true H1 else d σ H1 Qb) : tOr c d σ H Qb := h
theorem k_not (h : c σ H fun b H1 => Qb (!b) H1) : tNot c σ H Qb := h
theorem k_andV (h : ta σ H (BlK fun k H1 => if k = true then tb σ H1 Q else Q (.bl false) H1)) : tAndV ta tb σ H Q := h
theorem k_orV (h : ta σ H (BlK fun k H1 => if k = true then Q (.bl true) H1 else tb σ H1 Q)) : tOrV ta tb σ H Q := h
theorem k_notV (h : ta σ H (BlK fun k H1 => Q (.bl (!k)) H1)) : tNotV ta σ H Q := h
theorem k_ifE (h : c σ H fun b H1 => if b = true then ta σ H1 Q else tb σ H1 Q) : tIf c ta tb σ H Q := h
theorem k_cons {Qv : List V → Hp → Prop} {tr : TA} (h : ta σ H fun x H1 => tr σ H1 fun xs H2 => Qv (x :: xs) H2) : tCons ta tr σ H Qv := h
theorem k_nil {Qv : List V → Hp → Prop} (h : Qv [] H) : tNil σ H Qv := h
theorem k_call {sp : Sp} {dvs : List V} {E : XK} {tr : TA} (h : tr σ H fun vs H1 => sp (vs ++ dvs) H1 Q E) : tCall sp dvs E tr σ H Q := h
theorem k_cb {rc : List V → Hp → VK → Prop} {tr : TA} (h : tr σ H fun vs H1 => rc vs H1 Q) : tCB rc tr σ H Q := h
theorem k_tup {tr : TA} (h : tr σ H fun xs H1 => xs.length ≤ sizeLine ∧ ∀ p, H1 p = none → Q (.ref p) (upd H1 p (.tup xs))) : tTup tr σ H Q := h
theorem k_lst {tr : TA} (h : tr σ H fun xs H1 => xs.length ≤ sizeLine ∧ ∀ p, H1 p = none → Q (.ref p) (upd H1 p (.lst xs))) : tLst tr σ H Q := h
theorem k_aug {ti : TIp} (hx : σ[i]? = some (some x)) (h : te σ H fun y H1 => ti x y H1 fun z H2 => D.nx (σ.set i (some z)) H2) : tAug i te ti D σ H := ⟨x, hx, h⟩
theorem k_ipI {f : Int → Int → Int} {a b : Int} (q : Q (.int (f a b)) H) : ipI f (.int a) (.int b) H Q := ⟨a, b, rfl, rfl, q⟩
theorem k_sl {rs : V → Option Int → Option Int → Hp → VK → Prop} {tl th : TO} (h : te σ H fun x H1 => tl σ H1 fun l H2 => th σ H2 fun u H3 => rs x l u H3 Q) : tSl rs te tl th σ H Q := h
def PartK (Qo : Option Int → Hp → Prop) (x : V) (H : Hp) : Prop := ∃ j, x = .int j ∧ Qo (some j) H
theorem k_part {Qo : Option Int → Hp → Prop} (h : te σ H (PartK Qo)) : tPart te σ H Qo := h
theorem k_partE {Qo : Option Int → Hp → Prop} {a : Int} (h : Qo (some a) H) : PartK Qo (.int a) H := ⟨a, rfl, h⟩
theorem k_noPart {Qo : Option Int → Hp → Prop} (h : Qo none H) : tNoPart σ H Qo := h
theorem k_bm {T : String} {rm : V → List V → Hp → VK → Prop} {tr : TA} (h : te σ H fun x H1 => tyV K T x H1 ∧ tr σ H1 fun xs H2 => rm x xs H2 Q) : tBM K T rm te tr σ H Q := h
theorem k_bm0 {T : String} {rm : V → List V → Hp → VK → Prop} (h : te σ H fun x H1 => tyV K T x H1 ∧ rm x [] H1 Q) : tBM0 K T rm te σ H Q := h
theorem k_app {l : Addr} {xs : List V} (h : H l = some (.lst xs)) (hl : xs.length < 100000) (q : Q .non (upd H l (.lst (xs ++ [y])))) : rAppend (.ref l) [y] H Q := ⟨l, xs, y, rfl, rfl, h, Nat.lt_of_lt_of_le hl (by decide), q⟩
theorem k_tyL {l : Addr} {xs : List V} {A : Prop} (h : SqL K H l xs) (q : A) : tyV K "list" (.ref l) H ∧ A := ⟨.inl ⟨rfl, _, h⟩, q⟩
theorem k_ixL {p : Addr} {xs : List V} {a : Int} (h : SqL K H p xs) (e : atI xs a = some x) (q : Q x H) : rIxL K (.ref p) (.int a) H Q := ⟨p, xs, a, x, rfl, rfl, h, e, q⟩
theorem k_ixT {p : Addr} {xs : List V} {a : Int} (h : SqT K H p xs) (e : atI xs a = some x) (q : Q x H) : rIxT K (.ref p) (.int a) H Q := ⟨p, xs, a, x, rfl, rfl, h, e, q⟩
theorem k_slL {p : Addr} {xs : List V} {lo hi : Option Int} (h : SqL K H p xs) (q : ∀ l, H l = none → Q (.ref l) (upd H l (.lst (cutV xs lo hi)))) : rSlL K (.ref p) lo hi H Q := ⟨p, xs, rfl, h, q⟩
def rLen (K : PySem.W.Frag) : List V → Hp → VK → Prop := fun xs H Q => ∃ p ys, xs = [.ref p] ∧ (SqL K H p ys ∨ SqT K H p ys) ∧ Q (.int ys.length) H
theorem call_lenK {X : Cx} : CallR X (.builtin "len") (rLen X.K) := call_len_seq
theorem k_lenL {p : Addr} {xs : List V} (h : SqL K H p xs) (q : Q (.int (xs.length : Int)) H) : rLen K [.ref p] H Q := ⟨p, xs, rfl, .inl h, q⟩
theorem k_lenT {p : Addr} {xs : List V} (h : SqT K H p xs) (q : Q (.int (xs.length : Int)) H) : rLen K [.ref p] H Q := ⟨p, xs, rfl, .inr h, q⟩
def rMin2 : List V → Hp → VK → Prop := fun xs H Q => ∃ i j, xs = [.int i, .int j] ∧ Q (.int (if j < i then j else i)) H
def rMax2 : List V → Hp → VK → Prop := fun xs H Q => ∃ i j, xs = [.int i, .int j] ∧ Q (.int (if j > i then j else i)) H
theorem call_min2K {X : Cx} (hc : X.calm = true) : CallR X (.builtin "min") rMin2 := call_min2 hc
theorem call_max2K {X : Cx} (hc : X.calm = true) : CallR X (.builtin "max") rMax2 := call_max2 hc
theorem k_min2 {a b : Int} (q : Q (.int (if b < a then b else a)) H) : rMin2 [.int a, .int b] H Q := ⟨a, b, rfl, q⟩
theorem k_max2 {a b : Int} (q : Q (.int (if b > a then b else a)) H) : rMax2 [.int a, .int b] H Q := ⟨a, b, rfl, q⟩
def rListOf (K : PySem.W.Frag) : List V → Hp → VK → Prop := fun xs H Q => ∃ p ys, xs = [.ref p] ∧ (SqL K H p ys ∨ SqT K H p ys) ∧ ∀ l, H l = none → Q (.ref l) (upd H l (.lst ys))
theorem call_listK {X : Cx} : CallR X (.type "list") (rListOf X.K) := call_list_of
theorem k_listL {p : Addr} {xs : List V} (h : SqL K H p xs) (q : ∀ l, H l = none → Q (.ref l) (upd H l (.lst xs))) : rListOf K [.ref p] H Q := ⟨p, xs, rfl, .inl h, q⟩
theorem k_sum {p : Addr} {ns : List Int} (h : SqL K H p (ns.map V.int)) (q : Q (.int ns.sum) H) : rSum K [.ref p] H Q := ⟨p, ns, rfl, h, q⟩
theorem k_isInt {a : Int} (q : Q (.bl true) H) : rIsB [.int a, .ty "int"] H Q := ⟨.int a, "int", rfl, "int", true, fun _ => .base (.int a), by decide +kernel, q⟩
theorem k_isBool {a : Int} (q : Q (.bl false) H) : rIsB [.int a, .ty "bool"] H Q := ⟨.int a, "bool", rfl, "int", false, fun _ => .base (.int a), by decide +kernel, q⟩
theorem k_isIntN (q : Q (.bl false) H) : rIsB [.non, .ty "int"] H Q := ⟨.non, "int", rfl, "NoneType", false, fun _ => .base .non, by decide +kernel, q⟩
theorem k_isList {a : Addr} {xs : List V} (h : H a = some (.lst xs)) (q : Q (.bl true) H) : rIsB [.ref a, .ty "list"] H Q := ⟨.ref a, "list", rfl, "list", true, fun _ => .base (.lst h), by decide +kernel, q⟩
theorem k_isTup {a : Addr} {xs : List V} (h : H a = some (.tup xs)) (q : Q (.bl true) H) : rIsB [.ref a, .ty "tuple"] H Q := ⟨.ref a, "tuple", rfl, "tuple", true, fun _ => .base (.tup h), by decide +kernel, q⟩
/-! ends -/
theorem k_nx {nx : L2.St → Hp → Prop} {rt : VK} {bk ct : L2.St → Hp → Prop} (h : nx σ H) : (Ends.mk nx rt bk ct).nx σ H := h
theorem k_rt {nx : L2.St → Hp → Prop} {rt : VK} {bk ct : L2.St → Hp → Prop} (h : rt x H) : (Ends.mk nx rt bk ct).rt x H := h
/-! ifs -/
theorem k_dec {p A B : Prop} [Decidable p] (h1 : p → A) (h2 : ¬ p → B) : if decide p = true then A else B := by
  by_cases h : p
  · rw [if_pos (decide_eq_true h)]; exact h1 h
  · rw [if_neg (fun z => h (of_decide_eq_true z))]; exact h2 h
theorem k_ndec {p A B : Prop} [Decidable p] (h1 : ¬ p → A) (h2 : p → B) : if (!decide p) = true then A else B := by
  by_cases h : p
  · rw [if_neg (by rw [decide_eq_true h]; decide)]; exact h2 h
  · rw [if_pos (by rw [decide_eq_false h]; decide)]; exact h1 h
theorem k_decT {p A B : Prop} [Decidable p] (h : p) (q : A) : if decide p = true then A else B := k_dec (fun _ => q) (fun z => absurd h z)
theorem k_decF {p A B : Prop} [Decidable p] (h : ¬ p) (q : B) : if decide p = true then A else B := k_dec (fun z => absurd z h) (fun _ => q)
theorem k_ndecT {p A B : Prop} [Decidable p] (h : p) (q : B) : if (!decide p) = true then A else B := k_ndec (fun z => absurd h z) (fun _ => q)
theorem k_ndecF {p A B : Prop} [Decidable p] (h : ¬ p) (q : A) : if (!decide p) = true then A else B := k_ndec (fun _ => q) (fun z => absurd z h)
theorem k_yes (h : Qb true H) : tYes σ H Qb := h
theorem k_T {A B : Prop} (q : A) : if true = true then A else B := iteT q
theorem k_F {A B : Prop} (q : B) : if false = true then A else B := iteF q
theorem k_nT {A B : Prop} (q : B) : if (!true) = true then A else B := iteF q
theorem k_nF {A B : Prop} (q : A) : if (!false) = true then A else B := iteT q
end
/-! ### heaps -/
theorem same_new {H : Hp} {p : Addr} {o : HO} (h : H p = none) : Same H (upd H p o) := fun b x e => by
  rw [upd_ne (ne_of_none e h)]; exact e
/-- an object that H does not know may change -/
theorem Same.mut {H H' : Hp} {p : Addr} {o : HO} (e : Same H H') (h : H p = none) : Same H (upd H' p o) := fun b x hb => by
  rw [upd_ne (ne_of_none hb h)]; exact e b x hb
theorem Same.seqT {K : PySem.W.Frag} {H H' : Hp} {a : Addr} {xs : List V} (e : Same H H') (h : SqT K H a xs) : SqT K H' a xs := by
  rcases h with (h | ⟨o, h⟩) | h
  · exact .inl (.inl (e _ _ h))
  · exact .inl (.inr ⟨o, e _ _ h⟩)
  · exact .inr h
theorem Same.ne {H : Hp} {a p : Addr} {o : HO} (h : H p = none) (e : H a = some o) : a ≠ p := ne_of_none e h
/-! ### items -/
theorem at_nat {α : Type} {xs : List α} {i : Nat} {x : α} (h : xs[i]? = some x) : atI xs (i : Int) = some x := atI_nat h
theorem at_int {α : Type} {xs : List α} {i : Int} {x : α} (h0 : 0 ≤ i) (h : xs[i.toNat]? = some x) : atI xs i = some x := by
  have e : i = ((i.toNat : Nat) : Int) := by omega
  rw [e]; exact atI_nat h
theorem mapint {ns : List Int} {i : Nat} {n : Int} (h : ns[i]? = some n) : (ns.map V.int)[i]? = some (.int n) := by
  rw [List.getElem?_map, h]; rfl
theorem of_mapint {ns : List Int} {i : Nat} {v : V} (h : (ns.map V.int)[i]? = some v) : ∃ n, ns[i]? = some n ∧ v = .int n := by
  rw [List.getElem?_map] at h
  cases e : ns[i]? with
  | none => rw [e] at h; cases h
  | some n => rw [e] at h; exact ⟨n, rfl, (Option.some.inj h).symm⟩
theorem cutTake (xs : List V) (n : Nat) : cutV xs none (some (n : Int)) = xs.take n := by
  unfold cutV
  rw [HT.sIx_none, HT.sIx_nat, List.drop_zero, Nat.sub_zero]
  rcases Nat.le_total n xs.length with h | h
  · rw [Nat.min_eq_left h]
  · rw [Nat.min_eq_right h, List.take_length, List.take_of_length_le h]
/-! ### steps on ends that are written out; loops -/
section
variable {σ : L2.St} {H : Hp} {Q rt : VK} {nx bk ct : L2.St → Hp → Prop} {t u tb : TS} {g : TG} {wi : TI} {c : TT} {i : Nat} {x : V} {K : PySem.W.Frag}
theorem m_seq (h : t (Ends.mk (u (Ends.mk nx rt bk ct)) rt bk ct) σ H) : tSeq t u (Ends.mk nx rt bk ct) σ H := h
theorem m_cut (Mid : L2.St → Hp → Prop) (h : t (Ends.mk Mid rt bk ct) σ H) (k : ∀ σ' H', Mid σ' H' → u (Ends.mk nx rt bk ct) σ' H') : Evl.tCut t u (Ends.mk nx rt bk ct) σ H := ⟨Mid, h, k⟩
theorem m_cut0 (h : t (Ends.mk (u (Ends.mk nx rt bk ct)) rt bk ct) σ H) : Evl.tCut t u (Ends.mk nx rt bk ct) σ H := ⟨_, h, fun _ _ x => x⟩
theorem m_bk (h : bk σ H) : tBreak (Ends.mk nx rt bk ct) σ H := h
theorem m_ct (h : ct σ H) : tCont (Ends.mk nx rt bk ct) σ H := h
theorem m_next (h : nx σ H) : tNext (Ends.mk nx rt bk ct) σ H := h
theorem m_gName {Qs : L2.St → Hp → Prop} (h : Qs (σ.set i (some x)) H) : gName i x σ H Qs := h
theorem m_call {sp : Sp} {E : XK} {tr : TA} (h : tr σ H fun vs H1 => sp vs H1 Q E) : tCall sp [] E tr σ H Q := by
  have e : (fun (vs : List V) (H1 : Hp) => sp (vs ++ []) H1 Q E) = fun vs H1 => sp vs H1 Q E := by
    funext vs H1; rw [List.append_nil]
  show tr σ H fun vs H1 => sp (vs ++ []) H1 Q E
  rw [e]; exact h
/-- a for loop over what J yields -/
def LoopOk (J : It) (g : TG) (tb : TS) (nx : L2.St → Hp → Prop) (rt : VK) (σ : L2.St) (H : Hp) : Prop :=
  ∃ W : Nat → Nat → L2.St → Hp → Prop, (∃ m, W 0 m σ H) ∧ ∀ i m σ H, W i m σ H →
  (J.stop i H ∧ nx σ H) ∨ (J.go i H ∧ ∃ N : L2.St → Hp → Prop, (∀ σ' H', N σ' H' → ∃ m', m' < m ∧ W (i + 1) m' σ' H') ∧ ∀ x H', J.yld i H x H' → g x σ H' fun σ2 H2 => tb (Ends.mk N rt nx N) σ2 H2)
theorem m_for (h : wi σ H fun J H1 => LoopOk J g tb nx rt σ H1) : tFor wi g tb (Ends.mk nx rt bk ct) σ H := h
def Rng1K (R : It → Hp → Prop) (vs : List V) (H : Hp) : Prop := ∃ j : Int, vs = [.int j] ∧ -(2 ^ 62) ≤ j ∧ j < 2 ^ 62 ∧ R (Itr 0 j.toNat) H
theorem m_rng1 {ta : TA} {R : It → Hp → Prop} (h : ta σ H (Rng1K R)) : iRng1 ta σ H R := h
theorem m_rng1e {R : It → Hp → Prop} {a : Int} (h1 : -(2 ^ 62) ≤ a ∧ a < 2 ^ 62) (h : R (Itr 0 a.toNat) H) : Rng1K R [V.int a] H := ⟨a, rfl, h1.1, h1.2, h⟩
theorem m_rng1n {R : It → Hp → Prop} {a : Nat} (h1 : (a : Int) < 2 ^ 62) (h : R (Itr 0 a) H) : Rng1K R [V.int (a : Int)] H := ⟨a, rfl, by omega, h1, by rw [Int.toNat_natCast]; exact h⟩
def Rng2K (R : It → Hp → Prop) (vs : List V) (H : Hp) : Prop := ∃ i j : Int, vs = [.int i, .int j] ∧ (-(2 ^ 62) ≤ i ∧ i < 2 ^ 62 ∧ -(2 ^ 62) ≤ j ∧ j < 2 ^ 62) ∧ R (Itr i (j - i).toNat) H
theorem m_rng2 {ta : TA} {R : It → Hp → Prop} (h : ta σ H (Rng2K R)) : iRng2 ta σ H R := h
theorem m_rng2e {R : It → Hp → Prop} {a b : Int} (h1 : -(2 ^ 62) ≤ a ∧ a < 2 ^ 62 ∧ -(2 ^ 62) ≤ b ∧ b < 2 ^ 62) (h : R (Itr a (b - a).toNat) H) : Rng2K R [V.int a, V.int b] H := ⟨a, b, rfl, h1, h⟩
def ListK (K : PySem.W.Frag) (R : It → Hp → Prop) (x : V) (H : Hp) : Prop := ∃ a, x = .ref a ∧ (∃ xs, SqL K H a xs) ∧ R (Itl K a) H
theorem m_iL {tl : TE} {R : It → Hp → Prop} (h : tl σ H (ListK K R)) : iList K tl σ H R := h
theorem m_iLe {R : It → Hp → Prop} {a : Addr} {xs : List V} (hx : SqL K H a xs) (h : R (Itl K a) H) : ListK K R (V.ref a) H := ⟨a, rfl, ⟨xs, hx⟩, h⟩
def TupK (K : PySem.W.Frag) (R : It → Hp → Prop) (x : V) (H : Hp) : Prop := ∃ a, x = .ref a ∧ (∃ xs, SqT K H a xs) ∧ R (Itt K a) H
theorem m_iT {tl : TE} {R : It → Hp → Prop} (h : tl σ H (TupK K R)) : iTup K tl σ H R := h
theorem m_iTe {R : It → Hp → Prop} {a : Addr} {xs : List V} (hx : SqT K H a xs) (h : R (Itt K a) H) : TupK K R (V.ref a) H := ⟨a, rfl, ⟨xs, hx⟩, h⟩
theorem loop_range {lo : Int} {n : Nat} (Pv : Nat → L2.St → Hp → Prop) (h0 : Pv 0 σ H)
    (hs : ∀ i σ H, i < n → Pv i σ H → g (.int (lo + i)) σ H fun σ2 H2 => tb (Ends.mk (Pv (i + 1)) rt nx (Pv (i + 1))) σ2 H2) (hd : ∀ σ H, Pv n σ H → nx σ H) : LoopOk (Itr lo n) g tb nx rt σ H :=
  for_range (D := Ends.mk nx rt nx nx) Pv h0 hs hd
theorem loop_range0 {n : Nat} (Pv : Nat → L2.St → Hp → Prop) (h0 : Pv 0 σ H)
    (hs : ∀ (i : Nat) σ H, i < n → Pv i σ H → g (.int (i : Int)) σ H fun σ2 H2 => tb (Ends.mk (Pv (i + 1)) rt nx (Pv (i + 1))) σ2 H2) (hd : ∀ σ H, Pv n σ H → nx σ H) : LoopOk (Itr 0 n) g tb nx rt σ H :=
  loop_range Pv h0 (fun i σ H hi p => by rw [Int.zero_add]; exact hs i σ H hi p) hd
theorem loop_list {a : Addr} {xs : List V} (Pv : Nat → L2.St → Hp → Prop) (h0 : Pv 0 σ H) (hl : ∀ i σ H, i ≤ xs.length → Pv i σ H → SqL K H a xs)
    (hs : ∀ i x σ H, xs[i]? = some x → Pv i σ H → g x σ H fun σ2 H2 => tb (Ends.mk (Pv (i + 1)) rt nx (Pv (i + 1))) σ2 H2) (hd : ∀ σ H, Pv xs.length σ H → nx σ H) : LoopOk (Itl K a) g tb nx rt σ H :=
  for_list (D := Ends.mk nx rt nx nx) Pv h0 hl hs hd
/-- over a list of ints -/
theorem loop_ints {a : Addr} {ns : List Int} (Pv : Nat → L2.St → Hp → Prop) (h0 : Pv 0 σ H) (hl : ∀ i σ H, Pv i σ H → SqL K H a (ns.map V.int))
    (hs : ∀ i n σ H, ns[i]? = some n → Pv i σ H → g (.int n) σ H fun σ2 H2 => tb (Ends.mk (Pv (i + 1)) rt nx (Pv (i + 1))) σ2 H2) (hd : ∀ σ H, Pv ns.length σ H → nx σ H) : LoopOk (Itl K a) g tb nx rt σ H :=
  loop_list (xs := ns.map V.int) Pv h0 (fun i σ H _ p => hl i σ H p) (fun i x σ H hx p => by
    obtain ⟨n, hn, rfl⟩ := of_mapint hx
    exact hs i n σ H hn p) (fun σ H p => hd σ H (by rw [List.length_map] at p; exact p))
theorem loop_tup {a : Addr} {xs : List V} (Pv : Nat → L2.St → Hp → Prop) (h0 : Pv 0 σ H) (hl : ∀ i σ H, i ≤ xs.length → Pv i σ H → SqT K H a xs)
    (hs : ∀ i x σ H, xs[i]? = some x → Pv i σ H → g x σ H fun σ2 H2 => tb (Ends.mk (Pv (i + 1)) rt nx (Pv (i + 1))) σ2 H2) (hd : ∀ σ H, Pv xs.length σ H → nx σ H) : LoopOk (Itt K a) g tb nx rt σ H :=
  for_tup (D := Ends.mk nx rt nx nx) Pv h0 hl hs hd
def WBody (W : Nat → L2.St → Hp → Prop) (m : Nat) (tb : TS) (rt : VK) (nx : L2.St → Hp → Prop) (σ : L2.St) (H : Hp) : Prop :=
  ∃ N : L2.St → Hp → Prop, (∀ σ' H', N σ' H' → ∃ m', m' < m ∧ W m' σ' H') ∧ tb (Ends.mk N rt nx N) σ H
theorem m_wbody {W : Nat → L2.St → Hp → Prop} {m : Nat} (h : tb (Ends.mk (fun σ' H' => ∃ m', m' < m ∧ W m' σ' H') rt nx (fun σ' H' => ∃ m', m' < m ∧ W m' σ' H')) σ H) : WBody W m tb rt nx σ H := ⟨_, fun _ _ h => h, h⟩
theorem loop_while (W : Nat → L2.St → Hp → Prop) (m : Nat) (h0 : W m σ H)
    (hs : ∀ m σ H, W m σ H → c σ H fun b H1 => if b = true then WBody W m tb rt nx σ H1 else nx σ H1) : tWhile c tb (Ends.mk nx rt bk ct) σ H := ⟨W, ⟨m, h0⟩, hs⟩
/-- a comprehension over what J yields -/
def CompOk (J : It) (g : TG) (tt : TT) (te : TE) (vs : List Nat) (σ : L2.St) (H1 : Hp) (Q : VK) : Prop :=
  ∀ D, H1 D = none → ∃ W : Nat → Nat → Hp → Prop, (∃ m, W 0 m (upd H1 D (.lst []))) ∧ ∀ i m H, W i m H →
  (J.stop i H ∧ Q (.ref D) H) ∨ (J.go i H ∧ ∃ Nx : Hp → Prop, (∀ H', Nx H' → ∃ m', m' < m ∧ W (i + 1) m' H') ∧ ∀ x H', J.yld i H x H' → g x (wipe σ vs) H' fun σ2 H2 => wipe σ2 vs = wipe σ vs ∧ tt σ2 H2 fun b H3 =>
    if b = true then te σ2 H3 fun y H4 => ∃ acc, H4 D = some (.lst acc) ∧ acc.length < sizeLine ∧ Nx (upd H4 D (.lst (acc ++ [y]))) else Nx H3)
theorem m_lc {tt : TT} {te : TE} {vs : List Nat} (h : wi σ H fun J H1 => CompOk J g tt te vs σ H1 Q) : tLc wi g tt te vs σ H Q := h
/-- over a range, no test, pure elements f i: the list made -/
theorem comp_rangeV {n : Nat} {te : TE} {j : Nat} {f : Nat → V} (hn : n ≤ 100000)
    (he : ∀ (k : Nat) (H2 : Hp) (Q2 : VK), k < n → Same H H2 → (∀ H3, Same H2 H3 → Q2 (f k) H3) → te ((wipe σ [j]).set j (some (.int (k : Int)))) H2 Q2)
    (q : ∀ p H', H p = none → Same H H' → H' p = some (.lst ((List.range n).map f)) → Q (.ref p) H') (hw : ∀ x, wipe ((wipe σ [j]).set j (some x)) [j] = wipe σ [j] := by intro _; rfl) : CompOk (Itr 0 n) (gName j) tYes te [j] σ H Q := by
  intro Dl hD
  refine lc_range (lo := 0) (n := n) (fun i H' => Same H H' ∧ H' Dl = some (.lst ((List.range i).map f))) ⟨same_new hD, upd_same⟩ (fun i H' hi p => ?_) (fun H' p => q Dl H' hD p.1 p.2)
  obtain ⟨p1, p2⟩ := p
  refine ⟨hw _, ?_⟩
  refine k_yes (iteT ?_)
  rw [Int.zero_add]
  refine he i H' _ hi p1 (fun H3 s3 => ⟨_, s3 _ _ p2, ?_, Same.mut (p1.trans s3) hD, ?_⟩)
  · rw [List.length_map, List.length_range]; exact Nat.lt_of_lt_of_le (Nat.lt_of_lt_of_le hi hn) (by decide)
  · rw [upd_same, List.range_succ, List.map_append]; rfl
/-- over a list, no test, pure elements -/
theorem comp_listV {a : Addr} {xs ys : List V} {te : TE} {j : Nat} (hl : SqL K H a xs) (hn : xs.length ≤ 100000) (hy : ys.length = xs.length)
    (he : ∀ (k : Nat) (x y : V) (H2 : Hp) (Q2 : VK), xs[k]? = some x → ys[k]? = some y → Same H H2 → (∀ H3, Same H2 H3 → Q2 y H3) → te ((wipe σ [j]).set j (some x)) H2 Q2)
    (q : ∀ p H', H p = none → Same H H' → H' p = some (.lst ys) → Q (.ref p) H') (hw : ∀ x, wipe ((wipe σ [j]).set j (some x)) [j] = wipe σ [j] := by intro _; rfl) : CompOk (Itl K a) (gName j) tYes te [j] σ H Q := by
  intro Dl hD
  refine lc_list (xs := xs) (fun i H' => Same H H' ∧ H' Dl = some (.lst (ys.take i))) ⟨same_new hD, upd_same⟩ (fun i H' _ p => p.1.seq hl) (fun i x H' hi p => ?_) (fun H' p => q Dl H' hD p.1 (by rw [p.2, ← hy, List.take_length]))
  obtain ⟨p1, p2⟩ := p
  refine ⟨hw _, ?_⟩
  refine k_yes (iteT ?_)
  have hlt : i < xs.length := (List.getElem?_eq_some_iff.mp hi).1
  obtain ⟨y, ey⟩ : ∃ y, ys[i]? = some y := ⟨ys[i]'(by omega), List.getElem?_eq_getElem (by omega)⟩
  refine he i x y H' _ hi ey p1 (fun H3 s3 => ⟨_, s3 _ _ p2, ?_, Same.mut (p1.trans s3) hD, ?_⟩)
  · rw [List.length_take]; exact Nat.lt_of_le_of_lt (Nat.min_le_right _ _) (Nat.lt_of_lt_of_le (show ys.length < 100001 by omega) (by decide))
  · rw [upd_same, List.take_add_one, ey]; rfl
end
/-! ### loops over any walk -/
section
variable {σ : L2.St} {H : Hp} {Q rt : VK} {nx bk ct : L2.St → Hp → Prop} {t u tb : TS} {g : TG} {i : Nat} {x : V} {K : PySem.W.Frag} {J : It} {n : Nat} {G : Hp → Prop} {Y : Nat → Hp → V → Hp → Prop}
theorem loop_walk (w : Walk J n G Y) (Pv : Nat → L2.St → Hp → Prop) (h0 : Pv 0 σ H) (hG : ∀ i σ H, Pv i σ H → G H)
    (hs : ∀ i x σ H H', i < n → Pv i σ H → Y i H x H' → g x σ H' fun σ2 H2 => tb (Ends.mk (Pv (i + 1)) rt nx (Pv (i + 1))) σ2 H2) (hd : ∀ σ H, Pv n σ H → nx σ H) : LoopOk J g tb nx rt σ H :=
  for_it (D := Ends.mk nx rt nx nx) w Pv h0 (fun i σ H _ p => hG i σ H p) hs hd
/-- a comprehension with a test: at each turn the item is dropped, or f i is kept -/
theorem comp_walkV {te : TE} {tt : TT} {j : Nat} {f : Nat → Option V} (w : Walk J n G Y) (hn : n ≤ 100000) (hG : ∀ H', Same H H' → G H')
    (he : ∀ (k : Nat) (x : V) (H1 H2 : Hp) (Qb : Bool → Hp → Prop), k < n → Same H H1 → Y k H1 x H2 → (∀ b H3, Same H1 H3 → (b = true → ∀ Q2 : VK, ∀ H4, Same H3 H4 → ∃ y, f k = some y ∧ ((∀ H5, Same H4 H5 → Q2 y H5) → te ((wipe σ [j]).set j (some x)) H4 Q2)) → (b = false → f k = none) → Qb b H3) → tt ((wipe σ [j]).set j (some x)) H2 Qb)
    (q : ∀ p H', H p = none → Same H H' → H' p = some (.lst ((List.range n).filterMap f)) → Q (.ref p) H') (hw : ∀ x, wipe ((wipe σ [j]).set j (some x)) [j] = wipe σ [j] := by intro _; rfl) : CompOk J (gName j) tt te [j] σ H Q := by
  intro Dl hD
  refine lc_it w (fun i H' => Same H H' ∧ H' Dl = some (.lst ((List.range i).filterMap f))) ⟨same_new hD, upd_same⟩ (fun i H' _ p => hG H' p.1) (fun i x H' H'' hi p hy => ?_) (fun H' p => q Dl H' hD p.1 p.2)
  obtain ⟨p1, p2⟩ := p
  refine ⟨hw _, he i x H' H'' _ hi p1 hy (fun b H3 s3 hb1 hb0 => ?_)⟩
  have hl : ((List.range i).filterMap f).length < sizeLine := Nat.lt_of_le_of_lt (List.length_filterMap_le f (List.range i)) (by rw [List.length_range]; exact Nat.lt_of_lt_of_le (Nat.lt_of_lt_of_le hi hn) (by decide))
  cases b with
  | true =>
    refine iteT ?_
    obtain ⟨y, ey, go⟩ := hb1 rfl (fun y H4 => ∃ acc, H4 Dl = some (.lst acc) ∧ acc.length < sizeLine ∧ Same H (upd H4 Dl (.lst (acc ++ [y]))) ∧ upd H4 Dl (.lst (acc ++ [y])) Dl = some (.lst ((List.range (i + 1)).filterMap f))) H3 (Same.refl _)
    refine go fun H5 s5 => ⟨_, s5 _ _ (s3 _ _ p2), hl, Same.mut ((p1.trans s3).trans s5) hD, ?_⟩
    rw [upd_same, List.range_succ, List.filterMap_append]
    show _ = some (HO.lst (_ ++ List.filterMap f [i]))
    rw [List.filterMap_cons, ey]; rfl
  | false =>
    refine iteF ⟨p1.trans s3, ?_⟩
    rw [List.range_succ, List.filterMap_append]
    rw [show List.filterMap f [i] = [] by rw [List.filterMap_cons, hb0 rfl]; rfl, List.append_nil]
    exact s3 _ _ p2
theorem k_rev {a : Addr} {xs : List V} {ta : TA} {R : It → Hp → Prop} (h : ta σ H fun vs H1 => ∃ (a : Addr) (xs : List V), vs = [.ref a] ∧ SqL K H1 a xs ∧ R (Itv K a xs.length) H1) : iRev K ta σ H R := h
def RevK (K : PySem.W.Frag) (R : It → Hp → Prop) (vs : List V) (H : Hp) : Prop := ∃ (a : Addr) (xs : List V), vs = [.ref a] ∧ SqL K H a xs ∧ R (Itv K a xs.length) H
theorem m_rev {ta : TA} {R : It → Hp → Prop} (h : ta σ H (RevK K R)) : iRev K ta σ H R := h
theorem m_revE {a : Addr} {xs : List V} {R : It → Hp → Prop} (hx : SqL K H a xs) (h : R (Itv K a xs.length) H) : RevK K R [.ref a] H := ⟨a, xs, rfl, hx, h⟩
def EnumK (K : PySem.W.Frag) (R : It → Hp → Prop) (vs : List V) (H : Hp) : Prop := ∃ (a : Addr) (xs : List V), vs = [.ref a] ∧ SqL K H a xs ∧ R (Ite K a) H
theorem m_enum {ta : TA} {R : It → Hp → Prop} (h : ta σ H (EnumK K R)) : iEnum K ta σ H R := h
theorem m_enumE {a : Addr} {xs : List V} {R : It → Hp → Prop} (hx : SqL K H a xs) (h : R (Ite K a) H) : EnumK K R [.ref a] H := ⟨a, xs, rfl, hx, h⟩
def ZipK (K : PySem.W.Frag) (R : It → Hp → Prop) (vs : List V) (H : Hp) : Prop := ∃ a b xs ys, vs = [.ref a, .ref b] ∧ SqL K H a xs ∧ SqL K H b ys ∧ R (Itz K a b) H
theorem m_zip {ta : TA} {R : It → Hp → Prop} (h : ta σ H (ZipK K R)) : iZip K ta σ H R := h
theorem m_zipE {a b : Addr} {xs ys : List V} {R : It → Hp → Prop} (hx : SqL K H a xs) (hy : SqL K H b ys) (h : R (Itz K a b) H) : ZipK K R [.ref a, .ref b] H := ⟨a, b, xs, ys, rfl, hx, hy, h⟩
def Rng3K (R : It → Hp → Prop) (vs : List V) (H : Hp) : Prop := ∃ i j c n, vs = [.int i, .int j, .int c] ∧ RgC i j c n ∧ R (Itc i c n) H
theorem m_rng3 {ta : TA} {R : It → Hp → Prop} (h : ta σ H (Rng3K R)) : iRng3 ta σ H R := h
theorem m_rng3e {R : It → Hp → Prop} {a b c : Int} {n : Nat} (h1 : RgC a b c n) (h : R (Itc a c n) H) : Rng3K R [V.int a, V.int b, V.int c] H := ⟨a, b, c, n, rfl, h1, h⟩
/-- targets that are pairs -/
def GTupK (K : PySem.W.Frag) (n : Nat) (tg : TGs) (Qs : L2.St → Hp → Prop) (x : V) (σ : L2.St) (H : Hp) : Prop := ∃ a xs, x = .ref a ∧ SqT K H a xs ∧ xs.length = n ∧ tg xs σ H Qs
theorem m_gTup {tg : TGs} {Qs : L2.St → Hp → Prop} {a : Addr} {xs : List V} (hx : SqT K H a xs) (hn : xs.length = n) (h : tg xs σ H Qs) : gTup K n tg (.ref a) σ H Qs := ⟨a, xs, rfl, hx, hn, h⟩
theorem m_gCons {t1 : TG} {ts : TGs} {Qs : L2.St → Hp → Prop} {xs : List V} (h : t1 x σ H fun σ' H' => ts xs σ' H' Qs) : gCons t1 ts (x :: xs) σ H Qs := ⟨x, xs, rfl, h⟩
theorem m_gNil {Qs : L2.St → Hp → Prop} (h : Qs σ H) : gNil [] σ H Qs := ⟨rfl, h⟩
theorem m_asg {te : TE} (h : te σ H fun x H1 => g x σ H1 nx) : tAsg te g (Ends.mk nx rt bk ct) σ H := h
theorem m_gSub {to ti : TE} {ts : TSet} {Qs : L2.St → Hp → Prop} (h : to σ H fun o H1 => ti σ H1 fun i H2 => ts o i x H2 fun H3 => Qs σ H3) : gSub to ti ts x σ H Qs := h
theorem m_setL {p : Addr} {xs : List V} {k : Int} {j : Nat} {y : V} {Qh : Hp → Prop} (h : H p = some (.lst xs)) (hj : ixN xs.length k = some j) (q : Qh (upd H p (.lst (xs.set j y)))) : rSetL (.ref p) (.int k) y H Qh := ⟨p, xs, k, j, rfl, rfl, h, hj, q⟩
theorem ixN_nat {n : Nat} {k : Int} (h0 : 0 ≤ k) (h1 : k < n) : ixN n k = some k.toNat := by
  unfold ixN; rw [if_pos h0, if_pos h1]
theorem m_par {i j : Nat} {a b : V} {ta : TA} {Qs : L2.St → Hp → Prop} (h : ta σ H fun vs H1 => ∃ v w, vs = [v, w] ∧ nx ((σ.set i (some v)).set j (some w)) H1) : tPar i j ta (Ends.mk nx rt bk ct) σ H := h
theorem k_divmod {Q : VK} {a b : Int} (h : CDivP a b) (q : ∀ p, H p = none → Q (.ref p) (upd H p (.tup [.int (a / b), .int (a % b)]))) : rDivmod [.int a, .int b] H Q := ⟨a, b, rfl, h, q⟩
theorem m_parE {i j : Nat} {a b : V} (h : nx ((σ.set i (some a)).set j (some b)) H) : ∃ v w, [a, b] = [v, w] ∧ nx ((σ.set i (some v)).set j (some w)) H := ⟨a, b, rfl, h⟩
end
/-! ### data at any depth -/
section
variable {H H' : Hp} {K : PySem.W.Frag}
theorem dpAll_ints : ∀ ns : List Int, DpAll K H (ns.map V.int) (ns.map PyData.int)
  | [] => .nil
  | n :: ns => .cons (.int n) (dpAll_ints ns)
theorem dpAll_bools : ∀ bs : List Bool, DpAll K H (bs.map V.bl) (bs.map PyData.bool)
  | [] => .nil
  | b :: bs => .cons (.bl b) (dpAll_bools bs)
theorem dp_ints {a : Addr} {ns : List Int} (h : SqL K H a (ns.map V.int)) : Dp K H (.ref a) (.list (ns.map PyData.int)) := .lst h (dpAll_ints ns)
theorem dp_intsT {a : Addr} {ns : List Int} (h : SqT K H a (ns.map V.int)) : Dp K H (.ref a) (.tuple (ns.map PyData.int)) := .tup h (dpAll_ints ns)
theorem eqvAll_ints : ∀ as bs : List Int, PyData.eqvAll (as.map PyData.int) (bs.map PyData.int) = decide (as = bs)
  | [], [] => by rw [List.map_nil]; unfold PyData.eqvAll; rfl
  | [], b :: bs => by rw [List.map_nil, List.map_cons]; unfold PyData.eqvAll; simp
  | a :: as, [] => by rw [List.map_nil, List.map_cons]; unfold PyData.eqvAll; simp
  | a :: as, b :: bs => by
    rw [List.map_cons, List.map_cons]; unfold PyData.eqvAll
    rw [eqvAll_ints as bs]
    unfold PyData.eqv
    by_cases h : a = b
    · subst h; by_cases h2 : as = bs
      · subst h2; simp
      · simp [h2]
    · simp [h]
theorem eqv_ints (as bs : List Int) : PyData.eqv (.list (as.map PyData.int)) (.list (bs.map PyData.int)) = decide (as = bs) := by
  unfold PyData.eqv; exact eqvAll_ints as bs
theorem eqv_intsT (as bs : List Int) : PyData.eqv (.tuple (as.map PyData.int)) (.tuple (bs.map PyData.int)) = decide (as = bs) := by
  unfold PyData.eqv; exact eqvAll_ints as bs
/-- laid: no dict, texts in order, at most so deep -/
def laid (n : Nat) (d : PyData) : Prop := d.canLay0 = true ∧ d.depth ≤ n
theorem laid_int {n : Nat} (i : Int) : laid n (.int i) := ⟨by simp [PyData.canLay0], by simp [PyData.depth]⟩
theorem laid_bool {n : Nat} (i : Bool) : laid n (.bool i) := ⟨by simp [PyData.canLay0], by simp [PyData.depth]⟩
theorem laid_none {n : Nat} : laid n .none := ⟨by simp [PyData.canLay0], by simp [PyData.depth]⟩
theorem laid_all {n : Nat} : ∀ ds : List PyData, (∀ d ∈ ds, laid n d) → PyData.canLayAll0 ds = true ∧ PyData.depthAll ds ≤ n
  | [], _ => ⟨by simp [PyData.canLayAll0], by simp [PyData.depthAll]⟩
  | d :: ds, h => by
    obtain ⟨h1, h2⟩ := h d List.mem_cons_self
    obtain ⟨h3, h4⟩ := laid_all ds fun x hx => h x (List.mem_cons_of_mem _ hx)
    exact ⟨by simp [PyData.canLayAll0, h1, h3], by simp only [PyData.depthAll]; omega⟩
theorem laid_list {n : Nat} {ds : List PyData} (h : ∀ d ∈ ds, laid n d) : laid (n + 1) (.list ds) := by
  obtain ⟨h1, h2⟩ := laid_all ds h
  exact ⟨by simp [PyData.canLay0, h1], by simp only [PyData.depth]; omega⟩
theorem laid_tup {n : Nat} {ds : List PyData} (h : ∀ d ∈ ds, laid n d) : laid (n + 1) (.tuple ds) := by
  obtain ⟨h1, h2⟩ := laid_all ds h
  exact ⟨by simp [PyData.canLay0, h1], by simp only [PyData.depth]; omega⟩
theorem laid_ints {n : Nat} (ns : List Int) : laid (n + 1) (.list (ns.map PyData.int)) := laid_list fun d hd => by
  obtain ⟨i, _, rfl⟩ := List.mem_map.mp hd
  exact laid_int i
theorem laid_intsT {n : Nat} (ns : List Int) : laid (n + 1) (.tuple (ns.map PyData.int)) := laid_tup fun d hd => by
  obtain ⟨i, _, rfl⟩ := List.mem_map.mp hd
  exact laid_int i
theorem laid_bools {n : Nat} (bs : List Bool) : laid (n + 1) (.list (bs.map PyData.bool)) := laid_list fun d hd => by
  obtain ⟨i, _, rfl⟩ := List.mem_map.mp hd
  exact laid_bool i
theorem laid_shaped {d : PyData} (h : laid 64 d) : SeqAt.shaped d = true := by
  obtain ⟨h1, h2⟩ := h
  unfold SeqAt.shaped
  rw [h1, decide_eq_true h2]; rfl
theorem k_eqD {Q : VK} {x y : V} {d e : PyData} (h1 : Dp K H x d) (h2 : Dp K H y e) (l1 : laid 64 d) (l2 : laid 64 e) (q : Q (.bl (PyData.eqv d e)) H) : rEqD K x y H Q :=
  ⟨d, e, h1, h2, laid_shaped l1, laid_shaped l2, q⟩
theorem k_neD {Q : VK} {x y : V} {d e : PyData} (h1 : Dp K H x d) (h2 : Dp K H y e) (l1 : laid 64 d) (l2 : laid 64 e) (q : Q (.bl (!PyData.eqv d e)) H) : rNeD K x y H Q :=
  ⟨d, e, h1, h2, laid_shaped l1, laid_shaped l2, q⟩
theorem k_eqL {Q : VK} {a b : Addr} {ns ms : List Int} (h1 : SqL K H a (ns.map V.int)) (h2 : SqL K H b (ms.map V.int)) (q : Q (.bl (decide (ns = ms))) H) : rEqD K (.ref a) (.ref b) H Q :=
  k_eqD (dp_ints h1) (dp_ints h2) (laid_ints ns) (laid_ints ms) (by rw [eqv_ints]; exact q)
theorem k_neL {Q : VK} {a b : Addr} {ns ms : List Int} (h1 : SqL K H a (ns.map V.int)) (h2 : SqL K H b (ms.map V.int)) (q : Q (.bl (!decide (ns = ms))) H) : rNeD K (.ref a) (.ref b) H Q :=
  k_neD (dp_ints h1) (dp_ints h2) (laid_ints ns) (laid_ints ms) (by rw [eqv_ints]; exact q)
end
end Tw
open PySem PySem.Spec PyProof.Rows L2 Tw
set_option hygiene false in
local macro_rules | `(tactic| walk_at "s1") => `(tactic| first
  | with_reducible refine m_seq ?_
  | with_reducible refine k_asg ?_
  | with_reducible refine m_asg ?_
  | ((with_reducible refine' k_var ?kv ?_); case kv => walk_at "look")
  | with_reducible refine k_c ?_
  | with_reducible refine k_op ?_
  | with_reducible refine k_I0 ?_
  | ((with_reducible refine k_I ?kv ?_); case kv => walk_at "cond")
  | with_reducible refine k_and1 ?_
  | with_reducible refine k_eqI ?_
  | with_reducible refine k_neI ?_
  | ((with_reducible refine k_eq ?kv ?_); case kv => exact rfl)
  | ((with_reducible refine k_ne ?kv ?_); case kv => exact rfl)
  | with_reducible refine k_isN ?_
  | with_reducible refine k_notN ?_
  | with_reducible refine k_nx ?_
  | with_reducible refine k_rt ?_
  | with_reducible refine m_next ?_
  | with_reducible refine m_bk ?_
  | with_reducible refine m_ct ?_
  | with_reducible refine k_if ?_
  | with_reducible refine k_test ?_
  | with_reducible refine k_tB ?_
  | with_reducible refine k_bl ?_
  | with_reducible refine k_not ?_
  | with_reducible refine k_and ?_
  | with_reducible refine k_or ?_
  | with_reducible refine k_andV ?_
  | with_reducible refine k_orV ?_
  | with_reducible refine k_notV ?_
  | with_reducible refine k_ifE ?_
  | with_reducible refine k_ret ?_
  | with_reducible refine k_retN ?_
  | with_reducible refine k_drop ?_
  | with_reducible refine k_cons ?_
  | with_reducible refine k_nil ?_
  | with_reducible refine m_call ?_
  | with_reducible refine k_cb ?_
  | with_reducible refine k_tup ?_
  | with_reducible refine k_lst ?_
  | ((with_reducible refine' k_aug ?kv ?_); case kv => exact rfl)
  | with_reducible refine k_ipI ?_
  | with_reducible refine k_un ?_
  | with_reducible refine k_U ?_
  | with_reducible refine k_sl ?_
  | with_reducible refine k_part ?_
  | with_reducible refine k_noPart ?_
  | with_reducible refine k_partE ?_
  | with_reducible refine k_bm ?_
  | with_reducible refine k_bm0 ?_
  | with_reducible refine k_isInt ?_
  | with_reducible refine k_isBool ?_
  | with_reducible refine k_min2 ?_
  | with_reducible refine k_max2 ?_
  | with_reducible refine m_gName ?_
  | with_reducible refine m_for ?_
  | with_reducible refine m_rng1 ?_
  | ((with_reducible refine m_rng1n ?kv ?_); case kv => walk_at "arith")
  | ((with_reducible refine m_rng1e ?kv ?_); case kv => walk_at "arith")
  | with_reducible refine m_rng2 ?_
  | ((with_reducible refine m_rng2e ?kv ?_); case kv => walk_at "arith")
  | with_reducible refine m_iL ?_
  | with_reducible refine m_iT ?_
  | with_reducible refine m_lc ?_
  | with_reducible refine m_rev ?_
  | with_reducible refine m_enum ?_
  | with_reducible refine m_zip ?_
  | with_reducible refine m_rng3 ?_
  | with_reducible refine m_gCons ?_
  | with_reducible refine m_gNil ?_
  | with_reducible refine m_gSub ?_
  | with_reducible refine m_par ?_
  | with_reducible refine m_parE ?_
  | with_reducible refine m_wbody ?_
  | with_reducible refine k_yes ?_
  | with_reducible refine k_T ?_
  | with_reducible refine k_F ?_
  | with_reducible refine k_nT ?_
  | with_reducible refine k_nF ?_)
local macro_rules | `(tactic| walk_at "cond") => `(tactic| first | exact ⟨by decide, by decide⟩ | omega | decide | exact ⟨by omega, by omega⟩ | exact ⟨by omega, by omega, by decide⟩ | exact Or.inr (by omega) | exact Or.inr (by decide) | exact Or.inl (by omega) | exact Or.inl (by decide) | assumption)
local macro_rules | `(tactic| walk_at "st") => `(tactic| repeat (walk_at "s1"))
local macro_rules | `(tactic| walk_at "look") => `(tactic| first | exact rfl | (simp only [List.getElem?_set, List.getElem?_cons_zero, List.getElem?_cons_succ]; exact rfl))
local macro_rules | `(tactic| walk_at "if") => `(tactic| first | with_reducible apply k_dec | with_reducible apply k_ndec)
local macro_rules | `(tactic| walk_at "arith") => `(tactic| first | decide | omega | (simp only [List.length_map, List.length_take, List.length_drop, List.length_append, List.length_cons, List.length_nil] at *; first | omega | (split <;> omega) | (split <;> split <;> omega)))
namespace Tw
/-! ### octets -/
/-- the octets of n, so many -/
def octs (n : Int) (m : Nat) : List Int := (List.range m).map fun i => n / 256 ^ i % 256
/-- the number that octets write -/
def num : List Int → Int
  | [] => 0
  | o :: os => o + 256 * num os
def Octs (ns : List Int) : Prop := ∀ n ∈ ns, 0 ≤ n ∧ n < 256
theorem octs_len (n : Int) (m : Nat) : (octs n m).length = m := by unfold octs; rw [List.length_map, List.length_range]
theorem octs_oct (n : Int) (m : Nat) : Octs (octs n m) := by
  intro x hx
  obtain ⟨i, _, rfl⟩ := List.mem_map.mp hx
  omega
theorem octs_cons (n : Int) (m : Nat) : octs n (m + 1) = n % 256 :: octs (n / 256) m := by
  unfold octs
  rw [List.range_succ_eq_map, List.map_cons, List.map_map]
  congr 1
  · simp
  · apply List.map_congr_left
    intro i _
    show n / 256 ^ (i + 1) % 256 = n / 256 / 256 ^ i % 256
    rw [Int.ediv_ediv_of_nonneg (by decide), Int.pow_succ, Int.mul_comm]
theorem pow256 (m : Nat) : (256 : Int) ^ m = 2 ^ (8 * m) := by rw [Int.pow_mul]; rfl
theorem num_octs : ∀ (m : Nat) (n : Int), 0 ≤ n → n < 256 ^ m → num (octs n m) = n
  | 0, n, h0, h1 => by
    have : n = 0 := by simp at h1; omega
    subst this; rfl
  | m + 1, n, h0, h1 => by
    rw [octs_cons]
    show n % 256 + 256 * num (octs (n / 256) m) = n
    have e : (256 : Int) ^ (m + 1) = 256 ^ m * 256 := Int.pow_succ ..
    rw [num_octs m (n / 256) (by omega) (by rw [e] at h1; exact Int.ediv_lt_of_lt_mul (by decide) h1)]
    omega
theorem num_range : ∀ ns : List Int, Octs ns → 0 ≤ num ns ∧ num ns < 256 ^ ns.length
  | [], _ => ⟨Int.le_refl _, by show (0 : Int) < 256 ^ 0; decide⟩
  | o :: os, h => by
    obtain ⟨h1, h2⟩ := num_range os fun x hx => h x (List.mem_cons_of_mem _ hx)
    obtain ⟨h3, h4⟩ := h o List.mem_cons_self
    have e : (256 : Int) ^ (os.length + 1) = 256 ^ os.length * 256 := Int.pow_succ ..
    show 0 ≤ o + 256 * num os ∧ o + 256 * num os < 256 ^ (os.length + 1)
    omega
theorem num_snoc : ∀ (ns : List Int) (o : Int), num (ns ++ [o]) = num ns + o * 256 ^ ns.length
  | [], o => by show o + 256 * 0 = 0 + o * 256 ^ 0; simp
  | n :: ns, o => by
    show n + 256 * num (ns ++ [o]) = n + 256 * num ns + o * 256 ^ (ns.length + 1)
    rw [num_snoc ns o, Int.pow_succ, Int.mul_add, ← Int.mul_assoc 256 o, Int.mul_comm 256 o, Int.mul_assoc o, Int.mul_comm 256 (256 ^ ns.length), Int.add_assoc]
theorem octs_snoc (n : Int) (m : Nat) : octs n (m + 1) = octs n m ++ [n / 256 ^ m % 256] := by
  unfold octs; rw [List.range_succ, List.map_append]; rfl
theorem natAbs_lt_of {n : Int} {k : Nat} (h0 : 0 ≤ n) (h : n < 2 ^ k) : n.natAbs < 2 ^ k := by
  have e : ((n.natAbs : Nat) : Int) = n := Int.natAbs_of_nonneg h0
  have : ((n.natAbs : Nat) : Int) < ((2 ^ k : Nat) : Int) := by rw [e]; push_cast; exact h
  exact_mod_cast this

/-- octets_of(n, m): a new list -/
def sp_octets_of (_ : PySem.W.Frag) : Sp := fun vs H Q _ => ∃ (n : Int) (m : Nat), vs = [.int n, .int (m : Int)] ∧ m ≤ 1000 ∧ 0 ≤ n ∧ n < 2 ^ 4000 ∧
  ∀ p H', H p = none → Same H H' → H' p = some (.lst ((octs n m).map V.int)) → Q (.ref p) H'
theorem len_octets_of (K : PySem.W.Frag) : ∀ vs H Q E, sp_octets_of K vs H Q E → vs.length = 2 := by
  rintro vs H Q E ⟨x, y, rfl, _⟩; rfl
theorem divp256 {n : Int} (h0 : 0 ≤ n) (h : n < 2 ^ 4000) : CDivP n 256 := by
  refine divp_ok (by decide) ?_
  have e : Builtin.Int.intBits 256 = 9 := by decide
  rw [e]
  have := intBits_le (natAbs_lt_of h0 h)
  omega
def t_octets_of (K : PySem.W.Frag) : TS :=
  (tSeq (tAsg (tLst tNil) (gName 2))
  (tSeq (tWhile (tTest (tOp rLt (tCB (rLen K) (tCons (tVar 2) tNil)) (tVar 1)))
  (tSeq (tAsg (tCB rDivmod (tCons (tVar 0) (tCons (tC (.int 256)) tNil))) (gTup K 2 (gCons (gName 0) (gCons (gName 3) gNil))))
  (tDrop (tBM K "list" rAppend (tVar 2) (tCons (tVar 3) tNil)))))
  (tRet (tVar 2))))
abbrev n_octets_of : List Str := ["number", "many", "octets", "octet"]

theorem rd_octets_of (K : PySem.W.Frag) (vs : List V) (H : Hp) (Q : VK) (E : XK) (h : sp_octets_of K vs H Q E) : t_octets_of K { nx := fun _ H' => Q .non H', rt := Q } (start n_octets_of vs) H := by
  obtain ⟨n, m, rfl, hm, h0, h1, q⟩ := h
  unfold t_octets_of
  walk_at "st"
  refine ⟨by decide, fun p hp => ?_⟩
  walk_at "st"
  refine loop_while (fun k σ H' => ∃ (i : Nat) (x : Option V), i + k = m ∧ σ = [some (.int (n / 256 ^ i)), some (.int (m : Int)), some (.ref p), x] ∧ Same H H' ∧ H' p = some (.lst ((octs n i).map V.int))) m ⟨0, none, by omega, ?_, same_new hp, ?_⟩ ?_
  · rw [show n / 256 ^ 0 = n by simp]; rfl
  · rw [upd_same]; rfl
  · rintro k σ H' ⟨i, x, ek, rfl, s, e⟩
    walk_at "st"
    refine k_lenL (.of e) ?_
    walk_at "st"
    rw [List.length_map, octs_len]
    walk_at "if" <;> intro c
    · have hi : i < m := by omega
      walk_at "st"
      have g0 : 0 ≤ n / 256 ^ i := Int.ediv_nonneg h0 (Int.pow_nonneg (by decide))
      have g1 : n / 256 ^ i < 2 ^ 4000 := Int.lt_of_le_of_lt (Int.ediv_le_self _ h0) h1
      refine k_divmod (divp256 g0 g1) fun t ht => ?_
      walk_at "st"
      refine m_gTup (.of upd_same) rfl ?_
      walk_at "st"
      have npt : p ≠ t := ne_of_none e ht
      have ep : (upd H' t (.tup [.int (n / 256 ^ i / 256), .int (n / 256 ^ i % 256)])) p = some (.lst ((octs n i).map V.int)) := by rw [upd_ne npt]; exact e
      refine k_tyL (.of ep) ?_
      walk_at "st"
      refine k_app ep ?_ ?_
      · rw [List.length_map, octs_len]; omega
      · walk_at "st"
        refine ⟨k - 1, by omega, i + 1, some (.int (n / 256 ^ i % 256)), by omega, ?_, Same.mut (s.trans (same_new ht)) hp, ?_⟩
        · rw [show n / 256 ^ (i + 1) = n / 256 ^ i / 256 by rw [Int.pow_succ, Int.ediv_ediv_of_nonneg (Int.pow_nonneg (by decide))]]; rfl
        · rw [upd_same, octs_snoc, List.map_append]; rfl
    · have hi : i = m := by omega
      subst hi
      walk_at "st"
      exact q p H' hp s e

/-- number_of(octets) -/
def sp_number_of (K : PySem.W.Frag) : Sp := fun vs H Q _ => ∃ (a : Addr) (ns : List Int), vs = [.ref a] ∧ SqL K H a (ns.map V.int) ∧ ns.length ≤ 100000 ∧ Octs ns ∧ Q (.int (num ns)) H
theorem len_number_of (K : PySem.W.Frag) : ∀ vs H Q E, sp_number_of K vs H Q E → vs.length = 1 := by
  rintro vs H Q E ⟨x, y, rfl, _⟩; rfl
def t_number_of (K : PySem.W.Frag) : TS :=
  (tSeq (tAsg (tC (.int 0)) (gName 1))
  (tSeq (tFor (iRev K (tCons (tVar 0) tNil)) (gName 2)
  (tAsg (tOp rBitOr (tOp rShlW (tVar 1) (tC (.int 8))) (tVar 2)) (gName 1)))
  (tRet (tVar 1))))
abbrev n_number_of : List Str := ["octets", "number", "octet"]

theorem rd_number_of (K : PySem.W.Frag) (vs : List V) (H : Hp) (Q : VK) (E : XK) (h : sp_number_of K vs H Q E) : t_number_of K { nx := fun _ H' => Q .non H', rt := Q } (start n_number_of vs) H := by
  obtain ⟨a, ns, rfl, hS, hl, ho, q⟩ := h
  unfold t_number_of
  walk_at "st"
  refine m_revE hS ?_
  refine loop_walk walk_rev (fun i σ H' => ∃ y, σ = [some (.ref a), some (.int (num (ns.drop (ns.length - i)))), y] ∧ H' = H) ⟨none, ?_, rfl⟩ (fun i σ H' ⟨_, _, e⟩ => e ▸ hS) ?_ ?_
  · rw [Nat.sub_zero, List.drop_length]; rfl
  · rintro i x σ H' H'' hi ⟨y, rfl, rfl⟩ ⟨rfl, hx⟩
    rw [List.length_map] at hi hx
    obtain ⟨n, hn, rfl⟩ := of_mapint hx
    have hlt : ns.length - 1 - i < ns.length := by omega
    have hdrop : ns.drop (ns.length - (i + 1)) = n :: ns.drop (ns.length - i) := by
      rw [show ns.length - (i + 1) = ns.length - 1 - i by omega, List.drop_eq_getElem_cons hlt, show ns.length - 1 - i + 1 = ns.length - i by omega]
      rw [List.getElem?_eq_getElem hlt] at hn
      rw [Option.some.inj hn]
    have hsub : Octs (ns.drop (ns.length - i)) := fun z hz => ho z (List.mem_of_mem_drop hz)
    obtain ⟨r0, r1⟩ := num_range _ hsub
    have hb : 0 ≤ n ∧ n < 256 := ho n (List.mem_of_getElem? hn)
    have hc : CShl (num (ns.drop (ns.length - i))) 8 := by
      refine shl_ok (j := 8) (n := 8 * (ns.drop (ns.length - i)).length) (natAbs_lt_of r0 ?_) ?_
      · rw [← pow256]; exact r1
      · rw [List.length_drop]; omega
    walk_at "st"
    refine ⟨some (.int n), ?_, rfl⟩
    rw [hdrop]
    have e : Builtin.bitOr (num (ns.drop (ns.length - i)) * 2 ^ (8 : Int).toNat) n = num (n :: ns.drop (ns.length - i)) := by
      rw [show (8 : Int).toNat = 8 from rfl, or_low r0 hb.1 (by omega)]
      show _ = n + 256 * num (ns.drop (ns.length - i))
      omega
    rw [← e]; rfl
  · rintro σ H' ⟨y, rfl, rfl⟩
    rw [List.length_map, Nat.sub_self, List.drop_zero]
    walk_at "st"
    exact q

/-- _law_cell_at(script, k) -/
def sp_law_cell_at (K : PySem.W.Frag) : Sp := fun vs H Q _ => ∃ (a : Addr) (ns : List Int) (k : Int), vs = [.ref a, .int k] ∧ SqL K H a (ns.map V.int) ∧ 0 ≤ k ∧ ∀ c : Int, c = ns.getD k.toNat 0 → Q (.int c) H
theorem len_law_cell_at (K : PySem.W.Frag) : ∀ vs H Q E, sp_law_cell_at K vs H Q E → vs.length = 2 := by
  rintro vs H Q E ⟨x, y, z, rfl, _⟩; rfl
def t_law_cell_at (K : PySem.W.Frag) : TS :=
  (tSeq (tIfS (tTest (tOp rLt (tVar 1) (tCB (rLen K) (tCons (tVar 0) tNil))))
  (tRet (tOp (rIxL K) (tVar 0) (tVar 1)))
  tNext)
  (tRet (tC (.int 0))))
abbrev n_law_cell_at : List Str := ["_law_script", "_law_k"]

theorem rd_law_cell_at (K : PySem.W.Frag) (vs : List V) (H : Hp) (Q : VK) (E : XK) (h : sp_law_cell_at K vs H Q E) : t_law_cell_at K { nx := fun _ H' => Q .non H', rt := Q } (start n_law_cell_at vs) H := by
  obtain ⟨a, ns, k, rfl, hS, hk, q⟩ := h
  unfold t_law_cell_at
  walk_at "st"
  refine k_lenL hS ?_
  walk_at "st"
  rw [List.length_map]
  walk_at "if" <;> intro c
  · walk_at "st"
    have hlt : k.toNat < ns.length := by omega
    refine k_ixL hS (at_int hk (mapint (List.getElem?_eq_getElem hlt))) ?_
    walk_at "st"
    exact q _ (by rw [List.getD_eq_getElem?_getD, List.getElem?_eq_getElem hlt]; rfl)
  · walk_at "st"
    exact q _ (by rw [List.getD_eq_getElem?_getD, List.getElem?_eq_none (by omega)]; rfl)
theorem call_cell_at {K : PySem.W.Frag} {H : Hp} {Q : VK} {E : XK} {a : Addr} {ns : List Int} {k : Int} (hS : SqL K H a (ns.map V.int)) (hk : 0 ≤ k) (q : ∀ c : Int, c = ns.getD k.toNat 0 → Q (.int c) H) : sp_law_cell_at K [.ref a, .int k] H Q E :=
  ⟨a, ns, k, rfl, hS, hk, q⟩

/-- _law_whole(x) -/
def sp_law_whole (_ : PySem.W.Frag) : Sp := fun vs H Q _ => ∃ x : V, vs = [x] ∧ ((∃ n : Int, x = .int n ∧ Q (.bl true) H) ∨ (x = .non ∧ Q (.bl false) H))
theorem whole_int {K : PySem.W.Frag} {H : Hp} {Q : VK} {E : XK} {n : Int} (q : Q (.bl true) H) : sp_law_whole K [.int n] H Q E := ⟨_, rfl, .inl ⟨n, rfl, q⟩⟩
theorem whole_non {K : PySem.W.Frag} {H : Hp} {Q : VK} {E : XK} (q : Q (.bl false) H) : sp_law_whole K [.non] H Q E := ⟨_, rfl, .inr ⟨rfl, q⟩⟩
theorem len_law_whole (K : PySem.W.Frag) : ∀ vs H Q E, sp_law_whole K vs H Q E → vs.length = 1 := by
  rintro vs H Q E ⟨x, rfl, _⟩; rfl
def t_law_whole (K : PySem.W.Frag) : TS :=
  (tRet (tAndV (tCB rIsB (tCons (tVar 0) (tCons (tC (.ty "int")) tNil))) (tNotV (tCB rIsB (tCons (tVar 0) (tCons (tC (.ty "bool")) tNil))))))
abbrev n_law_whole : List Str := ["_law_found"]

theorem rd_law_whole (K : PySem.W.Frag) (vs : List V) (H : Hp) (Q : VK) (E : XK) (h : sp_law_whole K vs H Q E) : t_law_whole K { nx := fun _ H' => Q .non H', rt := Q } (start n_law_whole vs) H := by
  obtain ⟨x, rfl, (⟨n, rfl, q⟩ | ⟨rfl, q⟩)⟩ := h
  · unfold t_law_whole
    walk_at "st"
    exact q
  · unfold t_law_whole
    walk_at "st"
    refine k_isIntN ?_
    walk_at "st"
    exact q

/-- _law_bound(m) -/
def sp_law_bound (_ : PySem.W.Frag) : Sp := fun vs H Q _ => ∃ m : Nat, vs = [.int (m : Int)] ∧ m ≤ 1000 ∧ Q (.int (256 ^ m)) H
theorem len_law_bound (K : PySem.W.Frag) : ∀ vs H Q E, sp_law_bound K vs H Q E → vs.length = 1 := by
  rintro vs H Q E ⟨x, rfl, _⟩; rfl
def t_law_bound (K : PySem.W.Frag) : TS :=
  (tSeq (tAsg (tC (.int 1)) (gName 1))
  (tSeq (tFor (iRng1 (tCons (tVar 0) tNil)) (gName 2)
  (tAsg (tOp rTimes (tC (.int 256)) (tVar 1)) (gName 1)))
  (tRet (tVar 1))))
abbrev n_law_bound : List Str := ["_law_many", "_law_bound_here", "_law_k"]

theorem rd_law_bound (K : PySem.W.Frag) (vs : List V) (H : Hp) (Q : VK) (E : XK) (h : sp_law_bound K vs H Q E) : t_law_bound K { nx := fun _ H' => Q .non H', rt := Q } (start n_law_bound vs) H := by
  obtain ⟨m, rfl, hm, q⟩ := h
  unfold t_law_bound
  walk_at "st"
  refine loop_range0 (fun i σ H' => ∃ y, σ = [some (.int (m : Int)), some (.int (256 ^ i)), y] ∧ H' = H) ⟨none, rfl, rfl⟩ ?_ ?_
  · rintro i σ H' hi ⟨y, rfl, rfl⟩
    walk_at "st"
    refine ⟨some (.int (i : Int)), ?_, rfl⟩
    rw [Int.pow_succ, Int.mul_comm]; rfl
  · rintro σ H' ⟨y, rfl, rfl⟩
    walk_at "st"
    exact q
/-- _law_comes_to(octets) -/
def sp_law_comes_to (K : PySem.W.Frag) : Sp := fun vs H Q _ => ∃ (a : Addr) (ns : List Int), vs = [.ref a] ∧ SqL K H a (ns.map V.int) ∧ Octs ns ∧ Q (.int (num ns)) H
theorem len_law_comes_to (K : PySem.W.Frag) : ∀ vs H Q E, sp_law_comes_to K vs H Q E → vs.length = 1 := by
  rintro vs H Q E ⟨x, y, rfl, _⟩; rfl
def t_law_comes_to (K : PySem.W.Frag) : TS :=
  (tSeq (tAsg (tC (.int 0)) (gName 1))
  (tSeq (tAsg (tC (.int 1)) (gName 2))
  (tSeq (tFor (iList K (tVar 0)) (gName 3)
  (tSeq (tAsg (tOp rPlus (tVar 1) (tOp rTimes (tVar 3) (tVar 2))) (gName 1))
  (tAsg (tOp rTimes (tC (.int 256)) (tVar 2)) (gName 2))))
  (tRet (tVar 1)))))
abbrev n_law_comes_to : List Str := ["_law_octets", "_law_total", "_law_weight", "_law_octet"]

theorem rd_law_comes_to (K : PySem.W.Frag) (vs : List V) (H : Hp) (Q : VK) (E : XK) (h : sp_law_comes_to K vs H Q E) : t_law_comes_to K { nx := fun _ H' => Q .non H', rt := Q } (start n_law_comes_to vs) H := by
  obtain ⟨a, ns, rfl, hS, ho, q⟩ := h
  unfold t_law_comes_to
  walk_at "st"
  refine m_iLe hS ?_
  refine loop_ints (ns := ns) (fun i σ H' => ∃ y, σ = [some (.ref a), some (.int (num (ns.take i))), some (.int (256 ^ i)), y] ∧ H' = H ∧ i ≤ ns.length) ⟨none, rfl, rfl, Nat.zero_le _⟩ (fun i σ H' ⟨y, _, e, _⟩ => e ▸ hS) ?_ ?_
  · rintro i n σ H' hn ⟨y, rfl, rfl, hi⟩
    have hb := ho n (List.mem_of_getElem? hn)
    have hlt : i < ns.length := (List.getElem?_eq_some_iff.mp hn).1
    walk_at "st"
    refine ⟨some (.int n), ?_, rfl, hlt⟩
    have e1 : num (ns.take (i + 1)) = num (ns.take i) + n * 256 ^ i := by
      rw [List.take_add_one, hn]
      show num (ns.take i ++ [n]) = _
      rw [num_snoc, List.length_take, Nat.min_eq_left hi]
    rw [e1, Int.pow_succ, Int.mul_comm (256 ^ i) 256]; rfl
  · rintro σ H' ⟨y, rfl, rfl, _⟩
    walk_at "st"
    rw [List.take_length]
    exact q
/-- _law_good(found, number, many) -/
def sp_law_good (K : PySem.W.Frag) : Sp := fun vs H Q _ => ∃ (a : Addr) (ns : List Int), vs = [.ref a, .int (num ns), .int (ns.length : Int)] ∧ H a = some (.lst (ns.map V.int)) ∧ Octs ns ∧ Q (.bl true) H
theorem len_law_good (K : PySem.W.Frag) : ∀ vs H Q E, sp_law_good K vs H Q E → vs.length = 3 := by
  rintro vs H Q E ⟨x, y, rfl, _⟩; rfl
def t_law_good (K : PySem.W.Frag) : TS :=
  (tSeq (tIfS (tOr (tNot (tB (tCB rIsB (tCons (tVar 0) (tCons (tC (.ty "list")) tNil))))) (tTest (tOp rNe (tCB (rLen K) (tCons (tVar 0) tNil)) (tVar 2))))
  (tRet (tC (.bl false)))
  tNext)
  (tSeq (tFor (iList K (tVar 0)) (gName 3)
  (tIfS (tOr (tNot (tB (tCall (sp_law_whole K) [] E0 (tCons (tVar 3) tNil)))) (tOr (tTest (tOp rLt (tVar 3) (tC (.int 0)))) (tTest (tOp rGtI (tVar 3) (tC (.int 255))))))
  (tRet (tC (.bl false)))
  tNext))
  (tRet (tOp rEq (tCall (sp_law_comes_to K) [] E0 (tCons (tVar 0) tNil)) (tVar 1)))))
abbrev n_law_good : List Str := ["_law_found", "_law_number", "_law_many", "_law_octet"]

theorem rd_law_good (K : PySem.W.Frag) (vs : List V) (H : Hp) (Q : VK) (E : XK) (h : sp_law_good K vs H Q E) : t_law_good K { nx := fun _ H' => Q .non H', rt := Q } (start n_law_good vs) H := by
  obtain ⟨a, ns, rfl, hS, ho, q⟩ := h
  unfold t_law_good
  walk_at "st"
  refine k_isList hS ?_
  walk_at "st"
  refine k_lenL (.of hS) ?_
  walk_at "st"
  refine k_ndecT (by rw [List.length_map]) ?_
  walk_at "st"
  refine m_iLe (.of hS) ?_
  refine loop_ints (ns := ns) (fun i σ H' => ∃ y, σ = [some (.ref a), some (.int (num ns)), some (.int (ns.length : Int)), y] ∧ H' = H) ⟨none, rfl, rfl⟩ (fun i σ H' ⟨y, _, e⟩ => e ▸ .of hS) ?_ ?_
  · rintro i n σ H' hn ⟨y, rfl, rfl⟩
    have hb := ho n (List.mem_of_getElem? hn)
    walk_at "st"
    refine whole_int ?_
    walk_at "st"
    refine k_decF (by omega) ?_
    walk_at "st"
    refine k_decF (by omega) ?_
    walk_at "st"
    exact ⟨_, rfl, rfl⟩
  · rintro σ H' ⟨y, rfl, rfl⟩
    walk_at "st"
    refine ⟨a, ns, rfl, .of hS, ho, ?_⟩
    walk_at "st"
    rw [decide_eq_true rfl]
    exact q
/-- law(script) -/
def sp_law (K : PySem.W.Frag) : Sp := fun vs H Q _ => ∃ (a : Addr) (ns : List Int), vs = [.ref a] ∧ SqL K H a (ns.map V.int) ∧ ns.length ≤ 63 ∧ ∀ H', Q (.bl true) H'
theorem len_law (K : PySem.W.Frag) : ∀ vs H Q E, sp_law K vs H Q E → vs.length = 1 := by
  rintro vs H Q E ⟨x, y, rfl, _⟩; rfl

def t_law (K : PySem.W.Frag) : TS :=
  (tSeq (tFor (iRng1 (tCons (tOp rPlus (tCB rMin2 (tCons (tCB (rLen K) (tCons (tVar 0) tNil)) (tCons (tC (.int 16)) tNil))) (tC (.int 1))) tNil)) (gName 1)
  (tSeq (tAsg (tCall (sp_law_cell_at K) [] E0 (tCons (tVar 0) (tCons (tVar 1) tNil))) (gName 2))
  (tSeq (tAsg (tOp rMod (tOp rDiv (tVar 2) (tC (.int 8))) (tC (.int 34))) (gName 3))
  (Evl.tCut (tIfS (tTest (tOp rEq (tOp rMod (tVar 2) (tC (.int 8))) (tC (.int 1))))
  (tAsg (tOp rMod (tOp rDiv (tVar 2) (tC (.int 8))) (tC (.int 101))) (gName 3))
  tNext)
  (tSeq (tAsg (tCall (sp_law_bound K) [] E0 (tCons (tVar 3) tNil)) (gName 4))
  (tSeq (tAsg (tOp rMod (tOp rPlus (tOp rTimes (tCall (sp_law_cell_at K) [] E0 (tCons (tVar 0) (tCons (tOp rPlus (tVar 1) (tC (.int 1))) tNil))) (tC (.int 69621))) (tVar 2)) (tVar 4)) (gName 5))
  (Evl.tCut (tIfS (tTest (tOp rEq (tOp rMod (tVar 2) (tC (.int 8))) (tC (.int 2))))
  (tAsg (tOp rMinus (tVar 4) (tC (.int 1))) (gName 5))
  tNext)
  (Evl.tCut (tIfS (tTest (tOp rEq (tOp rMod (tVar 2) (tC (.int 8))) (tC (.int 3))))
  (tAsg (tC (.int 0)) (gName 5))
  tNext)
  (tSeq (tAsg (tCall (sp_octets_of K) [] E0 (tCons (tVar 5) (tCons (tVar 3) tNil))) (gName 6))
  (tSeq (tIfS (tNot (tB (tCall (sp_law_good K) [] E0 (tCons (tVar 6) (tCons (tVar 5) (tCons (tVar 3) tNil))))))
  (tRet (tC (.bl false)))
  tNext)
  (tSeq (tAsg (tCB (rListOf K) (tCons (tVar 6) tNil)) (gName 7))
  (tSeq (tAsg (tCall (sp_number_of K) [] E0 (tCons (tVar 6) tNil)) (gName 8))
  (tSeq (tIfS (tOr (tNot (tB (tCall (sp_law_whole K) [] E0 (tCons (tVar 8) tNil)))) (tOr (tTest (tOp rNe (tVar 8) (tVar 5))) (tTest (tOp (rNeD K) (tVar 6) (tVar 7)))))
  (tRet (tC (.bl false)))
  tNext)
  (tSeq (tDrop (tBM K "list" rAppend (tVar 6) (tCons (tC (.int 255)) tNil)))
  (tIfS (tTest (tOp (rNeD K) (tCall (sp_octets_of K) [] E0 (tCons (tVar 5) (tCons (tVar 3) tNil))) (tVar 7)))
  (tRet (tC (.bl false)))
  tNext)))))))))))))))
  (tSeq (tAsg (tLc (iList K (tSl (rSlL K) (tVar 0) tNoPart (tPart (tC (.int 100))))) (gName 2) tYes (tOp rMod (tVar 2) (tC (.int 256))) [2]) (gName 9))
  (tSeq (tAsg (tCB (rListOf K) (tCons (tVar 9) tNil)) (gName 10))
  (tSeq (tAsg (tCall (sp_number_of K) [] E0 (tCons (tVar 10) tNil)) (gName 8))
  (tRet (tAndV (tCall (sp_law_whole K) [] E0 (tCons (tVar 8) tNil)) (tAndV (tOp rEq (tVar 8) (tCall (sp_law_comes_to K) [] E0 (tCons (tVar 9) tNil))) (tOp (rEqD K) (tVar 10) (tVar 9)))))))))
abbrev n_law : List Str := ["_law_script", "_law_k", "_law_cell", "_law_many", "_law_bound_here", "_law_number", "_law_found", "_law_kept", "_law_told", "_law_octets", "_law_handed"]

theorem rd_law (K : PySem.W.Frag) (vs : List V) (H : Hp) (Q : VK) (E : XK) (h : sp_law K vs H Q E) : t_law K { nx := fun _ H' => Q .non H', rt := Q } (start n_law vs) H := by
  obtain ⟨a, ns, rfl, hS, hl, q⟩ := h
  unfold t_law
  walk_at "st"
  refine k_lenL hS ?_
  walk_at "st"
  refine loop_range0 (fun i σ H' => ∃ y1 y2 y3 y4 y5 y6 y7 y8 y9 y10, σ = [some (.ref a), y1, y2, y3, y4, y5, y6, y7, y8, y9, y10] ∧ Same H H') ⟨none, none, none, none, none, none, none, none, none, none, rfl, Same.refl _⟩ ?_ ?_
  · rintro i σ H' hi ⟨y1, y2, y3, y4, y5, y6, y7, y8, y9, y10, rfl, s⟩
    have hi : i ≤ 16 := by
      have h2 := hi
      revert h2
      split <;> omega
    walk_at "st"
    refine call_cell_at (s.seq hS) (by omega) fun c _ => ?_
    walk_at "st"
    refine m_cut (fun σ' H'' => ∃ (m : Nat), m ≤ 100 ∧ σ' = [some (.ref a), some (.int (i : Int)), some (.int c), some (.int (m : Int)), y4, y5, y6, y7, y8, y9, y10] ∧ H'' = H') ?_ ?_
    · walk_at "st"
      walk_at "if" <;> intro _
      · walk_at "st"
        refine ⟨(c / 8 % 101).toNat, by omega, ?_, rfl⟩
        rw [show (((c / 8 % 101).toNat : Nat) : Int) = c / 8 % 101 by omega]; rfl
      · walk_at "st"
        refine ⟨(c / 8 % 34).toNat, by omega, ?_, rfl⟩
        rw [show (((c / 8 % 34).toNat : Nat) : Int) = c / 8 % 34 by omega]; rfl
    rintro σ' H'' ⟨m, hm, rfl, rfl⟩
    walk_at "st"
    refine ⟨m, rfl, by omega, ?_⟩
    have pp : (0 : Int) < 256 ^ m := Int.pow_pos (by decide)
    walk_at "st"
    refine call_cell_at (s.seq hS) (by omega) fun c2 _ => ?_
    walk_at "st"
    have r0 : 0 ≤ (c2 * 69621 + c) % 256 ^ m := Int.emod_nonneg _ (by omega)
    have r1 : (c2 * 69621 + c) % 256 ^ m < 256 ^ m := Int.emod_lt_of_pos _ pp
    generalize (c2 * 69621 + c) % 256 ^ m = n at r0 r1 ⊢
    refine m_cut (fun σ' H2 => ∃ n : Int, 0 ≤ n ∧ n < 256 ^ m ∧ σ' = [some (.ref a), some (.int (i : Int)), some (.int c), some (.int (m : Int)), some (.int (256 ^ m)), some (.int n), y6, y7, y8, y9, y10] ∧ H2 = H'') ?_ ?_
    · walk_at "st"
      walk_at "if" <;> intro _
      · walk_at "st"
        exact ⟨_, by omega, by omega, rfl, rfl⟩
      · walk_at "st"
        exact ⟨_, r0, r1, rfl, rfl⟩
    rintro σ' H2 ⟨n, r0, r1, rfl, rfl⟩
    refine m_cut (fun σ' H3 => ∃ n : Int, 0 ≤ n ∧ n < 256 ^ m ∧ σ' = [some (.ref a), some (.int (i : Int)), some (.int c), some (.int (m : Int)), some (.int (256 ^ m)), some (.int n), y6, y7, y8, y9, y10] ∧ H3 = H2) ?_ ?_
    · walk_at "st"
      walk_at "if" <;> intro _
      · walk_at "st"
        exact ⟨_, Int.le_refl _, pp, rfl, rfl⟩
      · walk_at "st"
        exact ⟨_, r0, r1, rfl, rfl⟩
    rintro σ' H3 ⟨n, r0, r1, rfl, rfl⟩
    have big : n < 2 ^ 4000 := by
      refine Int.lt_of_lt_of_le r1 ?_
      rw [pow256]
      exact_mod_cast Nat.pow_le_pow_right (show 0 < 2 by decide) (show 8 * m ≤ 4000 by omega)
    walk_at "st"
    refine ⟨n, m, rfl, by omega, r0, big, fun p H4 hp s4 e4 => ?_⟩
    have hn := num_octs m n r0 r1
    have ho := octs_oct n m
    walk_at "st"
    refine ⟨p, octs n m, by rw [hn, octs_len], e4, ho, ?_⟩
    walk_at "st"
    refine k_listL (.of e4) fun l hl => ?_
    have npl : p ≠ l := ne_of_none e4 hl
    have e5 : (upd H4 l (.lst ((octs n m).map V.int))) p = some (.lst ((octs n m).map V.int)) := by rw [upd_ne npl]; exact e4
    walk_at "st"
    refine ⟨p, octs n m, rfl, .of e5, by rw [octs_len]; omega, ho, ?_⟩
    walk_at "st"
    refine whole_int ?_
    walk_at "st"
    refine k_ndecT hn ?_
    walk_at "st"
    refine k_neL (.of e5) (.of upd_same) ?_
    walk_at "st"
    refine k_ndecT rfl ?_
    walk_at "st"
    refine k_tyL (.of e5) ?_
    walk_at "st"
    refine k_app e5 (by rw [List.length_map, octs_len]; omega) ?_
    walk_at "st"
    refine ⟨n, m, rfl, by omega, r0, big, fun p2 H5 hp2 s5 e6 => ?_⟩
    walk_at "st"
    have el : H5 l = some (.lst ((octs n m).map V.int)) := by
      refine s5 _ _ ?_
      rw [upd_ne (Ne.symm npl), upd_same]
    refine k_neL (.of e6) (.of el) ?_
    walk_at "st"
    refine k_ndecT rfl ?_
    walk_at "st"
    refine ⟨_, _, _, _, _, _, _, _, _, _, rfl, ?_⟩
    exact (Same.mut ((s.trans s4).trans (same_new hl)) (s.free hp)).trans s5
  · rintro σ H' ⟨y1, y2, y3, y4, y5, y6, y7, y8, y9, y10, rfl, s⟩
    walk_at "st"
    have hS' := s.seq hS
    refine k_slL hS' fun p hp => ?_
    rw [show ((100 : Int)) = ((100 : Nat) : Int) from rfl, cutTake, List.take_of_length_le (by rw [List.length_map]; omega)]
    refine m_iLe (xs := ns.map V.int) (.of upd_same) ?_
    refine comp_listV (xs := ns.map V.int) (ys := (ns.map fun n => n % 256).map V.int) (.of upd_same) (by rw [List.length_map]; omega) (by simp) (fun k x y H2 Q2 hx hy _ q2 => ?_) (fun b H2 hb s2 e2 => ?_)
    · obtain ⟨n, hn, rfl⟩ := of_mapint hx
      rw [List.map_map, List.getElem?_map, hn] at hy
      obtain rfl := (Option.some.inj hy).symm
      walk_at "st"
      exact q2 _ (Same.refl _)
    have ho : Octs (ns.map fun n => n % 256) := by
      intro x hx
      obtain ⟨n, _, rfl⟩ := List.mem_map.mp hx
      omega
    walk_at "st"
    refine k_listL (.of e2) fun l hl => ?_
    have nbl : b ≠ l := ne_of_none e2 hl
    walk_at "st"
    refine ⟨l, _, rfl, .of upd_same, by rw [List.length_map]; omega, ho, ?_⟩
    walk_at "st"
    refine whole_int ?_
    walk_at "st"
    have eb : (upd H2 l (.lst ((ns.map fun n => n % 256).map V.int))) b = some (.lst ((ns.map fun n => n % 256).map V.int)) := by rw [upd_ne nbl]; exact e2
    refine ⟨b, _, rfl, .of eb, ho, ?_⟩
    walk_at "st"
    refine k_decT rfl ?_
    walk_at "st"
    refine k_eqL (.of upd_same) (.of eb) ?_
    walk_at "st"
    rw [decide_eq_true rfl]
    exact q _

end Tw
namespace Tw
open PySem PySem.Spec PyProof.Rows L2
/-! the text -/
def topS (i : Nat) : Stmt := PySem.Challenge.pw_thinwood_k80_numbers_as_octets.main.body.getD i (.Pass ⟨0, 0, 0, 0⟩)
abbrev s_octets_of : Stmt := topS 1
theorem sc_octets_of : FnScope n_octets_of ["number", "many"] (defScope s_octets_of) := ⟨rfl, rfl, rfl, by decide +kernel, rfl, by decide +kernel, by decide +kernel⟩

abbrev s_number_of : Stmt := topS 2
theorem sc_number_of : FnScope n_number_of ["octets"] (defScope s_number_of) := ⟨rfl, rfl, rfl, by decide +kernel, rfl, by decide +kernel, by decide +kernel⟩

abbrev s_law_cell_at : Stmt := topS 4
theorem sc_law_cell_at : FnScope n_law_cell_at ["_law_script", "_law_k"] (defScope s_law_cell_at) := ⟨rfl, rfl, rfl, by decide +kernel, rfl, by decide +kernel, by decide +kernel⟩

abbrev s_law_whole : Stmt := topS 5
theorem sc_law_whole : FnScope n_law_whole ["_law_found"] (defScope s_law_whole) := ⟨rfl, rfl, rfl, by decide +kernel, rfl, by decide +kernel, by decide +kernel⟩

abbrev s_law_bound : Stmt := topS 6
theorem sc_law_bound : FnScope n_law_bound ["_law_many"] (defScope s_law_bound) := ⟨rfl, rfl, rfl, by decide +kernel, rfl, by decide +kernel, by decide +kernel⟩

abbrev s_law_comes_to : Stmt := topS 7
theorem sc_law_comes_to : FnScope n_law_comes_to ["_law_octets"] (defScope s_law_comes_to) := ⟨rfl, rfl, rfl, by decide +kernel, rfl, by decide +kernel, by decide +kernel⟩

abbrev s_law_good : Stmt := topS 8
theorem sc_law_good : FnScope n_law_good ["_law_found", "_law_number", "_law_many"] (defScope s_law_good) := ⟨rfl, rfl, rfl, by decide +kernel, rfl, by decide +kernel, by decide +kernel⟩

abbrev s_law : Stmt := topS 9
theorem sc_law : FnScope n_law ["_law_script"] (defScope s_law) := ⟨rfl, rfl, rfl, by decide +kernel, rfl, by decide +kernel, by decide +kernel⟩

structure Tx (P : Program) (w : World) (K : PySem.W.Frag) (mg : Str → Option Value) (base : Heap) : Prop where
  d_octets_of : ∃ fd, FunD K "octets_of" "octets_of" (defArgs s_octets_of) (defBody s_octets_of) (defScope s_octets_of) [] [] (He.ga K "octets_of") fd
  g_octets_of : mg "octets_of" = some (.ref (He.ga K "octets_of"))
  d_number_of : ∃ fd, FunD K "number_of" "number_of" (defArgs s_number_of) (defBody s_number_of) (defScope s_number_of) [] [] (He.ga K "number_of") fd
  g_number_of : mg "number_of" = some (.ref (He.ga K "number_of"))
  d_law_cell_at : ∃ fd, FunD K "_law_cell_at" "_law_cell_at" (defArgs s_law_cell_at) (defBody s_law_cell_at) (defScope s_law_cell_at) [] [] (He.ga K "_law_cell_at") fd
  g_law_cell_at : mg "_law_cell_at" = some (.ref (He.ga K "_law_cell_at"))
  d_law_whole : ∃ fd, FunD K "_law_whole" "_law_whole" (defArgs s_law_whole) (defBody s_law_whole) (defScope s_law_whole) [] [] (He.ga K "_law_whole") fd
  g_law_whole : mg "_law_whole" = some (.ref (He.ga K "_law_whole"))
  d_law_bound : ∃ fd, FunD K "_law_bound" "_law_bound" (defArgs s_law_bound) (defBody s_law_bound) (defScope s_law_bound) [] [] (He.ga K "_law_bound") fd
  g_law_bound : mg "_law_bound" = some (.ref (He.ga K "_law_bound"))
  d_law_comes_to : ∃ fd, FunD K "_law_comes_to" "_law_comes_to" (defArgs s_law_comes_to) (defBody s_law_comes_to) (defScope s_law_comes_to) [] [] (He.ga K "_law_comes_to") fd
  g_law_comes_to : mg "_law_comes_to" = some (.ref (He.ga K "_law_comes_to"))
  d_law_good : ∃ fd, FunD K "_law_good" "_law_good" (defArgs s_law_good) (defBody s_law_good) (defScope s_law_good) [] [] (He.ga K "_law_good") fd
  g_law_good : mg "_law_good" = some (.ref (He.ga K "_law_good"))
  d_law : ∃ fd, FunD K "law" "law" (defArgs s_law) (defBody s_law) (defScope s_law) [] [] (He.ga K "law") fd
  g_law : mg "law" = some (.ref (He.ga K "law"))
  b_bool : mg "bool" = none
  b_divmod : mg "divmod" = none
  b_int : mg "int" = none
  b_isinstance : mg "isinstance" = none
  b_len : mg "len" = none
  b_list : mg "list" = none
  b_min : mg "min" = none
  b_range : mg "range" = none
  b_reversed : mg "reversed" = none
section
variable {P : Program} {w : World} {K : PySem.W.Frag} {mg : Str → Option Value} {base : Heap}
theorem ok_octets_of (T : Tx P w K mg base) : Okf P w K mg base CX0 1 "octets_of" ["number", "many"] (sp_octets_of K) := by
  obtain ⟨fd, FD⟩ := T.d_octets_of
  refine ⟨⟨fd, FunD.look FD, FD.bindsN fun _ _ _ _ _ _ us hl => match us, hl with | [_, _], _ => rfl, ?_⟩, FD.kp, T.g_octets_of⟩
  refine FunD.ok FD sc_octets_of (len_octets_of K) (fun cdv A outer s H vs Q E hr h => ⟨t_octets_of K, PSs.nox ?_, rd_octets_of K vs H Q E h⟩)
  exact (pss_cons (ps_set (i := 2) sc_octets_of.nd rfl (.inl rfl) (pe_lst pa_nil))
  (pss_cons (ps_while PassesOwn.never (pt_cmpR op_lt (pe_callB call_lenK (by rfl) T.b_len (by decide +kernel) (pa_cons (pv 2) pa_nil)) (pv 1) (nomark _))
  (pss_cons (ps_asg (pe_callB call_divmodW (by rfl) T.b_divmod (by decide +kernel) (pa_cons (pv 0) (pa_cons pe_int pa_nil))) (pg_tup rfl (pgs_cons (pg_name (i := 0) sc_octets_of.nd rfl (.inl rfl)) (pgs_cons (pg_name (i := 3) sc_octets_of.nd rfl (.inl rfl)) pgs_nil))))
  (pss_one (ps_expr (pe_bm PySem.F.plainAttrs_list PySem.F.slot_list_append PySem.F.type_list_append mt_append (pv 2) (pa_cons (pv 3) pa_nil))))))
  (pss_one (ps_ret (pv 2)))))

theorem ok_number_of (T : Tx P w K mg base) : Okf P w K mg base CX0 1 "number_of" ["octets"] (sp_number_of K) := by
  obtain ⟨fd, FD⟩ := T.d_number_of
  refine ⟨⟨fd, FunD.look FD, FD.bindsN fun _ _ _ _ _ _ us hl => match us, hl with | [_], _ => rfl, ?_⟩, FD.kp, T.g_number_of⟩
  refine FunD.ok FD sc_number_of (len_number_of K) (fun cdv A outer s H vs Q E hr h => ⟨t_number_of K, PSs.nox ?_, rd_number_of K vs H Q E h⟩)
  exact (pss_cons (ps_set (i := 1) sc_number_of.nd rfl (.inl rfl) pe_int)
  (pss_cons (ps_for PassesOwn.never rfl (pi_reversed (by rfl) T.b_reversed (pa_cons (pv 0) pa_nil)) (pg_name (i := 2) sc_number_of.nd rfl (.inl rfl))
  (pss_one (ps_set (i := 1) sc_number_of.nd rfl (.inl rfl) (pe_op op_or (pe_op op_shlW (pv 1) pe_int) (pv 2)))))
  (pss_one (ps_ret (pv 1)))))

theorem ok_law_cell_at (T : Tx P w K mg base) : Okf P w K mg base CX0 1 "_law_cell_at" ["_law_script", "_law_k"] (sp_law_cell_at K) := by
  obtain ⟨fd, FD⟩ := T.d_law_cell_at
  refine ⟨⟨fd, FunD.look FD, FD.bindsN fun _ _ _ _ _ _ us hl => match us, hl with | [_, _], _ => rfl, ?_⟩, FD.kp, T.g_law_cell_at⟩
  refine FunD.ok FD sc_law_cell_at (len_law_cell_at K) (fun cdv A outer s H vs Q E hr h => ⟨t_law_cell_at K, PSs.nox ?_, rd_law_cell_at K vs H Q E h⟩)
  exact (pss_cons (ps_if (pt_cmpR op_lt (pv 1) (pe_callB call_lenK (by rfl) T.b_len (by decide +kernel) (pa_cons (pv 0) pa_nil)) (nomark _))
  (pss_one (ps_ret (pe_ix ix_list (pv 0) (pv 1) (fun _ _ => rfl))))
  pss_nil)
  (pss_one (ps_ret pe_int)))

theorem ok_law_whole (T : Tx P w K mg base) : Okf P w K mg base CX0 1 "_law_whole" ["_law_found"] (sp_law_whole K) := by
  obtain ⟨fd, FD⟩ := T.d_law_whole
  refine ⟨⟨fd, FunD.look FD, FD.bindsN fun _ _ _ _ _ _ us hl => match us, hl with | [_], _ => rfl, ?_⟩, FD.kp, T.g_law_whole⟩
  refine FunD.ok FD sc_law_whole (len_law_whole K) (fun cdv A outer s H vs Q E hr h => ⟨t_law_whole K, PSs.nox ?_, rd_law_whole K vs H Q E h⟩)
  exact (pss_one (ps_ret (pe_and (pe_callB call_isB (by rfl) T.b_isinstance (by decide +kernel) (pa_cons (pv 0) (pa_cons (pe_bltn (v := .ty "int") (by rfl) T.b_int (by decide +kernel) rfl) pa_nil))) (pe_one (pe_not (pe_callB call_isB (by rfl) T.b_isinstance (by decide +kernel) (pa_cons (pv 0) (pa_cons (pe_bltn (v := .ty "bool") (by rfl) T.b_bool (by decide +kernel) rfl) pa_nil))))))))

theorem ok_law_bound (T : Tx P w K mg base) : Okf P w K mg base CX0 1 "_law_bound" ["_law_many"] (sp_law_bound K) := by
  obtain ⟨fd, FD⟩ := T.d_law_bound
  refine ⟨⟨fd, FunD.look FD, FD.bindsN fun _ _ _ _ _ _ us hl => match us, hl with | [_], _ => rfl, ?_⟩, FD.kp, T.g_law_bound⟩
  refine FunD.ok FD sc_law_bound (len_law_bound K) (fun cdv A outer s H vs Q E hr h => ⟨t_law_bound K, PSs.nox ?_, rd_law_bound K vs H Q E h⟩)
  exact (pss_cons (ps_set (i := 1) sc_law_bound.nd rfl (.inl rfl) pe_int)
  (pss_cons (ps_for PassesOwn.never rfl (pi_range1 (by rfl) T.b_range (pa_cons (pv 0) pa_nil)) (pg_name (i := 2) sc_law_bound.nd rfl (.inl rfl))
  (pss_one (ps_set (i := 1) sc_law_bound.nd rfl (.inl rfl) (pe_op op_mul pe_int (pv 1)))))
  (pss_one (ps_ret (pv 1)))))

theorem ok_law_comes_to (T : Tx P w K mg base) : Okf P w K mg base CX0 1 "_law_comes_to" ["_law_octets"] (sp_law_comes_to K) := by
  obtain ⟨fd, FD⟩ := T.d_law_comes_to
  refine ⟨⟨fd, FunD.look FD, FD.bindsN fun _ _ _ _ _ _ us hl => match us, hl with | [_], _ => rfl, ?_⟩, FD.kp, T.g_law_comes_to⟩
  refine FunD.ok FD sc_law_comes_to (len_law_comes_to K) (fun cdv A outer s H vs Q E hr h => ⟨t_law_comes_to K, PSs.nox ?_, rd_law_comes_to K vs H Q E h⟩)
  exact (pss_cons (ps_set (i := 1) sc_law_comes_to.nd rfl (.inl rfl) pe_int)
  (pss_cons (ps_set (i := 2) sc_law_comes_to.nd rfl (.inl rfl) pe_int)
  (pss_cons (ps_for PassesOwn.never rfl (pi_list (pv 0)) (pg_name (i := 3) sc_law_comes_to.nd rfl (.inl rfl))
  (pss_cons (ps_set (i := 1) sc_law_comes_to.nd rfl (.inl rfl) (pe_op op_add (pv 1) (pe_op op_mul (pv 3) (pv 2))))
  (pss_one (ps_set (i := 2) sc_law_comes_to.nd rfl (.inl rfl) (pe_op op_mul pe_int (pv 2))))))
  (pss_one (ps_ret (pv 1))))))

theorem ok_law_good (T : Tx P w K mg base) (o_law_whole : Okf P w K mg base CX0 1 "_law_whole" ["_law_found"] (sp_law_whole K)) (o_law_comes_to : Okf P w K mg base CX0 1 "_law_comes_to" ["_law_octets"] (sp_law_comes_to K)) : Okf P w K mg base CX0 2 "_law_good" ["_law_found", "_law_number", "_law_many"] (sp_law_good K) := by
  obtain ⟨fd, FD⟩ := T.d_law_good
  refine ⟨⟨fd, FunD.look FD, FD.bindsN fun _ _ _ _ _ _ us hl => match us, hl with | [_, _, _], _ => rfl, ?_⟩, FD.kp, T.g_law_good⟩
  refine FunD.ok FD sc_law_good (len_law_good K) (fun cdv A outer s H vs Q E hr h => ⟨t_law_good K, PSs.nox ?_, rd_law_good K vs H Q E h⟩)
  exact (pss_cons (ps_if (PW.pt (pw_or (pt_not (pt_val (pe_callB call_isB (by rfl) T.b_isinstance (by decide +kernel) (pa_cons (pv 0) (pa_cons (pe_bltn (v := .ty "list") (by rfl) T.b_list (by decide +kernel) rfl) pa_nil))))) (pw_or1 (pt_cmpR op_ne (pe_callB call_lenK (by rfl) T.b_len (by decide +kernel) (pa_cons (pv 0) pa_nil)) (pv 2) (nomark _)))))
  (pss_one (ps_ret pe_bl))
  pss_nil)
  (pss_cons (ps_for PassesOwn.never rfl (pi_list (pv 0)) (pg_name (i := 3) sc_law_good.nd rfl (.inl rfl))
  (pss_one (ps_if (PW.pt (pw_or (pt_not (pt_val (pe_callF o_law_whole hr (by decide) (by rfl) pass0 (pa_cons (pv 3) pa_nil)))) (pw_or (pt_cmpR op_lt (pv 3) pe_int (nomark _)) (pw_or1 (pt_cmpR op_gt (pv 3) pe_int (nomark _))))))
  (pss_one (ps_ret pe_bl))
  pss_nil)))
  (pss_one (ps_ret (pe_cmpR op_eq (pe_callF o_law_comes_to hr (by decide) (by rfl) pass0 (pa_cons (pv 0) pa_nil)) (pv 1) (nomark _))))))

theorem ok_law (T : Tx P w K mg base) (o_law_cell_at : Okf P w K mg base CX0 1 "_law_cell_at" ["_law_script", "_law_k"] (sp_law_cell_at K)) (o_law_bound : Okf P w K mg base CX0 1 "_law_bound" ["_law_many"] (sp_law_bound K)) (o_octets_of : Okf P w K mg base CX0 1 "octets_of" ["number", "many"] (sp_octets_of K)) (o_law_good : Okf P w K mg base CX0 2 "_law_good" ["_law_found", "_law_number", "_law_many"] (sp_law_good K)) (o_number_of : Okf P w K mg base CX0 1 "number_of" ["octets"] (sp_number_of K)) (o_law_whole : Okf P w K mg base CX0 1 "_law_whole" ["_law_found"] (sp_law_whole K)) (o_law_comes_to : Okf P w K mg base CX0 1 "_law_comes_to" ["_law_octets"] (sp_law_comes_to K)) : Okf P w K mg base CX0 3 "law" ["_law_script"] (sp_law K) := by
  obtain ⟨fd, FD⟩ := T.d_law
  refine ⟨⟨fd, FunD.look FD, FD.bindsN fun _ _ _ _ _ _ us hl => match us, hl with | [_], _ => rfl, ?_⟩, FD.kp, T.g_law⟩
  refine FunD.ok FD sc_law (len_law K) (fun cdv A outer s H vs Q E hr h => ⟨t_law K, PSs.nox ?_, rd_law K vs H Q E h⟩)
  exact (pss_cons (ps_for PassesOwn.never rfl (pi_range1 (by rfl) T.b_range (pa_cons (pe_op op_add (pe_callB (call_min2K rfl) (by rfl) T.b_min (by decide +kernel) (pa_cons (pe_callB call_lenK (by rfl) T.b_len (by decide +kernel) (pa_cons (pv 0) pa_nil)) (pa_cons pe_int pa_nil))) pe_int) pa_nil)) (pg_name (i := 1) sc_law.nd rfl (.inl rfl))
  (pss_cons (ps_set (i := 2) sc_law.nd rfl (.inl rfl) (pe_callF o_law_cell_at hr (by decide) (by rfl) pass0 (pa_cons (pv 0) (pa_cons (pv 1) pa_nil))))
  (pss_cons (ps_set (i := 3) sc_law.nd rfl (.inl rfl) (pe_op op_mod (pe_op op_fdiv (pv 2) pe_int) pe_int))
  (Evl.pss_cut (ps_if (pt_cmpR op_eq (pe_op op_mod (pv 2) pe_int) pe_int (nomark _))
  (pss_one (ps_set (i := 3) sc_law.nd rfl (.inl rfl) (pe_op op_mod (pe_op op_fdiv (pv 2) pe_int) pe_int)))
  pss_nil)
  (pss_cons (ps_set (i := 4) sc_law.nd rfl (.inl rfl) (pe_callF o_law_bound hr (by decide) (by rfl) pass0 (pa_cons (pv 3) pa_nil)))
  (pss_cons (ps_set (i := 5) sc_law.nd rfl (.inl rfl) (pe_op op_mod (pe_op op_add (pe_op op_mul (pe_callF o_law_cell_at hr (by decide) (by rfl) pass0 (pa_cons (pv 0) (pa_cons (pe_op op_add (pv 1) pe_int) pa_nil))) pe_int) (pv 2)) (pv 4)))
  (Evl.pss_cut (ps_if (pt_cmpR op_eq (pe_op op_mod (pv 2) pe_int) pe_int (nomark _))
  (pss_one (ps_set (i := 5) sc_law.nd rfl (.inl rfl) (pe_op op_sub (pv 4) pe_int)))
  pss_nil)
  (Evl.pss_cut (ps_if (pt_cmpR op_eq (pe_op op_mod (pv 2) pe_int) pe_int (nomark _))
  (pss_one (ps_set (i := 5) sc_law.nd rfl (.inl rfl) pe_int))
  pss_nil)
  (pss_cons (ps_set (i := 6) sc_law.nd rfl (.inl rfl) (pe_callF o_octets_of hr (by decide) (by rfl) pass0 (pa_cons (pv 5) (pa_cons (pv 3) pa_nil))))
  (pss_cons (ps_if (pt_not (pt_val (pe_callF o_law_good hr (by decide) (by rfl) pass0 (pa_cons (pv 6) (pa_cons (pv 5) (pa_cons (pv 3) pa_nil))))))
  (pss_one (ps_ret pe_bl))
  pss_nil)
  (pss_cons (ps_set (i := 7) sc_law.nd rfl (.inl rfl) (pe_callTy call_listK (by rfl) T.b_list (by decide +kernel) (pa_cons (pv 6) pa_nil)))
  (pss_cons (ps_set (i := 8) sc_law.nd rfl (.inl rfl) (pe_callF o_number_of hr (by decide) (by rfl) pass0 (pa_cons (pv 6) pa_nil)))
  (pss_cons (ps_if (PW.pt (pw_or (pt_not (pt_val (pe_callF o_law_whole hr (by decide) (by rfl) pass0 (pa_cons (pv 8) pa_nil)))) (pw_or (pt_cmpR op_ne (pv 8) (pv 5) (nomark _)) (pw_or1 (pt_cmpR (op_neD hr.units) (pv 6) (pv 7) (nomark _))))))
  (pss_one (ps_ret pe_bl))
  pss_nil)
  (pss_cons (ps_expr (pe_bm PySem.F.plainAttrs_list PySem.F.slot_list_append PySem.F.type_list_append mt_append (pv 6) (pa_cons pe_int pa_nil)))
  (pss_one (ps_if (pt_cmpR (op_neD hr.units) (pe_callF o_octets_of hr (by decide) (by rfl) pass0 (pa_cons (pv 5) (pa_cons (pv 3) pa_nil))) (pv 7) (nomark _))
  (pss_one (ps_ret pe_bl))
  pss_nil))))))))))))))))
  (pss_cons (ps_setLc (i := 9) (own := [("_law_cell", 2)]) (g := (gName 2)) (tt := tYes) rfl sc_law.nd rfl rfl (sw_true rfl rfl rfl (by decide +kernel)) (pi_list (pe_slice sl_list (pv 0) po_none (po_some pe_int))) (blkOk_by (N := ["_law_script", "_law_k", "_law_cell", "_law_many", "_law_bound_here", "_law_number", "_law_found", "_law_kept", "_law_told", "_law_octets", "_law_handed"]) (sc := defScope s_law) (own := [("_law_cell", 2)]) (by decide +kernel)) (fun _ _ _ _ _ => (pg_name (i := 2) sc_law.nd rfl (.inl rfl))) (fun _ _ _ _ _ => pts_nil) (fun _ _ _ _ _ => (pe_op op_mod (pv 2) pe_int)))
  (pss_cons (ps_set (i := 10) sc_law.nd rfl (.inl rfl) (pe_callTy call_listK (by rfl) T.b_list (by decide +kernel) (pa_cons (pv 9) pa_nil)))
  (pss_cons (ps_set (i := 8) sc_law.nd rfl (.inl rfl) (pe_callF o_number_of hr (by decide) (by rfl) pass0 (pa_cons (pv 10) pa_nil)))
  (pss_one (ps_ret (pe_and (pe_callF o_law_whole hr (by decide) (by rfl) pass0 (pa_cons (pv 8) pa_nil)) (pe_and (pe_cmpR op_eq (pv 8) (pe_callF o_law_comes_to hr (by decide) (by rfl) pass0 (pa_cons (pv 9) pa_nil)) (nomark _)) (pe_one (pe_cmpR (op_eqD hr.units) (pv 10) (pv 9) (nomark _)))))))))))
end
def dd_octets_of : He.DefD := ⟨("octets_of", none), "octets_of", "octets_of", defArgs s_octets_of, defBody s_octets_of, defScope s_octets_of, [], []⟩
def dd_number_of : He.DefD := ⟨("number_of", none), "number_of", "number_of", defArgs s_number_of, defBody s_number_of, defScope s_number_of, [], []⟩
def dd_law_cell_at : He.DefD := ⟨("_law_cell_at", none), "_law_cell_at", "_law_cell_at", defArgs s_law_cell_at, defBody s_law_cell_at, defScope s_law_cell_at, [], []⟩
def dd_law_whole : He.DefD := ⟨("_law_whole", none), "_law_whole", "_law_whole", defArgs s_law_whole, defBody s_law_whole, defScope s_law_whole, [], []⟩
def dd_law_bound : He.DefD := ⟨("_law_bound", none), "_law_bound", "_law_bound", defArgs s_law_bound, defBody s_law_bound, defScope s_law_bound, [], []⟩
def dd_law_comes_to : He.DefD := ⟨("_law_comes_to", none), "_law_comes_to", "_law_comes_to", defArgs s_law_comes_to, defBody s_law_comes_to, defScope s_law_comes_to, [], []⟩
def dd_law_good : He.DefD := ⟨("_law_good", none), "_law_good", "_law_good", defArgs s_law_good, defBody s_law_good, defScope s_law_good, [], []⟩
def dd_law : He.DefD := ⟨("law", none), "law", "law", defArgs s_law, defBody s_law, defScope s_law, [], []⟩
def fnL : List He.DefD := [dd_octets_of, dd_number_of, dd_law_cell_at, dd_law_whole, dd_law_bound, dd_law_comes_to, dd_law_good, dd_law]
def faL : List He.Fa := [.glo "octets_of", .glo "number_of", .glo "_law_cell_at", .glo "_law_whole", .glo "_law_bound", .glo "_law_comes_to", .glo "_law_good", .glo "law", .free "bool", .free "divmod", .free "int", .free "isinstance", .free "len", .free "list", .free "min", .free "range", .free "reversed"]
abbrev R : PySem.W.OpenRow := PySem.W.OpenLaw.row PySem.Challenge.rw_thinwood_k80_numbers_as_octets
abbrev hk : PySem.W.Hook := He.hookD 4 faL fnL
def ob (s : PySem.W.SharedT) : He.AlD := He.obsDG 4 faL fnL (HandSHeadRun.getT s)
theorem ob_eq (s : PySem.W.SharedT) : ob s = hk.obs s.abs := He.obsDG_eq (HandSHeadRun.getT_eq s)
def looseL : List PySem.Str := (["octets_of", "number_of", "_law_cell_at", "_law_whole", "_law_bound", "_law_comes_to", "_law_good"] : List PySem.Str)
theorem run (w : World) : HandSHeadRun.RunEq R (PySem.W.view R.prog [9]) hk ob 2000 looseL w := by
  intro os
  kernel_rfl
theorem tx_of {P : Program} {w : World} {K : PySem.W.Frag} {h : Heap} {mg : Str → Option Value} (X : K.In h) (G : h.Ns mainGlobals mg) (c : He.SaysD faL fnL K) (base : Heap) : Tx P w K mg base where
  d_octets_of := c.def_ 0 (d := dd_octets_of) rfl
  g_octets_of := He.glo_ok X G (c.fact 0 (f := .glo "octets_of") rfl)
  d_number_of := c.def_ 1 (d := dd_number_of) rfl
  g_number_of := He.glo_ok X G (c.fact 1 (f := .glo "number_of") rfl)
  d_law_cell_at := c.def_ 2 (d := dd_law_cell_at) rfl
  g_law_cell_at := He.glo_ok X G (c.fact 2 (f := .glo "_law_cell_at") rfl)
  d_law_whole := c.def_ 3 (d := dd_law_whole) rfl
  g_law_whole := He.glo_ok X G (c.fact 3 (f := .glo "_law_whole") rfl)
  d_law_bound := c.def_ 4 (d := dd_law_bound) rfl
  g_law_bound := He.glo_ok X G (c.fact 4 (f := .glo "_law_bound") rfl)
  d_law_comes_to := c.def_ 5 (d := dd_law_comes_to) rfl
  g_law_comes_to := He.glo_ok X G (c.fact 5 (f := .glo "_law_comes_to") rfl)
  d_law_good := c.def_ 6 (d := dd_law_good) rfl
  g_law_good := He.glo_ok X G (c.fact 6 (f := .glo "_law_good") rfl)
  d_law := c.def_ 7 (d := dd_law) rfl
  g_law := He.glo_ok X G (c.fact 7 (f := .glo "law") rfl)
  b_bool := He.free_ok X G (c.fact 8 (f := .free "bool") rfl)
  b_divmod := He.free_ok X G (c.fact 9 (f := .free "divmod") rfl)
  b_int := He.free_ok X G (c.fact 10 (f := .free "int") rfl)
  b_isinstance := He.free_ok X G (c.fact 11 (f := .free "isinstance") rfl)
  b_len := He.free_ok X G (c.fact 12 (f := .free "len") rfl)
  b_list := He.free_ok X G (c.fact 13 (f := .free "list") rfl)
  b_min := He.free_ok X G (c.fact 14 (f := .free "min") rfl)
  b_range := He.free_ok X G (c.fact 15 (f := .free "range") rfl)
  b_reversed := He.free_ok X G (c.fact 16 (f := .free "reversed") rfl)
theorem facts {P : Program} {w : World} {K : PySem.W.Frag} {h : Heap} {mg : Str → Option Value} (X : K.In h) (G : h.Ns mainGlobals mg) (c : He.SaysD faL fnL K) (base : Heap) :
    Okf P w K mg base CX0 3 "law" ["_law_script"] (sp_law K) := by
  have T : Tx P w K mg base := tx_of X G c base
  have o_octets_of := ok_octets_of (P := P) (w := w) T 
  have o_number_of := ok_number_of (P := P) (w := w) T 
  have o_law_cell_at := ok_law_cell_at (P := P) (w := w) T 
  have o_law_whole := ok_law_whole (P := P) (w := w) T 
  have o_law_bound := ok_law_bound (P := P) (w := w) T 
  have o_law_comes_to := ok_law_comes_to (P := P) (w := w) T 
  have o_law_good := ok_law_good (P := P) (w := w) T o_law_whole o_law_comes_to
  have o_law := ok_law (P := P) (w := w) T o_law_cell_at o_law_bound o_octets_of o_law_good o_number_of o_law_whole o_law_comes_to
  exact o_law
theorem binds_law {K : PySem.W.Frag} (c : He.SaysD faL fnL K) : ∃ fd : FuncData, FunD K "law" "law" (defArgs s_law) (defBody s_law) (defScope s_law) [] [] (He.ga K "law") fd := c.def_ 7 (d := dd_law) rfl
end Tw
open PySem PySem.W PySem.Calls PyProof.Rows
set_option maxHeartbeats 0 in
theorem PySem.Challenge.cw_thinwood_k80_numbers_as_octets_holds : PySem.Challenge.rw_thinwood_k80_numbers_as_octets.Holds := by
  w_on; o_law
  refine HandSHeadRun.head_any (r := OpenLaw.row PySem.Challenge.rw_thinwood_k80_numbers_as_octets) (q := view (OpenLaw.row PySem.Challenge.rw_thinwood_k80_numbers_as_octets).prog [9]) (H := Tw.hk) (ob := Tw.ob) (M := 2000) (loose := Tw.looseL) (d := HandSHeadRun.topDef (OpenLaw.row PySem.Challenge.rw_thinwood_k80_numbers_as_octets).prog 9) (kwd := []) Tw.ob_eq
    (by kernel_rfl) (fun s => by kernel_rfl) Tw.run (by kernel_rfl) (by kernel_rfl) (by kernel_rfl) (by rfl) (by first | assumption | decide +kernel) (by decide +kernel) ⟨rfl, rfl, rfl, rfl, rfl, by decide +kernel⟩ ?hw ?hc
  case hw => w_witness2
  case hc =>
    refine L2.walk_ofE (l := PySem.Challenge.rw_thinwood_k80_numbers_as_octets) (n := 63) (k := 3) (x := "_law_script") (CX := L2.CX0) rfl (by decide) (by kernel_rfl) ⟨rfl, by decide, by decide⟩ ?F (fun _ _ _ _ z => z)
    intro w mg fa h Y G hmg0
    obtain ⟨K, KX, c⟩ := Y
    have hmg : mg ("law" : PySem.Str) = some (.ref fa) := by
      have e : (HandSHeadRun.topDef (OpenLaw.row PySem.Challenge.rw_thinwood_k80_numbers_as_octets).prog 9).name = ("law" : PySem.Str) := by kernel_rfl
      rw [← e]
      exact hmg0
    have e : fa = He.ga K "law" := by
      have z := hmg.symm.trans (Tw.facts (P := (PySem.Challenge.rw_thinwood_k80_numbers_as_octets).prog) (w := w) KX G c h).gl
      injection z with z; injection z
    subst e
    obtain ⟨fd, FD⟩ := Tw.binds_law c
    refine ⟨K, fd, Tw.sp_law K, KX, fun s v => FunD.bindsA (ps := ["_law_script"]) FD (fun _ _ _ _ _ _ us hl => match us, hl with | [_], _ => rfl) s [v] rfl, fun H a ns hl _ hS => ⟨a, ns, rfl, hS, hl, fun _ => rfl⟩, fun base KB GB => ?_⟩
    exact Tw.okf_fn (Tw.facts KB GB c base) FD
#print axioms PySem.Challenge.cw_thinwood_k80_numbers_as_octets_holds
