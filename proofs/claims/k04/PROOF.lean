import PyProof.Rows.All
import Wide.All
import OpenK.AllK
import Wide.FinOn
import KE.KStateDown
import Lean
import HandS.ForMost
import HandS.ForExc
import HandS.Steps
import HandS.IsInst
import HandS.Wide
import HandS.WideBits
import HandS.Defaults
import HandS.Flow
import HandS.Style
import HandS.ExcIs
import HandS.TryMany
import HandS.Evl
import HandS.Walk
import HandS.Rev
import HandS.RevRange
import HandS.SortInts
import HandS.Head0
import HandS.Head1
import HandS.Head2
import HandS.HeadEnd
import HandS.HeadHook1
import HandS.HeadHook2
import PySem.Challenge.RW_thinwood_k04_nets_of_a_block
set_option Elab.async false
set_option linter.all false
set_option maxRecDepth 100000
set_option maxHeartbeats 4000000
set_option Elab.async false
set_option linter.all false
set_option maxRecDepth 100000
set_option maxHeartbeats 4000000
namespace Tw
open PySem PySem.Spec PyProof.Rows L2
/-! ### a def by its global name, and its call -/
/-- the def named x keeps the promise sp -/
structure Okf (P : Program) (w : World) (K : PySem.W.Frag) (mg : Str → Option Value) (base : Heap) (CX : CXT) (k : Nat) (x : Str) (ps : List Str) (sp : Sp) : Prop where
  ex : ∃ fd : FuncData, (∃ (oc : Value) (od : Option Addr) (osl : Array (Option Value)), K.lookup (He.ga K x) = some ⟨oc, od, .func fd, osl⟩) ∧ Binds K fd ps [] ∧ FnOk P w K mg base CX k (He.ga K x) fd ps sp
  kp : PySem.W.keepIn K (.ref (He.ga K x)) = true
  gl : mg x = some (.ref (He.ga K x))
theorem FunD.look {K : PySem.W.Frag} {x qual : Str} {params : Arguments} {body : List Stmt} {scope : Scope} {dvs : List V} {kws : List (Str × V)} {f : Addr} {fd : FuncData} (F : FunD K x qual params body scope dvs kws f fd) :
    ∃ (oc : Value) (od : Option Addr) (osl : Array (Option Value)), K.lookup f = some ⟨oc, od, .func fd, osl⟩ := by
  obtain ⟨oc, od, dV, kV, doc, pm, an, cdv, ct, osl, e, lk, _⟩ := F.ex
  exact ⟨oc, od, osl, lk⟩
section
variable {X : Cx} {CX : CXT} {k j : Nat} {ps : List Str} {sp : Sp} {E : XK} {x : Str} {p pos : Pos} {e : Expr} {es : List Expr} {t : TA}
theorem pe_callF (F : Okf X.prog X.w X.K X.mg X.base CX k x ps sp) (hr : Room j X.A) (hk : k ≤ j) (hg : Gl X x) (hx : Passes CX X E)
    (ha : PA X (e :: es) t) (hdb : (x == ("__debug__" : Str)) = false := by decide) (he : starEach (e :: es) X.env = (false, eval e X.env) :: starEach es X.env := by rfl) (hpl : (backTo pos (starEach es X.env)).any (·.1) = false := by rfl) :
    PE X (.Call (.Name x p) (e :: es) [] pos) (tCall sp [] E t) := by
  obtain ⟨fd, _, hb, ok⟩ := F.ex
  exact pe_call ok (hr.mono hk) hg F.gl F.kp hb .nil hx ha hdb he hpl
theorem pe_callF0 (F : Okf X.prog X.w X.K X.mg X.base CX k x ps sp) (hr : Room j X.A) (hk : k ≤ j) (hg : Gl X x) (hx : Passes CX X E)
    (hdb : (x == ("__debug__" : Str)) = false := by decide) : PE X (.Call (.Name x p) [] [] pos) (tCall sp [] E tNil) := by
  obtain ⟨fd, _, hb, ok⟩ := F.ex
  exact pe_call0 ok (hr.mono hk) hg F.gl F.kp hb .nil hx hdb
theorem Okf.imp {P : Program} {w : World} {K : PySem.W.Frag} {mg : Str → Option Value} {base : Heap} {sp' : Sp} (F : Okf P w K mg base CX k x ps sp)
    (h : ∀ vs H Q E, sp' vs H Q E → sp vs H Q E) : Okf P w K mg base CX k x ps sp' := by
  obtain ⟨⟨fd, lk, hb, ok⟩, kp, gl⟩ := F
  exact ⟨⟨fd, lk, hb, ok.imp h⟩, kp, gl⟩
theorem okf_fn {P : Program} {w : World} {K : PySem.W.Frag} {mg : Str → Option Value} {base : Heap} {params : Arguments} {body : List Stmt} {scope : Scope} {qual y : Str} {fd : FuncData} {dvs : List V} {kws : List (Str × V)} (F : Okf P w K mg base CX k x ps sp)
    (FD : FunD K y qual params body scope dvs kws (He.ga K x) fd) : FnOk P w K mg base CX k (He.ga K x) fd ps sp := by
  obtain ⟨⟨fd', ⟨_, _, _, lk'⟩, hb, ok⟩, kp, gl⟩ := F
  obtain ⟨_, _, _, lk⟩ := FunD.look FD
  rw [lk] at lk'
  injection lk' with e
  injection e with _ _ e
  injection e with e
  subst e
  exact ok
/-- a global int, as a constant -/
theorem pe_gint {i : Int} (h : ∃ t, X.mg x = some (.int i t)) (hg : Gl X x) (hd : (x == ("__debug__" : Str)) = false := by decide) : PE X (.Name x pos) (tC (.int i)) := by
  obtain ⟨t, h⟩ := h
  exact pe_glob hg h ⟨_, rfl⟩ hd
/-- a constant that the text reckons -/
theorem pe_cst {v : Int} {te : TE} (h : PE X e te) (hi : ∀ (σ : L2.St) (H : Hp) (Q : VK), Q (.int v) H → te σ H Q) : PE X e (tC (.int v)) :=
  ⟨fun pins s σ H Q I q => h.run pins s σ H Q I (hi σ H Q q)⟩
/-- e & 1 -/
def rAnd1 : R2 := fun x y H Q => ∃ i : Int, x = .int i ∧ y = .int 1 ∧ Q (.int (i % 2)) H
theorem op_and1 : OpR X (binaryOp .BitAnd) rAnd1 := by
  intro pins s σ H x y v u Q I rx ry h
  obtain ⟨i, rfl, rfl, q⟩ := h
  exact op_andM pins s σ H (.int i) (.int (2 ^ 1 - 1)) v u Q I rx ry ⟨i, 1, rfl, rfl, q⟩
/-- isinstance(x, T), T a built-in type's name -/
def rIsB : List V → Hp → VK → Prop := fun xs H Q => ∃ (x : V) (n : String), xs = [x, .ty n] ∧ ∃ (t : String) (b : Bool), (∀ K : PySem.W.Frag, TyX K H x (.type t)) ∧ kitB t n = some b ∧ Q (.bl b) H
theorem call_isB : CallR X (.builtin "isinstance") rIsB := by
  intro pins s σ H xs us Q I r h
  obtain ⟨x, n, rfl, t, b, ty, e, q⟩ := h
  exact call_isi pins s σ H [x, .ty n] us Q I r ⟨x, .ty n, .type t, .type n, b, rfl, .ty n, ty _, kit_ty e, q⟩
end
/-! ### names of the operators' readings -/
abbrev rPlus : R2 := rI0 fun i j => .int (i + j)
abbrev rMinus : R2 := rI0 fun i j => .int (i - j)
abbrev rTimes : R2 := rI CMul fun i j => .int (i * j)
abbrev rDiv : R2 := rI CDiv fun i j => .int (i / j)
abbrev rDivW : R2 := rI CDivW fun i j => .int (i / j)
abbrev rMod : R2 := rI (fun _ j => 0 < j) fun i j => .int (i % j)
abbrev rPow : R2 := rI CPow fun i j => .int (i ^ j.toNat)
abbrev rShl : R2 := rI CPow fun i j => .int (i * 2 ^ j.toNat)
abbrev rShr : R2 := rI (fun _ j => 0 ≤ j) fun i j => .int (i / 2 ^ j.toNat)
abbrev rBitAnd : R2 := rI0 fun i j => .int (Builtin.bitAnd i j)
abbrev rBitOr : R2 := rI0 fun i j => .int (Builtin.bitOr i j)
abbrev rBitXor : R2 := rI0 fun i j => .int (Builtin.bitXor i j)
abbrev rLt : R2 := rI0 fun i j => .bl (decide (i < j))
abbrev rLe : R2 := rI0 fun i j => .bl (decide (i ≤ j))
abbrev rGtI : R2 := rI0 fun i j => .bl (decide (j < i))
abbrev rGeI : R2 := rI0 fun i j => .bl (decide (j ≤ i))
abbrev rShlW : R2 := rI CShl fun i j => .int (i * 2 ^ j.toNat)
def rDivmod : List V → Hp → VK → Prop := fun xs H Q => ∃ i j, xs = [.int i, .int j] ∧ CDivP i j ∧ ∀ p, H p = none → Q (.ref p) (upd H p (.tup [.int (i / j), .int (i % j)]))
abbrev rNeg : V → Hp → VK → Prop := rU fun i => .int (-i)
/-! ### steps of a reading -/
section
variable {D : Ends} {σ : L2.St} {H : Hp} {Q : VK} {Qb : Bool → Hp → Prop} {ta tb te : TE} {t u v : TS} {c d : TT} {i : Nat} {x y z : V} {r : R2} {K : PySem.W.Frag}
theorem k_seq (h : t { D with nx := u D } σ H) : tSeq t u D σ H := h
theorem k_next (h : D.nx σ H) : tNext D σ H := h
theorem k_asg (h : te σ H fun x H1 => D.nx (σ.set i (some x)) H1) : tAsg te (gName i) D σ H := h
theorem k_drop (h : te σ H fun _ H1 => D.nx σ H1) : tDrop te D σ H := h
theorem k_ret (h : te σ H D.rt) : tRet te D σ H := h
theorem k_retN (h : D.rt .non H) : tRetN D σ H := h
theorem k_if (h : c σ H fun b H1 => if b = true then t D σ H1 else u D σ H1) : tIfS c t u D σ H := h
theorem k_var (h : σ[i]? = some (some x)) (q : Q x H) : tVar i σ H Q := ⟨x, h, q⟩
theorem k_c (q : Q x H) : tC x σ H Q := q
theorem k_op (h : ta σ H fun x H1 => tb σ H1 fun y H2 => r x y H2 Q) : tOp r ta tb σ H Q := h
theorem k_un {r : V → Hp → VK → Prop} (h : ta σ H fun x H1 => r x H1 Q) : tUn r ta σ H Q := h
theorem k_I0 {g : Int → Int → V} {a b : Int} (q : Q (g a b) H) : rI0 g (.int a) (.int b) H Q := ⟨a, b, rfl, rfl, q⟩
theorem k_I {C : Int → Int → Prop} {g : Int → Int → V} {a b : Int} (hc : C a b) (q : Q (g a b) H) : rI C g (.int a) (.int b) H Q := ⟨a, b, rfl, rfl, hc, q⟩
theorem k_U {g : Int → V} {a : Int} (q : Q (g a) H) : rU g (.int a) H Q := ⟨a, rfl, q⟩
theorem k_and1 {a : Int} (q : Q (.int (a % 2)) H) : rAnd1 (.int a) (.int 1) H Q := ⟨a, rfl, rfl, q⟩
theorem k_eqI {a b : Int} (q : Q (.bl (decide (a = b))) H) : rEq (.int a) (.int b) H Q := ⟨rfl, by
  have e : decide ((V.int a : V) = V.int b) = decide (a = b) := by simp
  rw [e]; exact q⟩
theorem k_neI {a b : Int} (q : Q (.bl (!decide (a = b))) H) : rNe (.int a) (.int b) H Q := ⟨rfl, by
  have e : decide ((V.int a : V) = V.int b) = decide (a = b) := by simp
  rw [e]; exact q⟩
theorem k_eq (hs : scal x y = true) (q : Q (.bl (decide (x = y))) H) : rEq x y H Q := ⟨hs, q⟩
theorem k_ne (hs : scal x y = true) (q : Q (.bl (!decide (x = y))) H) : rNe x y H Q := ⟨hs, q⟩
theorem k_isN (q : Q (.bl (decide (x = .non))) H) : rIsN x .non H Q := ⟨rfl, q⟩
theorem k_notN (q : Q (.bl (!decide (x = .non))) H) : rNotN x .non H Q := ⟨rfl, q⟩
def BlK (Qb : Bool → Hp → Prop) (x : V) (H : Hp) : Prop := ∃ k, x = .bl k ∧ Qb k H
theorem k_test (h : te σ H (BlK Qb)) : tTest te σ H Qb := h
theorem k_tB (h : te σ H (BlK Qb)) : tB te σ H Qb := h
theorem k_bl {b : Bool} (q : Qb b H) : BlK Qb (V.bl b) H := ⟨b, rfl, q⟩
theorem k_and (h : c σ H fun b H1 => if b = true then d σ H1 Qb else Qb false H1) : tAnd c d σ H Qb := h
theorem k_or (h : c σ H fun b H1 => if b = true then Qb true H1 else d σ H1 Qb) : tOr c d σ H Qb := h
theorem k_not (h : c σ H fun b H1 => Qb (!b) H1) : tNot c σ H Qb := h
theorem k_andV (h : ta σ H (BlK fun k H1 => if k = true then tb σ H1 Q else Q (.bl false) H1)) : tAndV ta tb σ H Q := h
theorem k_orV (h : ta σ H (BlK fun k H1 => if k = true then Q (.bl true) H1 else tb σ H1 Q)) : tOrV ta tb σ H Q := h
theorem k_notV (h : ta σ H (BlK fun k H1 => Q (.bl (!k)) H1)) : tNotV ta σ H Q := h
theorem k_ifE (h : c σ H fun b H1 => if b = true then ta σ H1 Q else tb σ H1 Q) : tIf c ta tb σ H Q := h
theorem k_cons {Qv : List V → Hp → Prop} {tr : TA} (h : ta σ H fun x H1 => tr σ H1 fun xs H2 => Qv (x :: xs) H2) : tCons ta tr σ H Qv := h
theorem k_nil {Qv : List V → Hp → Prop} (h : Qv [] H) : tNil σ H Qv := h
theorem k_call {sp : Sp} {dvs : List V} {E : XK} {tr : TA} (h : tr σ H fun vs H1 => sp (vs ++ dvs) H1 Q E) : tCall sp dvs E tr σ H Q := h
theorem k_cb {rc : List V → Hp → VK → Prop} {tr : TA} (h : tr σ H fun vs H1 => rc vs H1 Q) : tCB rc tr σ H Q := h
theorem k_tup {tr : TA} (h : tr σ H fun xs H1 => xs.length ≤ sizeLine ∧ ∀ p, H1 p = none → Q (.ref p) (upd H1 p (.tup xs))) : tTup tr σ H Q := h
theorem k_lst {tr : TA} (h : tr σ H fun xs H1 => xs.length ≤ sizeLine ∧ ∀ p, H1 p = none → Q (.ref p) (upd H1 p (.lst xs))) : tLst tr σ H Q := h
theorem k_disp {A : Prop} {xs : List V} (h : xs.length ≤ 1000) (q : A) : xs.length ≤ sizeLine ∧ A := ⟨Nat.le_trans h (by decide), q⟩
theorem k_aug {ti : TIp} (hx : σ[i]? = some (some x)) (h : te σ H fun y H1 => ti x y H1 fun z H2 => D.nx (σ.set i (some z)) H2) : tAug i te ti D σ H := ⟨x, hx, h⟩
theorem k_ipI {f : Int → Int → Int} {a b : Int} (q : Q (.int (f a b)) H) : ipI f (.int a) (.int b) H Q := ⟨a, b, rfl, rfl, q⟩
theorem k_sl {rs : V → Option Int → Option Int → Hp → VK → Prop} {tl th : TO} (h : te σ H fun x H1 => tl σ H1 fun l H2 => th σ H2 fun u H3 => rs x l u H3 Q) : tSl rs te tl th σ H Q := h
def PartK (Qo : Option Int → Hp → Prop) (x : V) (H : Hp) : Prop := ∃ j, x = .int j ∧ Qo (some j) H
theorem k_part {Qo : Option Int → Hp → Prop} (h : te σ H (PartK Qo)) : tPart te σ H Qo := h
theorem k_partE {Qo : Option Int → Hp → Prop} {a : Int} (h : Qo (some a) H) : PartK Qo (.int a) H := ⟨a, rfl, h⟩
theorem k_noPart {Qo : Option Int → Hp → Prop} (h : Qo none H) : tNoPart σ H Qo := h
theorem k_bm {T : String} {rm : V → List V → Hp → VK → Prop} {tr : TA} (h : te σ H fun x H1 => tyV K T x H1 ∧ tr σ H1 fun xs H2 => rm x xs H2 Q) : tBM K T rm te tr σ H Q := h
theorem k_bm0 {T : String} {rm : V → List V → Hp → VK → Prop} (h : te σ H fun x H1 => tyV K T x H1 ∧ rm x [] H1 Q) : tBM0 K T rm te σ H Q := h
theorem k_app {l : Addr} {xs : List V} (h : H l = some (.lst xs)) (hl : xs.length < 100000) (q : Q .non (upd H l (.lst (xs ++ [y])))) : rAppend (.ref l) [y] H Q := ⟨l, xs, y, rfl, rfl, h, Nat.lt_of_lt_of_le hl (by decide), q⟩
theorem k_tyL {l : Addr} {xs : List V} {A : Prop} (h : SqL K H l xs) (q : A) : tyV K "list" (.ref l) H ∧ A := ⟨.inl ⟨rfl, _, h⟩, q⟩
theorem k_ixL {p : Addr} {xs : List V} {a : Int} (h : SqL K H p xs) (e : atI xs a = some x) (q : Q x H) : rIxL K (.ref p) (.int a) H Q := ⟨p, xs, a, x, rfl, rfl, h, e, q⟩
theorem k_ixT {p : Addr} {xs : List V} {a : Int} (h : SqT K H p xs) (e : atI xs a = some x) (q : Q x H) : rIxT K (.ref p) (.int a) H Q := ⟨p, xs, a, x, rfl, rfl, h, e, q⟩
theorem k_slL {p : Addr} {xs : List V} {lo hi : Option Int} (h : SqL K H p xs) (q : ∀ l, H l = none → Q (.ref l) (upd H l (.lst (cutV xs lo hi)))) : rSlL K (.ref p) lo hi H Q := ⟨p, xs, rfl, h, q⟩
def rLen (K : PySem.W.Frag) : List V → Hp → VK → Prop := fun xs H Q => ∃ p ys, xs = [.ref p] ∧ (SqL K H p ys ∨ SqT K H p ys) ∧ Q (.int ys.length) H
theorem call_lenK {X : Cx} : CallR X (.builtin "len") (rLen X.K) := call_len_seq
theorem k_lenL {p : Addr} {xs : List V} (h : SqL K H p xs) (q : Q (.int (xs.length : Int)) H) : rLen K [.ref p] H Q := ⟨p, xs, rfl, .inl h, q⟩
theorem k_lenT {p : Addr} {xs : List V} (h : SqT K H p xs) (q : Q (.int (xs.length : Int)) H) : rLen K [.ref p] H Q := ⟨p, xs, rfl, .inr h, q⟩
def rMin2 : List V → Hp → VK → Prop := fun xs H Q => ∃ i j, xs = [.int i, .int j] ∧ Q (.int (if j < i then j else i)) H
def rMax2 : List V → Hp → VK → Prop := fun xs H Q => ∃ i j, xs = [.int i, .int j] ∧ Q (.int (if j > i then j else i)) H
theorem call_min2K {X : Cx} (hc : X.calm = true) : CallR X (.builtin "min") rMin2 := call_min2 hc
theorem call_max2K {X : Cx} (hc : X.calm = true) : CallR X (.builtin "max") rMax2 := call_max2 hc
theorem k_min2 {a b : Int} (q : Q (.int (if b < a then b else a)) H) : rMin2 [.int a, .int b] H Q := ⟨a, b, rfl, q⟩
theorem k_max2 {a b : Int} (q : Q (.int (if b > a then b else a)) H) : rMax2 [.int a, .int b] H Q := ⟨a, b, rfl, q⟩
def rListOf (K : PySem.W.Frag) : List V → Hp → VK → Prop := fun xs H Q => ∃ p ys, xs = [.ref p] ∧ (SqL K H p ys ∨ SqT K H p ys) ∧ ∀ l, H l = none → Q (.ref l) (upd H l (.lst ys))
theorem call_listK {X : Cx} : CallR X (.type "list") (rListOf X.K) := call_list_of
theorem k_listL {p : Addr} {xs : List V} (h : SqL K H p xs) (q : ∀ l, H l = none → Q (.ref l) (upd H l (.lst xs))) : rListOf K [.ref p] H Q := ⟨p, xs, rfl, .inl h, q⟩
theorem k_sum {p : Addr} {ns : List Int} (h : SqL K H p (ns.map V.int)) (q : Q (.int ns.sum) H) : rSum K [.ref p] H Q := ⟨p, ns, rfl, h, q⟩
theorem k_isInt {a : Int} (q : Q (.bl true) H) : rIsB [.int a, .ty "int"] H Q := ⟨.int a, "int", rfl, "int", true, fun _ => .base (.int a), by decide +kernel, q⟩
theorem k_isBool {a : Int} (q : Q (.bl false) H) : rIsB [.int a, .ty "bool"] H Q := ⟨.int a, "bool", rfl, "int", false, fun _ => .base (.int a), by decide +kernel, q⟩
theorem k_isIntN (q : Q (.bl false) H) : rIsB [.non, .ty "int"] H Q := ⟨.non, "int", rfl, "NoneType", false, fun _ => .base .non, by decide +kernel, q⟩
theorem k_isList {a : Addr} {xs : List V} (h : H a = some (.lst xs)) (q : Q (.bl true) H) : rIsB [.ref a, .ty "list"] H Q := ⟨.ref a, "list", rfl, "list", true, fun _ => .base (.lst h), by decide +kernel, q⟩
theorem k_isTup {a : Addr} {xs : List V} (h : H a = some (.tup xs)) (q : Q (.bl true) H) : rIsB [.ref a, .ty "tuple"] H Q := ⟨.ref a, "tuple", rfl, "tuple", true, fun _ => .base (.tup h), by decide +kernel, q⟩
/-! ends -/
theorem k_nx {nx : L2.St → Hp → Prop} {rt : VK} {bk ct : L2.St → Hp → Prop} (h : nx σ H) : (Ends.mk nx rt bk ct).nx σ H := h
theorem k_rt {nx : L2.St → Hp → Prop} {rt : VK} {bk ct : L2.St → Hp → Prop} (h : rt x H) : (Ends.mk nx rt bk ct).rt x H := h
/-! ifs -/
theorem k_dec {p A B : Prop} [Decidable p] (h1 : p → A) (h2 : ¬ p → B) : if decide p = true then A else B := by
  by_cases h : p
  · rw [if_pos (decide_eq_true h)]; exact h1 h
  · rw [if_neg (fun z => h (of_decide_eq_true z))]; exact h2 h
theorem k_ndec {p A B : Prop} [Decidable p] (h1 : ¬ p → A) (h2 : p → B) : if (!decide p) = true then A else B := by
  by_cases h : p
  · rw [if_neg (by rw [decide_eq_true h]; decide)]; exact h2 h
  · rw [if_pos (by rw [decide_eq_false h]; decide)]; exact h1 h
theorem k_decT {p A B : Prop} [Decidable p] (h : p) (q : A) : if decide p = true then A else B := k_dec (fun _ => q) (fun z => absurd h z)
theorem k_decF {p A B : Prop} [Decidable p] (h : ¬ p) (q : B) : if decide p = true then A else B := k_dec (fun z => absurd z h) (fun _ => q)
theorem k_ndecT {p A B : Prop} [Decidable p] (h : p) (q : B) : if (!decide p) = true then A else B := k_ndec (fun z => absurd h z) (fun _ => q)
theorem k_ndecF {p A B : Prop} [Decidable p] (h : ¬ p) (q : A) : if (!decide p) = true then A else B := k_ndec (fun _ => q) (fun z => absurd z h)
theorem k_yes (h : Qb true H) : tYes σ H Qb := h
theorem k_T {A B : Prop} (q : A) : if true = true then A else B := iteT q
theorem k_F {A B : Prop} (q : B) : if false = true then A else B := iteF q
theorem k_nT {A B : Prop} (q : B) : if (!true) = true then A else B := iteF q
theorem k_nF {A B : Prop} (q : A) : if (!false) = true then A else B := iteT q
end
/-! ### heaps -/
theorem same_new {H : Hp} {p : Addr} {o : HO} (h : H p = none) : Same H (upd H p o) := fun b x e => by
  rw [upd_ne (ne_of_none e h)]; exact e
/-- an object that H does not know may change -/
theorem Same.mut {H H' : Hp} {p : Addr} {o : HO} (e : Same H H') (h : H p = none) : Same H (upd H' p o) := fun b x hb => by
  rw [upd_ne (ne_of_none hb h)]; exact e b x hb
theorem Same.seqT {K : PySem.W.Frag} {H H' : Hp} {a : Addr} {xs : List V} (e : Same H H') (h : SqT K H a xs) : SqT K H' a xs := by
  rcases h with (h | ⟨o, h⟩) | h
  · exact .inl (.inl (e _ _ h))
  · exact .inl (.inr ⟨o, e _ _ h⟩)
  · exact .inr h
theorem Same.ne {H : Hp} {a p : Addr} {o : HO} (h : H p = none) (e : H a = some o) : a ≠ p := ne_of_none e h
/-! ### items -/
theorem at_nat {α : Type} {xs : List α} {i : Nat} {x : α} (h : xs[i]? = some x) : atI xs (i : Int) = some x := atI_nat h
theorem at_int {α : Type} {xs : List α} {i : Int} {x : α} (h0 : 0 ≤ i) (h : xs[i.toNat]? = some x) : atI xs i = some x := by
  have e : i = ((i.toNat : Nat) : Int) := by omega
  rw [e]; exact atI_nat h
theorem mapint {ns : List Int} {i : Nat} {n : Int} (h : ns[i]? = some n) : (ns.map V.int)[i]? = some (.int n) := by
  rw [List.getElem?_map, h]; rfl
theorem of_mapint {ns : List Int} {i : Nat} {v : V} (h : (ns.map V.int)[i]? = some v) : ∃ n, ns[i]? = some n ∧ v = .int n := by
  rw [List.getElem?_map] at h
  cases e : ns[i]? with
  | none => rw [e] at h; cases h
  | some n => rw [e] at h; exact ⟨n, rfl, (Option.some.inj h).symm⟩
theorem cutTake (xs : List V) (n : Nat) : cutV xs none (some (n : Int)) = xs.take n := by
  unfold cutV
  rw [HT.sIx_none, HT.sIx_nat, List.drop_zero, Nat.sub_zero]
  rcases Nat.le_total n xs.length with h | h
  · rw [Nat.min_eq_left h]
  · rw [Nat.min_eq_right h, List.take_length, List.take_of_length_le h]
/-! ### steps on ends that are written out; loops -/
section
variable {σ : L2.St} {H : Hp} {Q rt : VK} {nx bk ct : L2.St → Hp → Prop} {t u tb : TS} {g : TG} {wi : TI} {c : TT} {i : Nat} {x : V} {K : PySem.W.Frag}
theorem m_seq (h : t (Ends.mk (u (Ends.mk nx rt bk ct)) rt bk ct) σ H) : tSeq t u (Ends.mk nx rt bk ct) σ H := h
theorem m_cut (Mid : L2.St → Hp → Prop) (h : t (Ends.mk Mid rt bk ct) σ H) (k : ∀ σ' H', Mid σ' H' → u (Ends.mk nx rt bk ct) σ' H') : Evl.tCut t u (Ends.mk nx rt bk ct) σ H := ⟨Mid, h, k⟩
theorem m_cut0 (h : t (Ends.mk (u (Ends.mk nx rt bk ct)) rt bk ct) σ H) : Evl.tCut t u (Ends.mk nx rt bk ct) σ H := ⟨_, h, fun _ _ x => x⟩
theorem m_bk (h : bk σ H) : tBreak (Ends.mk nx rt bk ct) σ H := h
theorem m_ct (h : ct σ H) : tCont (Ends.mk nx rt bk ct) σ H := h
theorem m_next (h : nx σ H) : tNext (Ends.mk nx rt bk ct) σ H := h
theorem m_gName {Qs : L2.St → Hp → Prop} (h : Qs (σ.set i (some x)) H) : gName i x σ H Qs := h
theorem m_call {sp : Sp} {E : XK} {tr : TA} (h : tr σ H fun vs H1 => sp vs H1 Q E) : tCall sp [] E tr σ H Q := by
  have e : (fun (vs : List V) (H1 : Hp) => sp (vs ++ []) H1 Q E) = fun vs H1 => sp vs H1 Q E := by
    funext vs H1; rw [List.append_nil]
  show tr σ H fun vs H1 => sp (vs ++ []) H1 Q E
  rw [e]; exact h
/-- a for loop over what J yields -/
def LoopOk (J : It) (g : TG) (tb : TS) (nx : L2.St → Hp → Prop) (rt : VK) (σ : L2.St) (H : Hp) : Prop :=
  ∃ W : Nat → Nat → L2.St → Hp → Prop, (∃ m, W 0 m σ H) ∧ ∀ i m σ H, W i m σ H →
  (J.stop i H ∧ nx σ H) ∨ (J.go i H ∧ ∃ N : L2.St → Hp → Prop, (∀ σ' H', N σ' H' → ∃ m', m' < m ∧ W (i + 1) m' σ' H') ∧ ∀ x H', J.yld i H x H' → g x σ H' fun σ2 H2 => tb (Ends.mk N rt nx N) σ2 H2)
theorem m_for (h : wi σ H fun J H1 => LoopOk J g tb nx rt σ H1) : tFor wi g tb (Ends.mk nx rt bk ct) σ H := h
def Rng1K (R : It → Hp → Prop) (vs : List V) (H : Hp) : Prop := ∃ j : Int, vs = [.int j] ∧ -(2 ^ 62) ≤ j ∧ j < 2 ^ 62 ∧ R (Itr 0 j.toNat) H
theorem m_rng1 {ta : TA} {R : It → Hp → Prop} (h : ta σ H (Rng1K R)) : iRng1 ta σ H R := h
theorem m_rng1e {R : It → Hp → Prop} {a : Int} (h1 : -(2 ^ 62) ≤ a ∧ a < 2 ^ 62) (h : R (Itr 0 a.toNat) H) : Rng1K R [V.int a] H := ⟨a, rfl, h1.1, h1.2, h⟩
theorem m_rng1n {R : It → Hp → Prop} {a : Nat} (h1 : (a : Int) < 2 ^ 62) (h : R (Itr 0 a) H) : Rng1K R [V.int (a : Int)] H := ⟨a, rfl, by omega, h1, by rw [Int.toNat_natCast]; exact h⟩
def Rng2K (R : It → Hp → Prop) (vs : List V) (H : Hp) : Prop := ∃ i j : Int, vs = [.int i, .int j] ∧ (-(2 ^ 62) ≤ i ∧ i < 2 ^ 62 ∧ -(2 ^ 62) ≤ j ∧ j < 2 ^ 62) ∧ R (Itr i (j - i).toNat) H
theorem m_rng2 {ta : TA} {R : It → Hp → Prop} (h : ta σ H (Rng2K R)) : iRng2 ta σ H R := h
theorem m_rng2e {R : It → Hp → Prop} {a b : Int} (h1 : -(2 ^ 62) ≤ a ∧ a < 2 ^ 62 ∧ -(2 ^ 62) ≤ b ∧ b < 2 ^ 62) (h : R (Itr a (b - a).toNat) H) : Rng2K R [V.int a, V.int b] H := ⟨a, b, rfl, h1, h⟩
def ListK (K : PySem.W.Frag) (R : It → Hp → Prop) (x : V) (H : Hp) : Prop := ∃ a, x = .ref a ∧ (∃ xs, SqL K H a xs) ∧ R (Itl K a) H
theorem m_iL {tl : TE} {R : It → Hp → Prop} (h : tl σ H (ListK K R)) : iList K tl σ H R := h
theorem m_iLe {R : It → Hp → Prop} {a : Addr} {xs : List V} (hx : SqL K H a xs) (h : R (Itl K a) H) : ListK K R (V.ref a) H := ⟨a, rfl, ⟨xs, hx⟩, h⟩
def TupK (K : PySem.W.Frag) (R : It → Hp → Prop) (x : V) (H : Hp) : Prop := ∃ a, x = .ref a ∧ (∃ xs, SqT K H a xs) ∧ R (Itt K a) H
theorem m_iT {tl : TE} {R : It → Hp → Prop} (h : tl σ H (TupK K R)) : iTup K tl σ H R := h
theorem m_iTe {R : It → Hp → Prop} {a : Addr} {xs : List V} (hx : SqT K H a xs) (h : R (Itt K a) H) : TupK K R (V.ref a) H := ⟨a, rfl, ⟨xs, hx⟩, h⟩
theorem loop_range {lo : Int} {n : Nat} (Pv : Nat → L2.St → Hp → Prop) (h0 : Pv 0 σ H)
    (hs : ∀ i σ H, i < n → Pv i σ H → g (.int (lo + i)) σ H fun σ2 H2 => tb (Ends.mk (Pv (i + 1)) rt nx (Pv (i + 1))) σ2 H2) (hd : ∀ σ H, Pv n σ H → nx σ H) : LoopOk (Itr lo n) g tb nx rt σ H :=
  for_range (D := Ends.mk nx rt nx nx) Pv h0 hs hd
theorem loop_range0 {n : Nat} (Pv : Nat → L2.St → Hp → Prop) (h0 : Pv 0 σ H)
    (hs : ∀ (i : Nat) σ H, i < n → Pv i σ H → g (.int (i : Int)) σ H fun σ2 H2 => tb (Ends.mk (Pv (i + 1)) rt nx (Pv (i + 1))) σ2 H2) (hd : ∀ σ H, Pv n σ H → nx σ H) : LoopOk (Itr 0 n) g tb nx rt σ H :=
  loop_range Pv h0 (fun i σ H hi p => by rw [Int.zero_add]; exact hs i σ H hi p) hd
theorem loop_list {a : Addr} {xs : List V} (Pv : Nat → L2.St → Hp → Prop) (h0 : Pv 0 σ H) (hl : ∀ i σ H, i ≤ xs.length → Pv i σ H → SqL K H a xs)
    (hs : ∀ i x σ H, xs[i]? = some x → Pv i σ H → g x σ H fun σ2 H2 => tb (Ends.mk (Pv (i + 1)) rt nx (Pv (i + 1))) σ2 H2) (hd : ∀ σ H, Pv xs.length σ H → nx σ H) : LoopOk (Itl K a) g tb nx rt σ H :=
  for_list (D := Ends.mk nx rt nx nx) Pv h0 hl hs hd
/-- over a list of ints -/
theorem loop_ints {a : Addr} {ns : List Int} (Pv : Nat → L2.St → Hp → Prop) (h0 : Pv 0 σ H) (hl : ∀ i σ H, Pv i σ H → SqL K H a (ns.map V.int))
    (hs : ∀ i n σ H, ns[i]? = some n → Pv i σ H → g (.int n) σ H fun σ2 H2 => tb (Ends.mk (Pv (i + 1)) rt nx (Pv (i + 1))) σ2 H2) (hd : ∀ σ H, Pv ns.length σ H → nx σ H) : LoopOk (Itl K a) g tb nx rt σ H :=
  loop_list (xs := ns.map V.int) Pv h0 (fun i σ H _ p => hl i σ H p) (fun i x σ H hx p => by
    obtain ⟨n, hn, rfl⟩ := of_mapint hx
    exact hs i n σ H hn p) (fun σ H p => hd σ H (by rw [List.length_map] at p; exact p))
theorem loop_tup {a : Addr} {xs : List V} (Pv : Nat → L2.St → Hp → Prop) (h0 : Pv 0 σ H) (hl : ∀ i σ H, i ≤ xs.length → Pv i σ H → SqT K H a xs)
    (hs : ∀ i x σ H, xs[i]? = some x → Pv i σ H → g x σ H fun σ2 H2 => tb (Ends.mk (Pv (i + 1)) rt nx (Pv (i + 1))) σ2 H2) (hd : ∀ σ H, Pv xs.length σ H → nx σ H) : LoopOk (Itt K a) g tb nx rt σ H :=
  for_tup (D := Ends.mk nx rt nx nx) Pv h0 hl hs hd
def WBody (W : Nat → L2.St → Hp → Prop) (m : Nat) (tb : TS) (rt : VK) (nx : L2.St → Hp → Prop) (σ : L2.St) (H : Hp) : Prop :=
  ∃ N : L2.St → Hp → Prop, (∀ σ' H', N σ' H' → ∃ m', m' < m ∧ W m' σ' H') ∧ tb (Ends.mk N rt nx N) σ H
theorem m_wbody {W : Nat → L2.St → Hp → Prop} {m : Nat} (h : tb (Ends.mk (fun σ' H' => ∃ m', m' < m ∧ W m' σ' H') rt nx (fun σ' H' => ∃ m', m' < m ∧ W m' σ' H')) σ H) : WBody W m tb rt nx σ H := ⟨_, fun _ _ h => h, h⟩
theorem loop_while (W : Nat → L2.St → Hp → Prop) (m : Nat) (h0 : W m σ H)
    (hs : ∀ m σ H, W m σ H → c σ H fun b H1 => if b = true then WBody W m tb rt nx σ H1 else nx σ H1) : tWhile c tb (Ends.mk nx rt bk ct) σ H := ⟨W, ⟨m, h0⟩, hs⟩
/-- a comprehension over what J yields -/
def CompOk (J : It) (g : TG) (tt : TT) (te : TE) (vs : List Nat) (σ : L2.St) (H1 : Hp) (Q : VK) : Prop :=
  ∀ D, H1 D = none → ∃ W : Nat → Nat → Hp → Prop, (∃ m, W 0 m (upd H1 D (.lst []))) ∧ ∀ i m H, W i m H →
  (J.stop i H ∧ Q (.ref D) H) ∨ (J.go i H ∧ ∃ Nx : Hp → Prop, (∀ H', Nx H' → ∃ m', m' < m ∧ W (i + 1) m' H') ∧ ∀ x H', J.yld i H x H' → g x (wipe σ vs) H' fun σ2 H2 => wipe σ2 vs = wipe σ vs ∧ tt σ2 H2 fun b H3 =>
    if b = true then te σ2 H3 fun y H4 => ∃ acc, H4 D = some (.lst acc) ∧ acc.length < sizeLine ∧ Nx (upd H4 D (.lst (acc ++ [y]))) else Nx H3)
theorem m_lc {tt : TT} {te : TE} {vs : List Nat} (h : wi σ H fun J H1 => CompOk J g tt te vs σ H1 Q) : tLc wi g tt te vs σ H Q := h
/-- over a range, no test, pure elements f i: the list made -/
theorem comp_rangeV {n : Nat} {te : TE} {j : Nat} {f : Nat → V} (hn : n ≤ 100000)
    (he : ∀ (k : Nat) (H2 : Hp) (Q2 : VK), k < n → Same H H2 → (∀ H3, Same H2 H3 → Q2 (f k) H3) → te ((wipe σ [j]).set j (some (.int (k : Int)))) H2 Q2)
    (q : ∀ p H', H p = none → Same H H' → H' p = some (.lst ((List.range n).map f)) → Q (.ref p) H') (hw : ∀ x, wipe ((wipe σ [j]).set j (some x)) [j] = wipe σ [j] := by intro _; rfl) : CompOk (Itr 0 n) (gName j) tYes te [j] σ H Q := by
  intro Dl hD
  refine lc_range (lo := 0) (n := n) (fun i H' => Same H H' ∧ H' Dl = some (.lst ((List.range i).map f))) ⟨same_new hD, upd_same⟩ (fun i H' hi p => ?_) (fun H' p => q Dl H' hD p.1 p.2)
  obtain ⟨p1, p2⟩ := p
  refine ⟨hw _, ?_⟩
  refine k_yes (iteT ?_)
  rw [Int.zero_add]
  refine he i H' _ hi p1 (fun H3 s3 => ⟨_, s3 _ _ p2, ?_, Same.mut (p1.trans s3) hD, ?_⟩)
  · rw [List.length_map, List.length_range]; exact Nat.lt_of_lt_of_le (Nat.lt_of_lt_of_le hi hn) (by decide)
  · rw [upd_same, List.range_succ, List.map_append]; rfl
/-- over a list, no test, pure elements -/
theorem comp_listV {a : Addr} {xs ys : List V} {te : TE} {j : Nat} (hl : SqL K H a xs) (hn : xs.length ≤ 100000) (hy : ys.length = xs.length)
    (he : ∀ (k : Nat) (x y : V) (H2 : Hp) (Q2 : VK), xs[k]? = some x → ys[k]? = some y → Same H H2 → (∀ H3, Same H2 H3 → Q2 y H3) → te ((wipe σ [j]).set j (some x)) H2 Q2)
    (q : ∀ p H', H p = none → Same H H' → H' p = some (.lst ys) → Q (.ref p) H') (hw : ∀ x, wipe ((wipe σ [j]).set j (some x)) [j] = wipe σ [j] := by intro _; rfl) : CompOk (Itl K a) (gName j) tYes te [j] σ H Q := by
  intro Dl hD
  refine lc_list (xs := xs) (fun i H' => Same H H' ∧ H' Dl = some (.lst (ys.take i))) ⟨same_new hD, upd_same⟩ (fun i H' _ p => p.1.seq hl) (fun i x H' hi p => ?_) (fun H' p => q Dl H' hD p.1 (by rw [p.2, ← hy, List.take_length]))
  obtain ⟨p1, p2⟩ := p
  refine ⟨hw _, ?_⟩
  refine k_yes (iteT ?_)
  have hlt : i < xs.length := (List.getElem?_eq_some_iff.mp hi).1
  obtain ⟨y, ey⟩ : ∃ y, ys[i]? = some y := ⟨ys[i]'(by omega), List.getElem?_eq_getElem (by omega)⟩
  refine he i x y H' _ hi ey p1 (fun H3 s3 => ⟨_, s3 _ _ p2, ?_, Same.mut (p1.trans s3) hD, ?_⟩)
  · rw [List.length_take]; exact Nat.lt_of_le_of_lt (Nat.min_le_right _ _) (Nat.lt_of_lt_of_le (show ys.length < 100001 by omega) (by decide))
  · rw [upd_same, List.take_add_one, ey]; rfl
end
/-! ### loops over any walk -/
section
variable {σ : L2.St} {H : Hp} {Q rt : VK} {nx bk ct : L2.St → Hp → Prop} {t u tb : TS} {g : TG} {i : Nat} {x : V} {K : PySem.W.Frag} {J : It} {n : Nat} {G : Hp → Prop} {Y : Nat → Hp → V → Hp → Prop}
theorem loop_walk (w : Walk J n G Y) (Pv : Nat → L2.St → Hp → Prop) (h0 : Pv 0 σ H) (hG : ∀ i σ H, Pv i σ H → G H)
    (hs : ∀ i x σ H H', i < n → Pv i σ H → Y i H x H' → g x σ H' fun σ2 H2 => tb (Ends.mk (Pv (i + 1)) rt nx (Pv (i + 1))) σ2 H2) (hd : ∀ σ H, Pv n σ H → nx σ H) : LoopOk J g tb nx rt σ H :=
  for_it (D := Ends.mk nx rt nx nx) w Pv h0 (fun i σ H _ p => hG i σ H p) hs hd
/-- a comprehension with a test: at each turn the item is dropped, or f i is kept -/
theorem comp_walkV {te : TE} {tt : TT} {j : Nat} {f : Nat → Option V} (w : Walk J n G Y) (hn : n ≤ 100000) (hG : ∀ H', Same H H' → G H')
    (he : ∀ (k : Nat) (x : V) (H1 H2 : Hp) (Qb : Bool → Hp → Prop), k < n → Same H H1 → Y k H1 x H2 → (∀ b H3, Same H1 H3 → (b = true → ∀ Q2 : VK, ∀ H4, Same H3 H4 → ∃ y, f k = some y ∧ ((∀ H5, Same H4 H5 → Q2 y H5) → te ((wipe σ [j]).set j (some x)) H4 Q2)) → (b = false → f k = none) → Qb b H3) → tt ((wipe σ [j]).set j (some x)) H2 Qb)
    (q : ∀ p H', H p = none → Same H H' → H' p = some (.lst ((List.range n).filterMap f)) → Q (.ref p) H') (hw : ∀ x, wipe ((wipe σ [j]).set j (some x)) [j] = wipe σ [j] := by intro _; rfl) : CompOk J (gName j) tt te [j] σ H Q := by
  intro Dl hD
  refine lc_it w (fun i H' => Same H H' ∧ H' Dl = some (.lst ((List.range i).filterMap f))) ⟨same_new hD, upd_same⟩ (fun i H' _ p => hG H' p.1) (fun i x H' H'' hi p hy => ?_) (fun H' p => q Dl H' hD p.1 p.2)
  obtain ⟨p1, p2⟩ := p
  refine ⟨hw _, he i x H' H'' _ hi p1 hy (fun b H3 s3 hb1 hb0 => ?_)⟩
  have hl : ((List.range i).filterMap f).length < sizeLine := Nat.lt_of_le_of_lt (List.length_filterMap_le f (List.range i)) (by rw [List.length_range]; exact Nat.lt_of_lt_of_le (Nat.lt_of_lt_of_le hi hn) (by decide))
  cases b with
  | true =>
    refine iteT ?_
    obtain ⟨y, ey, go⟩ := hb1 rfl (fun y H4 => ∃ acc, H4 Dl = some (.lst acc) ∧ acc.length < sizeLine ∧ Same H (upd H4 Dl (.lst (acc ++ [y]))) ∧ upd H4 Dl (.lst (acc ++ [y])) Dl = some (.lst ((List.range (i + 1)).filterMap f))) H3 (Same.refl _)
    refine go fun H5 s5 => ⟨_, s5 _ _ (s3 _ _ p2), hl, Same.mut ((p1.trans s3).trans s5) hD, ?_⟩
    rw [upd_same, List.range_succ, List.filterMap_append]
    show _ = some (HO.lst (_ ++ List.filterMap f [i]))
    rw [List.filterMap_cons, ey]; rfl
  | false =>
    refine iteF ⟨p1.trans s3, ?_⟩
    rw [List.range_succ, List.filterMap_append]
    rw [show List.filterMap f [i] = [] by rw [List.filterMap_cons, hb0 rfl]; rfl, List.append_nil]
    exact s3 _ _ p2
theorem k_rev {a : Addr} {xs : List V} {ta : TA} {R : It → Hp → Prop} (h : ta σ H fun vs H1 => ∃ (a : Addr) (xs : List V), vs = [.ref a] ∧ SqL K H1 a xs ∧ R (Itv K a xs.length) H1) : iRev K ta σ H R := h
def RevK (K : PySem.W.Frag) (R : It → Hp → Prop) (vs : List V) (H : Hp) : Prop := ∃ (a : Addr) (xs : List V), vs = [.ref a] ∧ SqL K H a xs ∧ R (Itv K a xs.length) H
theorem m_rev {ta : TA} {R : It → Hp → Prop} (h : ta σ H (RevK K R)) : iRev K ta σ H R := h
theorem m_revE {a : Addr} {xs : List V} {R : It → Hp → Prop} (hx : SqL K H a xs) (h : R (Itv K a xs.length) H) : RevK K R [.ref a] H := ⟨a, xs, rfl, hx, h⟩
def EnumK (K : PySem.W.Frag) (R : It → Hp → Prop) (vs : List V) (H : Hp) : Prop := ∃ (a : Addr) (xs : List V), vs = [.ref a] ∧ SqL K H a xs ∧ R (Ite K a) H
theorem m_enum {ta : TA} {R : It → Hp → Prop} (h : ta σ H (EnumK K R)) : iEnum K ta σ H R := h
theorem m_enumE {a : Addr} {xs : List V} {R : It → Hp → Prop} (hx : SqL K H a xs) (h : R (Ite K a) H) : EnumK K R [.ref a] H := ⟨a, xs, rfl, hx, h⟩
def ZipK (K : PySem.W.Frag) (R : It → Hp → Prop) (vs : List V) (H : Hp) : Prop := ∃ a b xs ys, vs = [.ref a, .ref b] ∧ SqL K H a xs ∧ SqL K H b ys ∧ R (Itz K a b) H
theorem m_zip {ta : TA} {R : It → Hp → Prop} (h : ta σ H (ZipK K R)) : iZip K ta σ H R := h
theorem m_zipE {a b : Addr} {xs ys : List V} {R : It → Hp → Prop} (hx : SqL K H a xs) (hy : SqL K H b ys) (h : R (Itz K a b) H) : ZipK K R [.ref a, .ref b] H := ⟨a, b, xs, ys, rfl, hx, hy, h⟩
def Rng3K (R : It → Hp → Prop) (vs : List V) (H : Hp) : Prop := ∃ i j c n, vs = [.int i, .int j, .int c] ∧ RgC i j c n ∧ R (Itc i c n) H
theorem m_rng3 {ta : TA} {R : It → Hp → Prop} (h : ta σ H (Rng3K R)) : iRng3 ta σ H R := h
theorem m_rng3e {R : It → Hp → Prop} {a b c : Int} {n : Nat} (h1 : RgC a b c n) (h : R (Itc a c n) H) : Rng3K R [V.int a, V.int b, V.int c] H := ⟨a, b, c, n, rfl, h1, h⟩
/-- targets that are pairs -/
def GTupK (K : PySem.W.Frag) (n : Nat) (tg : TGs) (Qs : L2.St → Hp → Prop) (x : V) (σ : L2.St) (H : Hp) : Prop := ∃ a xs, x = .ref a ∧ SqT K H a xs ∧ xs.length = n ∧ tg xs σ H Qs
theorem m_gTup {tg : TGs} {Qs : L2.St → Hp → Prop} {a : Addr} {xs : List V} (hx : SqT K H a xs) (hn : xs.length = n) (h : tg xs σ H Qs) : gTup K n tg (.ref a) σ H Qs := ⟨a, xs, rfl, hx, hn, h⟩
theorem m_gCons {t1 : TG} {ts : TGs} {Qs : L2.St → Hp → Prop} {xs : List V} (h : t1 x σ H fun σ' H' => ts xs σ' H' Qs) : gCons t1 ts (x :: xs) σ H Qs := ⟨x, xs, rfl, h⟩
theorem m_gNil {Qs : L2.St → Hp → Prop} (h : Qs σ H) : gNil [] σ H Qs := ⟨rfl, h⟩
theorem m_asg {te : TE} (h : te σ H fun x H1 => g x σ H1 nx) : tAsg te g (Ends.mk nx rt bk ct) σ H := h
theorem m_gSub {to ti : TE} {ts : TSet} {Qs : L2.St → Hp → Prop} (h : to σ H fun o H1 => ti σ H1 fun i H2 => ts o i x H2 fun H3 => Qs σ H3) : gSub to ti ts x σ H Qs := h
theorem m_setL {p : Addr} {xs : List V} {k : Int} {j : Nat} {y : V} {Qh : Hp → Prop} (h : H p = some (.lst xs)) (hj : ixN xs.length k = some j) (q : Qh (upd H p (.lst (xs.set j y)))) : rSetL (.ref p) (.int k) y H Qh := ⟨p, xs, k, j, rfl, rfl, h, hj, q⟩
theorem ixN_nat {n : Nat} {k : Int} (h0 : 0 ≤ k) (h1 : k < n) : ixN n k = some k.toNat := by
  unfold ixN; rw [if_pos h0, if_pos h1]
def ParK (nx : L2.St → Hp → Prop) (i j : Nat) (σ : L2.St) (vs : List V) (H : Hp) : Prop := ∃ v w, vs = [v, w] ∧ nx ((σ.set i (some v)).set j (some w)) H
theorem m_par {i j : Nat} {ta : TA} (h : ta σ H (ParK nx i j σ)) : tPar i j ta (Ends.mk nx rt bk ct) σ H := h
theorem m_parE {i j : Nat} {a b : V} (h : nx ((σ.set i (some a)).set j (some b)) H) : ParK nx i j σ [a, b] H := ⟨a, b, rfl, h⟩
theorem k_divmod {Q : VK} {a b : Int} (h : CDivP a b) (q : ∀ p, H p = none → Q (.ref p) (upd H p (.tup [.int (a / b), .int (a % b)]))) : rDivmod [.int a, .int b] H Q := ⟨a, b, rfl, h, q⟩
end
/-! ### what a comprehension with a test leaves -/
theorem fm_head {α : Type} {f : Nat → Option α} : ∀ {n : Nat} {y : α}, ((List.range n).filterMap f)[0]? = some y → ∃ i, i < n ∧ f i = some y ∧ ∀ j, j < i → f j = none
  | 0, y, h => by simp at h
  | n + 1, y, h => by
    rw [List.range_succ, List.filterMap_append] at h
    cases e : (List.range n).filterMap f with
    | cons z zs =>
      rw [e] at h
      have h' : ((List.range n).filterMap f)[0]? = some y := by rw [e]; simpa using h
      obtain ⟨i, h1, h2, h3⟩ := fm_head h'
      exact ⟨i, by omega, h2, h3⟩
    | nil =>
      rw [e, List.nil_append] at h
      have none_all : ∀ j, j < n → f j = none := fun j hj => List.filterMap_eq_nil_iff.mp e j (List.mem_range.mpr hj)
      cases q : f n with
      | none => rw [List.filterMap_cons, q] at h; simp at h
      | some z =>
        rw [List.filterMap_cons, q] at h
        have : z = y := by simpa using h
        subst this
        exact ⟨n, by omega, q, none_all⟩
theorem fm_last {α : Type} {f : Nat → Option α} : ∀ {n : Nat} {y : α} {ys : List α}, (List.range n).filterMap f = ys ++ [y] → ∃ i, i < n ∧ f i = some y ∧ ∀ j, i < j → j < n → f j = none
  | 0, y, ys, h => by simp at h
  | n + 1, y, ys, h => by
    rw [List.range_succ, List.filterMap_append] at h
    cases q : f n with
    | none =>
      rw [show List.filterMap f [n] = [] by rw [List.filterMap_cons, q]; rfl, List.append_nil] at h
      obtain ⟨i, h1, h2, h3⟩ := fm_last h
      refine ⟨i, by omega, h2, fun j h4 h5 => ?_⟩
      rcases Nat.lt_or_ge j n with h6 | h6
      · exact h3 j h4 h6
      · have : j = n := by omega
        subst this; exact q
    | some z =>
      rw [show List.filterMap f [n] = [z] by rw [List.filterMap_cons, q]; rfl] at h
      have e := List.append_inj_right' h rfl
      injection e with e
      subst e
      exact ⟨n, by omega, q, fun j h4 h5 => by omega⟩
theorem fm_nil {α : Type} {f : Nat → Option α} {n : Nat} (h : (List.range n).filterMap f = []) : ∀ j, j < n → f j = none := fun j hj => List.filterMap_eq_nil_iff.mp h j (List.mem_range.mpr hj)
theorem snoc_of {α : Type} : ∀ {l : List α}, l ≠ [] → ∃ ys y, l = ys ++ [y]
  | [], h => absurd rfl h
  | a :: l, _ => ⟨(a :: l).dropLast, (a :: l).getLast (List.cons_ne_nil _ _), (List.dropLast_concat_getLast _).symm⟩
theorem cutPart (xs : List V) (a b : Nat) : cutV xs (some (a : Int)) (some (b : Int)) = (xs.take b).drop a := by
  unfold cutV
  rw [HT.sIx_nat, HT.sIx_nat, List.drop_take]
  rcases Nat.le_total a xs.length with h | h
  · rw [Nat.min_eq_left h]
    rcases Nat.le_total b xs.length with h2 | h2
    · rw [Nat.min_eq_left h2]
    · rw [Nat.min_eq_right h2, List.take_of_length_le (by rw [List.length_drop]; omega), List.take_of_length_le (by rw [List.length_drop]; omega)]
  · rw [Nat.min_eq_right h, List.drop_of_length_le (Nat.le_refl _), List.drop_of_length_le h]
    simp
theorem cutDrop (xs : List V) (a : Nat) : cutV xs (some (a : Int)) none = xs.drop a := by
  unfold cutV
  rw [HT.sIx_nat, HT.sIx_none]
  rcases Nat.le_total a xs.length with h | h
  · rw [Nat.min_eq_left h, List.take_of_length_le (by rw [List.length_drop]; omega)]
  · rw [Nat.min_eq_right h, List.drop_of_length_le (Nat.le_refl _), List.drop_of_length_le h]
    simp
/-! ### data at any depth -/
section
variable {H H' : Hp} {K : PySem.W.Frag}
theorem dpAll_ints : ∀ ns : List Int, DpAll K H (ns.map V.int) (ns.map PyData.int)
  | [] => .nil
  | n :: ns => .cons (.int n) (dpAll_ints ns)
theorem dpAll_bools : ∀ bs : List Bool, DpAll K H (bs.map V.bl) (bs.map PyData.bool)
  | [] => .nil
  | b :: bs => .cons (.bl b) (dpAll_bools bs)
theorem dp_ints {a : Addr} {ns : List Int} (h : SqL K H a (ns.map V.int)) : Dp K H (.ref a) (.list (ns.map PyData.int)) := .lst h (dpAll_ints ns)
theorem dp_intsT {a : Addr} {ns : List Int} (h : SqT K H a (ns.map V.int)) : Dp K H (.ref a) (.tuple (ns.map PyData.int)) := .tup h (dpAll_ints ns)
theorem eqvAll_ints : ∀ as bs : List Int, PyData.eqvAll (as.map PyData.int) (bs.map PyData.int) = decide (as = bs)
  | [], [] => by rw [List.map_nil]; unfold PyData.eqvAll; rfl
  | [], b :: bs => by rw [List.map_nil, List.map_cons]; unfold PyData.eqvAll; simp
  | a :: as, [] => by rw [List.map_nil, List.map_cons]; unfold PyData.eqvAll; simp
  | a :: as, b :: bs => by
    rw [List.map_cons, List.map_cons]; unfold PyData.eqvAll
    rw [eqvAll_ints as bs]
    unfold PyData.eqv
    by_cases h : a = b
    · subst h; by_cases h2 : as = bs
      · subst h2; simp
      · simp [h2]
    · simp [h]
theorem eqv_ints (as bs : List Int) : PyData.eqv (.list (as.map PyData.int)) (.list (bs.map PyData.int)) = decide (as = bs) := by
  unfold PyData.eqv; exact eqvAll_ints as bs
theorem eqv_intsT (as bs : List Int) : PyData.eqv (.tuple (as.map PyData.int)) (.tuple (bs.map PyData.int)) = decide (as = bs) := by
  unfold PyData.eqv; exact eqvAll_ints as bs
/-- laid: no dict, texts in order, at most so deep -/
def laid (n : Nat) (d : PyData) : Prop := d.canLay0 = true ∧ d.depth ≤ n
theorem laid_int {n : Nat} (i : Int) : laid n (.int i) := ⟨by simp [PyData.canLay0], by simp [PyData.depth]⟩
theorem laid_bool {n : Nat} (i : Bool) : laid n (.bool i) := ⟨by simp [PyData.canLay0], by simp [PyData.depth]⟩
theorem laid_none {n : Nat} : laid n .none := ⟨by simp [PyData.canLay0], by simp [PyData.depth]⟩
theorem laid_all {n : Nat} : ∀ ds : List PyData, (∀ d ∈ ds, laid n d) → PyData.canLayAll0 ds = true ∧ PyData.depthAll ds ≤ n
  | [], _ => ⟨by simp [PyData.canLayAll0], by simp [PyData.depthAll]⟩
  | d :: ds, h => by
    obtain ⟨h1, h2⟩ := h d List.mem_cons_self
    obtain ⟨h3, h4⟩ := laid_all ds fun x hx => h x (List.mem_cons_of_mem _ hx)
    exact ⟨by simp [PyData.canLayAll0, h1, h3], by simp only [PyData.depthAll]; omega⟩
theorem laid_list {n : Nat} {ds : List PyData} (h : ∀ d ∈ ds, laid n d) : laid (n + 1) (.list ds) := by
  obtain ⟨h1, h2⟩ := laid_all ds h
  exact ⟨by simp [PyData.canLay0, h1], by simp only [PyData.depth]; omega⟩
theorem laid_tup {n : Nat} {ds : List PyData} (h : ∀ d ∈ ds, laid n d) : laid (n + 1) (.tuple ds) := by
  obtain ⟨h1, h2⟩ := laid_all ds h
  exact ⟨by simp [PyData.canLay0, h1], by simp only [PyData.depth]; omega⟩
theorem laid_ints {n : Nat} (ns : List Int) : laid (n + 1) (.list (ns.map PyData.int)) := laid_list fun d hd => by
  obtain ⟨i, _, rfl⟩ := List.mem_map.mp hd
  exact laid_int i
theorem laid_intsT {n : Nat} (ns : List Int) : laid (n + 1) (.tuple (ns.map PyData.int)) := laid_tup fun d hd => by
  obtain ⟨i, _, rfl⟩ := List.mem_map.mp hd
  exact laid_int i
theorem laid_bools {n : Nat} (bs : List Bool) : laid (n + 1) (.list (bs.map PyData.bool)) := laid_list fun d hd => by
  obtain ⟨i, _, rfl⟩ := List.mem_map.mp hd
  exact laid_bool i
theorem laid_shaped {d : PyData} (h : laid 64 d) : SeqAt.shaped d = true := by
  obtain ⟨h1, h2⟩ := h
  unfold SeqAt.shaped
  rw [h1, decide_eq_true h2]; rfl
theorem k_eqD {Q : VK} {x y : V} {d e : PyData} (h1 : Dp K H x d) (h2 : Dp K H y e) (l1 : laid 64 d) (l2 : laid 64 e) (q : Q (.bl (PyData.eqv d e)) H) : rEqD K x y H Q :=
  ⟨d, e, h1, h2, laid_shaped l1, laid_shaped l2, q⟩
theorem k_neD {Q : VK} {x y : V} {d e : PyData} (h1 : Dp K H x d) (h2 : Dp K H y e) (l1 : laid 64 d) (l2 : laid 64 e) (q : Q (.bl (!PyData.eqv d e)) H) : rNeD K x y H Q :=
  ⟨d, e, h1, h2, laid_shaped l1, laid_shaped l2, q⟩
theorem k_eqL {Q : VK} {a b : Addr} {ns ms : List Int} (h1 : SqL K H a (ns.map V.int)) (h2 : SqL K H b (ms.map V.int)) (q : Q (.bl (decide (ns = ms))) H) : rEqD K (.ref a) (.ref b) H Q :=
  k_eqD (dp_ints h1) (dp_ints h2) (laid_ints ns) (laid_ints ms) (by rw [eqv_ints]; exact q)
theorem k_neL {Q : VK} {a b : Addr} {ns ms : List Int} (h1 : SqL K H a (ns.map V.int)) (h2 : SqL K H b (ms.map V.int)) (q : Q (.bl (!decide (ns = ms))) H) : rNeD K (.ref a) (.ref b) H Q :=
  k_neD (dp_ints h1) (dp_ints h2) (laid_ints ns) (laid_ints ms) (by rw [eqv_ints]; exact q)
end
/-! ### errors: raised, let through, caught -/
section
variable {X : Cx} {E : XK} {W : WX} {k j : Nat} {ps : List Str} {sp : Sp} {x : Str} {p pos : Pos} {e : Expr} {es : List Expr} {t : TA}
theorem passX (tk : Takes X (fun cls d _ H => E cls d H)) : Passes (L2.CX X.prog X.w) X E := passes_call tk fun _ _ _ _ h => h
/-- raise C('..') -/
def tRz (W : WX) (C : Addr) : TS := fun _ σ H => W (.ref C) none σ H
/-- what stands of the class x: it can be raised -/
structure ExF (K : PySem.W.Frag) (mg : Str → Option Value) (x : Str) : Prop where
  gl : mg x = some (.ref (He.ga K x))
  ex : PySem.W.excIn K (He.ga K x) He.veBase "ValueError.__new__" = true
  kp : PySem.W.keepIn K (.ref (He.ga K x)) = true
  sb : PySem.W.subIn K (.ref (He.ga K x)) (.type "BaseException") = some true
  ty : PySem.W.typeIn K (.ref (He.ga K x)) = some (.type "type")
theorem ps_rz {m : Str} {j : Nat} {p2 pos2 : Pos} (F : ExF X.K X.mg x) (tk : Takes X W) (hc : X.calm = true := by rfl) (hg : Gl X x := by rfl) (hdb : (x == ("__debug__" : Str)) = false := by decide) :
    PS X (.Raise (some (.Call (.Name x p) [.Constant (.str m) j p2] [] pos)) none pos2) (tRz W (He.ga X.K x)) :=
  ps_raise hc tk (pmk_own PySem.F.excBase_ValueError F.ex F.gl F.kp (raises_own F.sb F.ty) hg hdb)
theorem k_rz {D : Ends} {C : Addr} {σ : L2.St} {H : Hp} (h : W (.ref C) none σ H) : tRz W C D σ H := h
/-- a call within a try's body -/
theorem pe_callFS (F : Okf X.prog X.w X.K X.mg X.base (L2.CX X.prog X.w) k x ps sp) (hr : Room j X.A) (hk : k ≤ j) (hg : Gl X x) (tk : Takes X W)
    (ha : PA X (e :: es) t) (hdb : (x == ("__debug__" : Str)) = false := by decide) (he : starEach (e :: es) X.env = (false, eval e X.env) :: starEach es X.env := by rfl) (hpl : (backTo pos (starEach es X.env)).any (·.1) = false := by rfl) :
    PE X (.Call (.Name x p) (e :: es) [] pos) (tCallS sp (WE W) t) := by
  obtain ⟨fd, _, hb, ok⟩ := F.ex
  exact pe_callS ok (hr.mono hk) hg F.gl F.kp hb (fun σ => passAt tk σ) ha hdb he hpl
theorem m_callS {E : L2.St → XK} {σ : L2.St} {H : Hp} {Q : VK} (h : t σ H fun vs H1 => sp vs H1 Q (E σ)) : tCallS sp E t σ H Q := h
/-- try: .. except C as n | except C -/
def tTryAs (K : PySem.W.Frag) (c : Value) (i : Nat) (tb : WX → TS) (ts : Addr → Value → Option Addr → TS) (Wout : WX) : TS := fun D σ H => tb (wAs K c i ts Wout D) D σ H
def tTryOnly (K : PySem.W.Frag) (c : Value) (tb : WX → TS) (ts : Addr → Value → Option Addr → TS) (Wout : WX) : TS := fun D σ H => tb (wOnly K c ts Wout D) D σ H
section
variable {K : PySem.W.Frag} {c cls : Value} {d : Option Addr} {i : Nat} {tb : WX → TS} {ts : Addr → Value → Option Addr → TS} {Wout : WX} {σ : L2.St} {H : Hp} {rt : VK} {nx bk ct : L2.St → Hp → Prop}
theorem m_tryAs (h : tb (wAs K c i ts Wout (Ends.mk nx rt bk ct)) (Ends.mk nx rt bk ct) σ H) : tTryAs K c i tb ts Wout (Ends.mk nx rt bk ct) σ H := h
theorem m_tryOnly (h : tb (wOnly K c ts Wout (Ends.mk nx rt bk ct)) (Ends.mk nx rt bk ct) σ H) : tTryOnly K c tb ts Wout (Ends.mk nx rt bk ct) σ H := h
theorem m_caught (he : PySem.W.exmOne K cls c = some true) (h : ∀ a, H a = none → ts a cls d (Ends.mk (fun σ' H' => nx (σ'.set i none) H') rt (fun σ' H' => bk (σ'.set i none) H') (fun σ' H' => ct (σ'.set i none) H')) (σ.set i (some (.ref a))) H) :
    WE (wAs K c i ts Wout (Ends.mk nx rt bk ct)) σ cls d H := ⟨true, he, fun _ => h, fun z => Bool.noConfusion z⟩
theorem m_passed (he : PySem.W.exmOne K cls c = some false) (h : Wout cls d σ H) : WE (wAs K c i ts Wout (Ends.mk nx rt bk ct)) σ cls d H := ⟨false, he, fun z => Bool.noConfusion z, fun _ => h⟩
theorem m_caughtO (he : PySem.W.exmOne K cls c = some true) (h : ∀ a, H a = none → ts a cls d (Ends.mk nx rt bk ct) σ H) :
    WE (wOnly K c ts Wout (Ends.mk nx rt bk ct)) σ cls d H := ⟨true, he, fun _ => h, fun z => Bool.noConfusion z⟩
theorem m_passedO (he : PySem.W.exmOne K cls c = some false) (h : Wout cls d σ H) : WE (wOnly K c ts Wout (Ends.mk nx rt bk ct)) σ cls d H := ⟨false, he, fun z => Bool.noConfusion z, fun _ => h⟩
end
/-- isinstance(e, c), e the error that the suite holds -/
def rIsX (K : PySem.W.Frag) (cls : Value) (d : Option Addr) (a : Addr) : List V → Hp → VK → Prop := fun xs H Q => ∃ D, cls = .ref D ∧ d = none ∧ ExcC K D ∧ rIsE K D a xs H Q
theorem call_isX {a : Addr} {oe : Obj} {cls : Value} {d : Option Addr} {pn : List (Addr × Obj)} (hz : Zc cls d oe) (hf : ∃ vs, oe.data = .fields vs) : CallR (X.suite a ((a, oe) :: pn)) (.builtin "isinstance") (rIsX X.K cls d a) := by
  intro pins s σ H xs us Q I r h
  obtain ⟨D, rfl, rfl, C, h⟩ := h
  exact call_isE C hz hf pins s σ H xs us Q I r h
theorem k_isX {K : PySem.W.Frag} {D C a : Addr} {b : Bool} {H : Hp} {Q : VK} (h : ExcC K D) (e : PySem.W.kitOne K (.ref D) (.ref C) = some b) (q : Q (.bl b) H) : rIsX K (.ref D) none a [.ref a, .ref C] H Q :=
  ⟨D, rfl, rfl, h, .ref C, .ref C, b, rfl, fun _ r => r, e, q⟩
theorem k_isXT {K : PySem.W.Frag} {D a : Addr} {n : String} {b : Bool} {H : Hp} {Q : VK} (h : ExcC K D) (e : PySem.W.kitOne K (.ref D) (.type n) = some b) (q : Q (.bl b) H) : rIsX K (.ref D) none a [.ref a, .ty n] H Q :=
  ⟨D, rfl, rfl, h, .ty n, .type n, b, rfl, fun _ r => r, e, q⟩
end
/-! ### the head's facts, with what is asked of errors -/
inductive Fx where
  | excC (x : Str)
  | kit (x y : Str) (b : Bool)
  | kitT (x : Str) (t : String) (b : Bool)
  | exm (x y : Str) (b : Bool)
def Fx.ok (K : PySem.W.Frag) : Fx → Bool
  | .excC x => He.eqO (PySem.W.findIn K (.ref (He.ga K x)) "__getattribute__") (some (some (.builtin "BaseException.__getattribute__"))) && (He.eqO (PySem.W.findIn K (.ref (He.ga K x)) "__getattr__") (some none) &&
      (decide (PySem.W.subIn K (.ref (He.ga K x)) (.type "BaseException") = some true) && (PySem.W.hasDictIn K (He.ga K x) && (He.eqO (PySem.W.findIn K (.ref (He.ga K x)) "__class__") (some (some (.builtin "object.__class__"))) &&
      (He.eqO (PySem.W.specialIn K (.builtin "object.__class__") "__get__") (some (some (.builtin "getset_descriptor.__get__"))) && (decide (PySem.W.takesIn K (.builtin "object.__class__") = some true) && decide (PySem.W.mroIn K (He.ga K x) (.type "object") = some true)))))))
  | .kit x y b => decide (PySem.W.kitOne K (.ref (He.ga K x)) (.ref (He.ga K y)) = some b)
  | .kitT x t b => decide (PySem.W.kitOne K (.ref (He.ga K x)) (.type t) = some b)
  | .exm x y b => decide (PySem.W.exmOne K (.ref (He.ga K x)) (.ref (He.ga K y)) = some b)
theorem Fx.excC_ok {K : PySem.W.Frag} {x : Str} (c : (Fx.excC x).ok K = true) : ExcC K (He.ga K x) := by
  obtain ⟨c1, c⟩ := He.ba c
  obtain ⟨c2, c⟩ := He.ba c
  obtain ⟨c3, c⟩ := He.ba c
  obtain ⟨c4, c⟩ := He.ba c
  obtain ⟨c5, c⟩ := He.ba c
  obtain ⟨c6, c⟩ := He.ba c
  obtain ⟨c7, c8⟩ := He.ba c
  exact ⟨He.eqO_ok c1, He.eqO_ok c2, of_decide_eq_true c3, c4, He.eqO_ok c5, He.eqO_ok c6, of_decide_eq_true c7, of_decide_eq_true c8⟩
theorem Fx.kit_ok {K : PySem.W.Frag} {x y : Str} {b : Bool} (c : (Fx.kit x y b).ok K = true) : PySem.W.kitOne K (.ref (He.ga K x)) (.ref (He.ga K y)) = some b := of_decide_eq_true c
theorem Fx.kitT_ok {K : PySem.W.Frag} {x : Str} {t : String} {b : Bool} (c : (Fx.kitT x t b).ok K = true) : PySem.W.kitOne K (.ref (He.ga K x)) (.type t) = some b := of_decide_eq_true c
theorem Fx.exm_ok {K : PySem.W.Frag} {x y : Str} {b : Bool} (c : (Fx.exm x y b).ok K = true) : PySem.W.exmOne K (.ref (He.ga K x)) (.ref (He.ga K y)) = some b := of_decide_eq_true c
abbrev AlF : Type := He.AlD × Bool
def obsF (fa : List He.Fa) (fn : List He.DefD) (fx : List Fx) (K : PySem.W.Frag) : AlF := (He.obsD fa fn K, fx.all fun f => f.ok K)
def SaysF (fa : List He.Fa) (fn : List He.DefD) (fx : List Fx) (K : PySem.W.Frag) : Prop := obsF fa fn fx K = (He.valD fn, true)
def obsFG (n : Nat) (fa : List He.Fa) (fn : List He.DefD) (fx : List Fx) (g : Addr → Option Obj) : AlF := obsF fa fn fx (He.frG g (He.asD g n))
def hookF (n : Nat) (fa : List He.Fa) (fn : List He.DefD) (fx : List Fx) : PySem.W.Hook where
  α := AlF
  obs := fun s => obsFG n fa fn fx s.heap.get?
  val := fun _ => (He.valD fn, true)
  says := fun _ h => ∃ K : PySem.W.Frag, K.In h ∧ SaysF fa fn fx K
  of := fun _ _ e => ⟨_, He.frG_in, e⟩
  keeps := fun _ _ _ ⟨K, hK, c⟩ k => ⟨K, PySem.W.Frag.In.keeps hK k, c⟩
theorem obsFG_eq {n : Nat} {fa : List He.Fa} {fn : List He.DefD} {fx : List Fx} {g : Addr → Option Obj} {s : Shared} (h : ∀ a, g a = s.heap.get? a) : obsFG n fa fn fx g = (hookF n fa fn fx).obs s := by
  have e : g = s.heap.get? := funext h
  rw [e] <;> rfl
theorem SaysF.d {fa : List He.Fa} {fn : List He.DefD} {fx : List Fx} {K : PySem.W.Frag} (c : SaysF fa fn fx K) : He.SaysD fa fn K := congrArg (fun z : AlF => z.1) c
theorem SaysF.fx {fa : List He.Fa} {fn : List He.DefD} {fx : List Fx} {K : PySem.W.Frag} (c : SaysF fa fn fx K) (i : Nat) {f : Fx} (h : fx[i]? = some f := by rfl) : f.ok K = true := by
  have c1 : (fx.all fun f => f.ok K) = true := congrArg (fun z : AlF => z.2) c
  exact List.all_eq_true.mp c1 f (List.mem_of_getElem? h)
end Tw
open PySem PySem.Spec PyProof.Rows L2 Tw
set_option hygiene false in
local macro_rules | `(tactic| walk_at "s1") => `(tactic| first
  | with_reducible refine m_seq ?_
  | with_reducible refine k_asg ?_
  | with_reducible refine m_asg ?_
  | ((with_reducible refine' k_var ?kv ?_); case kv => walk_at "look")
  | with_reducible refine k_c ?_
  | with_reducible refine k_op ?_
  | with_reducible refine k_I0 ?_
  | ((with_reducible refine k_I ?kv ?_); case kv => walk_at "cond")
  | with_reducible refine k_and1 ?_
  | with_reducible refine k_eqI ?_
  | with_reducible refine k_neI ?_
  | ((with_reducible refine k_eq ?kv ?_); case kv => exact rfl)
  | ((with_reducible refine k_ne ?kv ?_); case kv => exact rfl)
  | with_reducible refine k_isN ?_
  | with_reducible refine k_notN ?_
  | with_reducible refine k_nx ?_
  | with_reducible refine k_rt ?_
  | with_reducible refine m_next ?_
  | with_reducible refine m_bk ?_
  | with_reducible refine m_ct ?_
  | with_reducible refine k_if ?_
  | with_reducible refine k_test ?_
  | with_reducible refine k_tB ?_
  | with_reducible refine k_bl ?_
  | with_reducible refine k_not ?_
  | with_reducible refine k_and ?_
  | with_reducible refine k_or ?_
  | with_reducible refine k_andV ?_
  | with_reducible refine k_orV ?_
  | with_reducible refine k_notV ?_
  | with_reducible refine k_ifE ?_
  | with_reducible refine k_ret ?_
  | with_reducible refine k_retN ?_
  | with_reducible refine k_drop ?_
  | with_reducible refine k_cons ?_
  | with_reducible refine k_nil ?_
  | with_reducible refine m_call ?_
  | with_reducible refine m_callS ?_
  | with_reducible refine k_rz ?_
  | with_reducible refine m_tryAs ?_
  | with_reducible refine m_tryOnly ?_
  | with_reducible refine k_cb ?_
  | with_reducible refine k_tup ?_
  | with_reducible refine k_lst ?_
  | ((with_reducible refine' k_aug ?kv ?_); case kv => exact rfl)
  | with_reducible refine k_ipI ?_
  | with_reducible refine k_un ?_
  | with_reducible refine k_U ?_
  | with_reducible refine k_sl ?_
  | with_reducible refine k_part ?_
  | with_reducible refine k_noPart ?_
  | with_reducible refine k_partE ?_
  | with_reducible refine k_bm ?_
  | with_reducible refine k_bm0 ?_
  | with_reducible refine k_isInt ?_
  | with_reducible refine k_isBool ?_
  | with_reducible refine k_min2 ?_
  | with_reducible refine k_max2 ?_
  | with_reducible refine m_gName ?_
  | with_reducible refine m_for ?_
  | with_reducible refine m_rng1 ?_
  | ((with_reducible refine m_rng1n ?kv ?_); case kv => walk_at "arith")
  | ((with_reducible refine m_rng1e ?kv ?_); case kv => walk_at "arith")
  | with_reducible refine m_rng2 ?_
  | ((with_reducible refine m_rng2e ?kv ?_); case kv => walk_at "arith")
  | with_reducible refine m_iL ?_
  | with_reducible refine m_iT ?_
  | with_reducible refine m_lc ?_
  | ((with_reducible refine k_disp ?kv ?_); case kv => (first | decide | (simp only [List.length_cons, List.length_nil]; omega)))
  | with_reducible refine m_rev ?_
  | with_reducible refine m_enum ?_
  | with_reducible refine m_zip ?_
  | with_reducible refine m_rng3 ?_
  | with_reducible refine m_gCons ?_
  | with_reducible refine m_gNil ?_
  | with_reducible refine m_gSub ?_
  | with_reducible refine m_par ?_
  | with_reducible refine m_parE ?_
  | with_reducible refine m_wbody ?_
  | with_reducible refine k_yes ?_
  | with_reducible refine k_T ?_
  | with_reducible refine k_F ?_
  | with_reducible refine k_nT ?_
  | with_reducible refine k_nF ?_)
local macro_rules | `(tactic| walk_at "cond") => `(tactic| first | exact ⟨by decide, by decide⟩ | omega | decide | exact ⟨by omega, by omega⟩ | exact ⟨by omega, by omega, by decide⟩ | exact Or.inr (by omega) | exact Or.inr (by decide) | exact Or.inl (by omega) | exact Or.inl (by decide) | assumption)
local macro_rules | `(tactic| walk_at "st") => `(tactic| repeat (walk_at "s1"))
local macro_rules | `(tactic| walk_at "look") => `(tactic| first | exact rfl | (simp only [List.getElem?_set, List.getElem?_cons_zero, List.getElem?_cons_succ]; exact rfl))
local macro_rules | `(tactic| walk_at "if") => `(tactic| first | with_reducible apply k_dec | with_reducible apply k_ndec)
local macro_rules | `(tactic| walk_at "arith") => `(tactic| first | decide | omega | (simp only [List.length_map, List.length_take, List.length_drop, List.length_append, List.length_cons, List.length_nil] at *; first | omega | (split <;> omega) | (split <;> split <;> omega)))
namespace Tw
/-! ### bits of a number -/
/-- the bit k of b -/
def bit (b : Int) (k : Nat) : Int := b / 2 ^ k % 2
theorem bit_cases (b : Int) (k : Nat) : bit b k = 0 ∨ bit b k = 1 := by unfold bit; omega
/-- the ones among the first n bits -/
def onesIn (b : Int) : Nat → Int
  | 0 => 0
  | n + 1 => onesIn b n + bit b n
theorem onesIn_mono1 (b : Int) (n : Nat) : onesIn b n ≤ onesIn b (n + 1) ∧ onesIn b (n + 1) ≤ onesIn b n + 1 := by
  show onesIn b n ≤ onesIn b n + bit b n ∧ onesIn b n + bit b n ≤ _
  have := bit_cases b n; omega
theorem onesIn_mono (b : Int) (n m : Nat) (h : n ≤ m) : onesIn b n ≤ onesIn b m := by
  induction m with
  | zero => have : n = 0 := by omega
            subst this; exact Int.le_refl _
  | succ m ih =>
    rcases Nat.lt_or_ge m n with q | q
    · have : n = m + 1 := by omega
      subst this; exact Int.le_refl _
    · have := ih q; have := onesIn_mono1 b m; omega
theorem onesIn_range (b : Int) (n : Nat) : 0 ≤ onesIn b n ∧ onesIn b n ≤ n := by
  induction n with
  | zero => exact ⟨Int.le_refl _, Int.le_refl _⟩
  | succ n ih => have := onesIn_mono1 b n; omega
theorem sum_range_succ (f : Nat → Int) (n : Nat) : ((List.range (n + 1)).map f).sum = ((List.range n).map f).sum + f n := by
  rw [List.range_succ, List.map_append, List.sum_append]; simp
theorem onesIn_sum (b : Int) (n : Nat) : ((List.range n).map fun k => bit b k).sum = onesIn b n := by
  induction n with
  | zero => rfl
  | succ n ih => rw [sum_range_succ, ih]; rfl
theorem halve (b : Int) (k : Nat) : b / 2 ^ k / 2 = b / 2 ^ (k + 1) := by
  rw [Int.pow_succ, Int.ediv_ediv_of_nonneg]
  exact Int.le_of_lt (Int.pow_pos (by decide))

/-! ### promises -/
/-- ones_in(b, u) -/
def sp_ones_in (_ : PySem.W.Frag) : Sp := fun vs H Q _ => ∃ (b : Int) (u : Nat), vs = [.int b, .int (u : Int)] ∧ u ≤ 1000 ∧ ∀ H', Same H H' → Q (.int (onesIn b u)) H'
theorem len_ones_in (K : PySem.W.Frag) : ∀ vs H Q E, sp_ones_in K vs H Q E → vs.length = 2 := by
  rintro vs H Q E ⟨b, u, rfl, _⟩; rfl
def t_ones_in (K : PySem.W.Frag) : TS :=
  (tRet (tCB (rSum K) (tCons (tLc (iRng1 (tCons (tVar 1) tNil)) (gName 2) tYes (tOp rAnd1 (tOp rShr (tVar 0) (tVar 2)) (tC (.int 1))) [2]) tNil)))
abbrev n_ones_in : List Str := ["block", "upto", "k"]

theorem rd_ones_in (K : PySem.W.Frag) (vs : List V) (H : Hp) (Q : VK) (E : XK) (h : sp_ones_in K vs H Q E) : t_ones_in K { nx := fun _ H' => Q .non H', rt := Q } (start n_ones_in vs) H := by
  obtain ⟨b, u, rfl, hu, q⟩ := h
  unfold t_ones_in
  walk_at "st"
  refine comp_rangeV (n := u) (f := fun k => .int (bit b k)) (by omega) (fun k H2 Q2 _ _ q2 => ?_) (fun p H' _ s e => ?_)
  · walk_at "st"
    exact q2 _ (Same.refl _)
  · walk_at "st"
    refine k_sum (ns := (List.range u).map fun k => bit b k) (.of ?_) ?_
    · rw [e, List.map_map]; rfl
    · rw [onesIn_sum]; walk_at "st"; exact q _ s

/-- the net of the first k bits -/
def net (b : Int) (k : Nat) : Int := 2 * onesIn b k - k
theorem net_succ (b : Int) (k : Nat) : net b (k + 1) = net b k + (2 * bit b k - 1) := by
  unfold net; show 2 * (onesIn b k + bit b k) - ((k + 1 : Nat) : Int) = _
  push_cast; omega
theorem net_zero (b : Int) : net b 0 = 0 := rfl
/-- the least net of the first 1 .. n bits, 1 at none -/
def lowIn (b : Int) : Nat → Int
  | 0 => 1
  | n + 1 => if net b (n + 1) < lowIn b n then net b (n + 1) else lowIn b n
theorem lowIn_le (b : Int) (n : Nat) : ∀ k, 1 ≤ k → k ≤ n → lowIn b n ≤ net b k := by
  induction n with
  | zero => intro k h1 h2; omega
  | succ n ih =>
    intro k h1 h2
    unfold lowIn
    rcases Nat.lt_or_ge k (n + 1) with h | h
    · have := ih k h1 (by omega); split <;> omega
    · have : k = n + 1 := by omega
      subst this; split <;> omega
theorem net_one (b : Int) : net b 1 ≤ 1 := by
  rw [net_succ, net_zero]; have := bit_cases b 0; omega
theorem lowIn_mem (b : Int) (n : Nat) (hn : 1 ≤ n) : ∃ k, 1 ≤ k ∧ k ≤ n ∧ lowIn b n = net b k := by
  induction n with
  | zero => omega
  | succ n ih =>
    unfold lowIn
    rcases Nat.eq_zero_or_pos n with h | h
    · subst h
      refine ⟨1, by omega, by omega, ?_⟩
      have := net_one b
      show (if net b 1 < 1 then net b 1 else 1) = net b 1
      split <;> omega
    · obtain ⟨k, h1, h2, h3⟩ := ih h
      split
      · exact ⟨n + 1, by omega, by omega, rfl⟩
      · exact ⟨k, h1, by omega, h3⟩

/-- low_in(b, u) -/
def sp_low_in (_ : PySem.W.Frag) : Sp := fun vs H Q _ => ∃ (b : Int) (u : Nat), vs = [.int b, .int (u : Int)] ∧ u ≤ 1000 ∧ Q (.int (lowIn b u)) H
theorem len_low_in (K : PySem.W.Frag) : ∀ vs H Q E, sp_low_in K vs H Q E → vs.length = 2 := by
  rintro vs H Q E ⟨x, y, rfl, _⟩; rfl
def t_low_in (K : PySem.W.Frag) : TS :=
  (tSeq (tAsg (tC (.int 0)) (gName 2))
  (tSeq (tAsg (tC (.int 1)) (gName 3))
  (tSeq (tFor (iRng1 (tCons (tVar 1) tNil)) (gName 4)
  (tSeq (tAug 2 (tOp rMinus (tOp rTimes (tC (.int 2)) (tOp rAnd1 (tOp rShr (tVar 0) (tVar 4)) (tC (.int 1)))) (tC (.int 1))) (ipI fun i j => i + j))
  (tAsg (tCB rMin2 (tCons (tVar 3) (tCons (tVar 2) tNil))) (gName 3))))
  (tRet (tVar 3)))))
abbrev n_low_in : List Str := ["block", "upto", "net", "least", "k"]

theorem rd_low_in (K : PySem.W.Frag) (vs : List V) (H : Hp) (Q : VK) (E : XK) (h : sp_low_in K vs H Q E) : t_low_in K { nx := fun _ H' => Q .non H', rt := Q } (start n_low_in vs) H := by
  obtain ⟨b, u, rfl, hu, q⟩ := h
  unfold t_low_in
  walk_at "st"
  refine loop_range0 (fun i σ H' => ∃ y, σ = [some (.int b), some (.int (u : Int)), some (.int (net b i)), some (.int (lowIn b i)), y] ∧ H' = H) ⟨none, rfl, rfl⟩ ?_ ?_
  · rintro i σ H' hi ⟨y, rfl, rfl⟩
    walk_at "st"
    refine ⟨some (.int (i : Int)), ?_, rfl⟩
    have e : net b i + (2 * (b / 2 ^ i % 2) - 1) = net b (i + 1) := (net_succ b i).symm
    rw [show b / 2 ^ (i : Int).toNat % 2 = b / 2 ^ i % 2 from rfl, e]; rfl
  · rintro σ H' ⟨y, rfl, rfl⟩
    walk_at "st"
    exact q

/-- first_low_in(b, start, stop, goal) -/
def sp_first_low_in (_ : PySem.W.Frag) : Sp := fun vs H Q _ => ∃ (b g : Int) (s u : Nat), vs = [.int b, .int (s : Int), .int (u : Int), .int g] ∧ s ≤ u ∧ u ≤ 1000 ∧
  ∀ H', Same H H' → ((∀ k : Nat, s < k → k ≤ u → net b k ≤ g → (∀ j : Nat, s < j → j < k → g < net b j) → Q (.int (k : Int)) H') ∧ ((∀ k : Nat, s < k → k ≤ u → g < net b k) → Q .non H'))
theorem len_first_low_in (K : PySem.W.Frag) : ∀ vs H Q E, sp_first_low_in K vs H Q E → vs.length = 4 := by
  rintro vs H Q E ⟨x, y, z, w, rfl, _⟩; rfl
def t_first_low_in (K : PySem.W.Frag) : TS :=
  (tSeq (tAsg (tOp rMinus (tOp rTimes (tC (.int 2)) (tCall (sp_ones_in K) [] E0 (tCons (tVar 0) (tCons (tVar 1) tNil)))) (tVar 1)) (gName 4))
  (tSeq (tFor (iRng2 (tCons (tVar 1) (tCons (tVar 2) tNil))) (gName 5)
  (tSeq (tAug 4 (tOp rMinus (tOp rTimes (tC (.int 2)) (tOp rAnd1 (tOp rShr (tVar 0) (tVar 5)) (tC (.int 1)))) (tC (.int 1))) (ipI fun i j => i + j))
  (tIfS (tTest (tOp rLe (tVar 4) (tVar 3)))
  (tRet (tOp rPlus (tVar 5) (tC (.int 1))))
  tNext)))
  (tRet (tC .non))))
abbrev n_first_low_in : List Str := ["block", "start", "stop", "goal", "net", "k"]

theorem rd_first_low_in (K : PySem.W.Frag) (vs : List V) (H : Hp) (Q : VK) (E : XK) (h : sp_first_low_in K vs H Q E) : t_first_low_in K { nx := fun _ H' => Q .non H', rt := Q } (start n_first_low_in vs) H := by
  obtain ⟨b, g, s, u, rfl, hs, hu, q⟩ := h
  unfold t_first_low_in
  walk_at "st"
  refine ⟨b, s, rfl, by omega, fun H1 s1 => ?_⟩
  obtain ⟨q1, q2⟩ := q H1 s1
  walk_at "st"
  refine loop_range (fun i σ H' => ∃ y, σ = [some (.int b), some (.int (s : Int)), some (.int (u : Int)), some (.int g), some (.int (net b (s + i))), y] ∧ H' = H1 ∧ ∀ k : Nat, s < k → k ≤ s + i → g < net b k) ⟨none, rfl, rfl, fun k h1 h2 => by omega⟩ ?_ ?_
  · rintro i σ H' hi ⟨y, rfl, rfl, hall⟩
    have hi : s + i < u := by omega
    rw [show ((s : Int) + (i : Int)) = ((s + i : Nat) : Int) by push_cast; rfl]
    walk_at "st"
    have e : net b (s + i) + (2 * (b / 2 ^ (((s + i : Nat) : Int)).toNat % 2) - 1) = net b (s + (i + 1)) := (net_succ b (s + i)).symm
    rw [e]
    walk_at "if" <;> intro c
    · walk_at "st"
      exact q1 (s + i + 1) (by omega) (by omega) c fun j h1 h2 => hall j h1 (by omega)
    · walk_at "st"
      refine ⟨_, rfl, rfl, fun k h1 h2 => ?_⟩
      rcases Nat.lt_or_ge k (s + i + 1) with h | h
      · exact hall k h1 (by omega)
      · have : k = s + (i + 1) := by omega
        subst this; omega
  · rintro σ H' ⟨y, rfl, rfl, hall⟩
    walk_at "st"
    exact q2 fun k h1 h2 => hall k h1 (by omega)

/-- last_low_in(b, start, stop, goal) -/
def sp_last_low_in (_ : PySem.W.Frag) : Sp := fun vs H Q _ => ∃ (b g : Int) (s u : Nat), vs = [.int b, .int (s : Int), .int (u : Int), .int g] ∧ s ≤ u ∧ u ≤ 1000 ∧
  ∀ H', Same H H' → ((∀ k : Nat, s < k → k ≤ u → net b k ≤ g → (∀ j : Nat, k < j → j ≤ u → g < net b j) → Q (.int (k : Int)) H') ∧ ((∀ k : Nat, s < k → k ≤ u → g < net b k) → Q .non H'))
theorem len_last_low_in (K : PySem.W.Frag) : ∀ vs H Q E, sp_last_low_in K vs H Q E → vs.length = 4 := by
  rintro vs H Q E ⟨x, y, z, w, rfl, _⟩; rfl
theorem rgC_down {s u : Nat} (h : s ≤ u) (hu : u ≤ 100000) : RgC (u : Int) (s : Int) (-1) (u - s) := by
  have e := RgC.neg (i := (u : Int)) (j := (s : Int)) (by omega) (by omega) (by omega) (by omega)
  rw [show ((u : Int) - (s : Int)).toNat = u - s by omega] at e
  exact e
def t_last_low_in (K : PySem.W.Frag) : TS :=
  (tSeq (tAsg (tOp rMinus (tOp rTimes (tC (.int 2)) (tCall (sp_ones_in K) [] E0 (tCons (tVar 0) (tCons (tVar 2) tNil)))) (tVar 2)) (gName 4))
  (tSeq (tFor (iRng3 (tCons (tVar 2) (tCons (tVar 1) (tCons (tUn rNeg (tC (.int 1))) tNil)))) (gName 5)
  (tSeq (tIfS (tTest (tOp rLe (tVar 4) (tVar 3)))
  (tRet (tVar 5))
  tNext)
  (tAug 4 (tOp rMinus (tOp rTimes (tC (.int 2)) (tOp rAnd1 (tOp rShr (tVar 0) (tOp rMinus (tVar 5) (tC (.int 1)))) (tC (.int 1)))) (tC (.int 1))) (ipI fun i j => i - j))))
  (tRet (tC .non))))
abbrev n_last_low_in : List Str := ["block", "start", "stop", "goal", "net", "k"]

theorem rd_last_low_in (K : PySem.W.Frag) (vs : List V) (H : Hp) (Q : VK) (E : XK) (h : sp_last_low_in K vs H Q E) : t_last_low_in K { nx := fun _ H' => Q .non H', rt := Q } (start n_last_low_in vs) H := by
  obtain ⟨b, g, s, u, rfl, hs, hu, q⟩ := h
  unfold t_last_low_in
  walk_at "st"
  refine ⟨b, u, rfl, by omega, fun H1 s1 => ?_⟩
  obtain ⟨q1, q2⟩ := q H1 s1
  walk_at "st"
  refine m_rng3e (n := u - s) (rgC_down hs (by omega)) ?_
  refine loop_walk walk_rangeC (fun i σ H' => ∃ y, σ = [some (.int b), some (.int (s : Int)), some (.int (u : Int)), some (.int g), some (.int (net b (u - i))), y] ∧ H' = H1 ∧ i ≤ u - s ∧ ∀ k : Nat, u - i < k → k ≤ u → g < net b k) ⟨none, rfl, rfl, Nat.zero_le _, fun k h1 h2 => by omega⟩ (fun _ _ _ _ => trivial) ?_ ?_
  · rintro i x σ H' H'' hi ⟨y, rfl, rfl, _, hall⟩ ⟨rfl, rfl⟩
    dsimp only
    rw [show ((u : Int) + ((i : Nat) : Int) * -1) = ((u - i : Nat) : Int) by omega]
    walk_at "st"
    walk_at "if" <;> intro c
    · walk_at "st"
      exact q1 (u - i) (by omega) (by omega) c fun j h1 h2 => hall j h1 h2
    · walk_at "st"
      obtain ⟨r, hr⟩ : ∃ r, u - i = r + 1 := ⟨u - i - 1, by omega⟩
      refine ⟨some (.int ((u - i : Nat) : Int)), ?_, rfl, by omega, fun k h1 h2 => ?_⟩
      · have e : net b (u - i) - (2 * (b / 2 ^ (((u - i : Nat) : Int) - 1).toNat % 2) - 1) = net b (u - (i + 1)) := by
          rw [show u - (i + 1) = r by omega, hr, net_succ, show ((((r + 1 : Nat) : Int)) - 1).toNat = r by omega]
          show net b r + (2 * bit b r - 1) - (2 * bit b r - 1) = _
          omega
        rw [e]; rfl
      · rcases Nat.lt_or_ge (u - i) k with h | h
        · exact hall k h h2
        · have : k = u - i := by omega
          subst this; omega
  · rintro σ H' ⟨y, rfl, rfl, _, hall⟩
    walk_at "st"
    exact q2 fun k h1 h2 => hall k (by omega) h2

/-- _law_cell_at(script, k) -/
def sp_law_cell_at (K : PySem.W.Frag) : Sp := fun vs H Q _ => ∃ (a : Addr) (ns : List Int) (k : Int), vs = [.ref a, .int k] ∧ SqL K H a (ns.map V.int) ∧ 0 ≤ k ∧ ∀ c : Int, c = ns.getD k.toNat 0 → Q (.int c) H
theorem len_law_cell_at (K : PySem.W.Frag) : ∀ vs H Q E, sp_law_cell_at K vs H Q E → vs.length = 2 := by
  rintro vs H Q E ⟨x, y, z, rfl, _⟩; rfl
def t_law_cell_at (K : PySem.W.Frag) : TS :=
  (tSeq (tIfS (tTest (tOp rLt (tVar 1) (tCB (rLen K) (tCons (tVar 0) tNil))))
  (tRet (tOp (rIxL K) (tVar 0) (tVar 1)))
  tNext)
  (tRet (tC (.int 0))))
abbrev n_law_cell_at : List Str := ["_law_script", "_law_k"]

theorem rd_law_cell_at (K : PySem.W.Frag) (vs : List V) (H : Hp) (Q : VK) (E : XK) (h : sp_law_cell_at K vs H Q E) : t_law_cell_at K { nx := fun _ H' => Q .non H', rt := Q } (start n_law_cell_at vs) H := by
  obtain ⟨a, ns, k, rfl, hS, hk, q⟩ := h
  unfold t_law_cell_at
  walk_at "st"
  refine k_lenL hS ?_
  walk_at "st"
  rw [List.length_map]
  walk_at "if" <;> intro c
  · walk_at "st"
    have hlt : k.toNat < ns.length := by omega
    refine k_ixL hS (at_int hk (mapint (List.getElem?_eq_getElem hlt))) ?_
    walk_at "st"
    exact q _ (by rw [List.getD_eq_getElem?_getD, List.getElem?_eq_getElem hlt]; rfl)
  · walk_at "st"
    exact q _ (by rw [List.getD_eq_getElem?_getD, List.getElem?_eq_none (by omega)]; rfl)
theorem call_cell_at {K : PySem.W.Frag} {H : Hp} {Q : VK} {E : XK} {a : Addr} {ns : List Int} {k : Int} (hS : SqL K H a (ns.map V.int)) (hk : 0 ≤ k) (q : ∀ c : Int, c = ns.getD k.toNat 0 → Q (.int c) H) : sp_law_cell_at K [.ref a, .int k] H Q E :=
  ⟨a, ns, k, rfl, hS, hk, q⟩

/-- _law_whole(x) -/
def sp_law_whole (_ : PySem.W.Frag) : Sp := fun vs H Q _ => ∃ x : V, vs = [x] ∧ ((∃ n : Int, x = .int n ∧ Q (.bl true) H) ∨ (x = .non ∧ Q (.bl false) H))
theorem whole_int {K : PySem.W.Frag} {H : Hp} {Q : VK} {E : XK} {n : Int} (q : Q (.bl true) H) : sp_law_whole K [.int n] H Q E := ⟨_, rfl, .inl ⟨n, rfl, q⟩⟩
theorem whole_non {K : PySem.W.Frag} {H : Hp} {Q : VK} {E : XK} (q : Q (.bl false) H) : sp_law_whole K [.non] H Q E := ⟨_, rfl, .inr ⟨rfl, q⟩⟩
theorem len_law_whole (K : PySem.W.Frag) : ∀ vs H Q E, sp_law_whole K vs H Q E → vs.length = 1 := by
  rintro vs H Q E ⟨x, rfl, _⟩; rfl
def t_law_whole (K : PySem.W.Frag) : TS :=
  (tRet (tAndV (tCB rIsB (tCons (tVar 0) (tCons (tC (.ty "int")) tNil))) (tNotV (tCB rIsB (tCons (tVar 0) (tCons (tC (.ty "bool")) tNil))))))
abbrev n_law_whole : List Str := ["_law_found"]

theorem rd_law_whole (K : PySem.W.Frag) (vs : List V) (H : Hp) (Q : VK) (E : XK) (h : sp_law_whole K vs H Q E) : t_law_whole K { nx := fun _ H' => Q .non H', rt := Q } (start n_law_whole vs) H := by
  obtain ⟨x, rfl, (⟨n, rfl, q⟩ | ⟨rfl, q⟩)⟩ := h
  · unfold t_law_whole
    walk_at "st"
    exact q
  · unfold t_law_whole
    walk_at "st"
    refine k_isIntN ?_
    walk_at "st"
    exact q

/-- _law_block(c): some block -/
def sp_law_block (_ : PySem.W.Frag) : Sp := fun vs H Q _ => ∃ c : Int, vs = [.int c] ∧ ∀ b : Int, Q (.int b) H
theorem len_law_block (K : PySem.W.Frag) : ∀ vs H Q E, sp_law_block K vs H Q E → vs.length = 1 := by
  rintro vs H Q E ⟨x, rfl, _⟩; rfl
def t_law_block (K : PySem.W.Frag) : TS :=
  (tSeq (tAsg (tOp rMod (tVar 0) (tC (.int 4294967296))) (gName 1))
  (tSeq (tAsg (tOp rMod (tOp rDiv (tVar 1) (tC (.int 5))) (tC (.int 24))) (gName 2))
  (tSeq (tIfS (tTest (tOp rEq (tVar 2) (tC (.int 1))))
  (tRet (tC (.int 0)))
  tNext)
  (tSeq (tIfS (tTest (tOp rEq (tVar 2) (tC (.int 2))))
  (tRet (tC (.int 4294967295)))
  tNext)
  (tSeq (tIfS (tTest (tOp rEq (tVar 2) (tC (.int 3))))
  (tRet (tC (.int 1431655765)))
  tNext)
  (tRet (tVar 1)))))))
abbrev n_law_block : List Str := ["_law_cell", "_law_block_here", "_law_way"]

theorem rd_law_block (K : PySem.W.Frag) (vs : List V) (H : Hp) (Q : VK) (E : XK) (h : sp_law_block K vs H Q E) : t_law_block K { nx := fun _ H' => Q .non H', rt := Q } (start n_law_block vs) H := by
  obtain ⟨c, rfl, q⟩ := h
  unfold t_law_block
  walk_at "st"
  walk_at "if" <;> intro _
  · walk_at "st"; exact q _
  · walk_at "st"
    walk_at "if" <;> intro _
    · walk_at "st"; exact q _
    · walk_at "st"
      walk_at "if" <;> intro _
      · walk_at "st"; exact q _
      · walk_at "st"; exact q _
/-- _law_nets(b) -/
def netL (b : Int) (n : Nat) : List Int := (List.range n).map fun k => net b k
theorem netL_len (b : Int) (n : Nat) : (netL b n).length = n := by unfold netL; simp
theorem netL_succ (b : Int) (n : Nat) : netL b (n + 1) = netL b n ++ [net b n] := by unfold netL; rw [List.range_succ, List.map_append]; rfl
theorem netL_get (b : Int) {n k : Nat} (h : k < n) : (netL b n)[k]? = some (net b k) := by unfold netL; simp [h]
def sp_law_nets (_ : PySem.W.Frag) : Sp := fun vs H Q _ => ∃ b : Int, vs = [.int b] ∧ ∀ p H', H p = none → Same H H' → H' p = some (.lst ((netL b 33).map V.int)) → Q (.ref p) H'
theorem len_law_nets (K : PySem.W.Frag) : ∀ vs H Q E, sp_law_nets K vs H Q E → vs.length = 1 := by
  rintro vs H Q E ⟨x, rfl, _⟩; rfl
def t_law_nets (K : PySem.W.Frag) : TS :=
  (tSeq (tAsg (tLst (tCons (tC (.int 0)) tNil)) (gName 1))
  (tSeq (tAsg (tVar 0) (gName 2))
  (tSeq (tFor (iRng1 (tCons (tC (.int 32)) tNil)) (gName 3)
  (tSeq (tDrop (tBM K "list" rAppend (tVar 1) (tCons (tOp rMinus (tOp rPlus (tOp (rIxL K) (tVar 1) (tUn rNeg (tC (.int 1)))) (tOp rTimes (tC (.int 2)) (tOp rMod (tVar 2) (tC (.int 2))))) (tC (.int 1))) tNil)))
  (tAsg (tOp rDiv (tVar 2) (tC (.int 2))) (gName 2))))
  (tRet (tVar 1)))))
abbrev n_law_nets : List Str := ["_law_block_here", "_law_nets_here", "_law_rest", "_law_k"]

theorem rd_law_nets (K : PySem.W.Frag) (vs : List V) (H : Hp) (Q : VK) (E : XK) (h : sp_law_nets K vs H Q E) : t_law_nets K { nx := fun _ H' => Q .non H', rt := Q } (start n_law_nets vs) H := by
  obtain ⟨b, rfl, q⟩ := h
  unfold t_law_nets
  walk_at "st"
  intro p hp
  walk_at "st"
  refine loop_range0 (fun i σ H' => ∃ y, σ = [some (.int b), some (.ref p), some (.int (b / 2 ^ i)), y] ∧ Same H H' ∧ H' p = some (.lst ((netL b (i + 1)).map V.int))) ⟨none, ?_, same_new hp, ?_⟩ ?_ ?_
  · rw [show b / 2 ^ 0 = b by simp]; rfl
  · rw [upd_same]; rfl
  · rintro i σ H' hi ⟨y, rfl, s, e⟩
    have hi : i < 32 := hi
    walk_at "st"
    refine k_tyL (.of e) ?_
    walk_at "st"
    refine k_ixL (.of e) (x := .int (net b i)) ?_ ?_
    · rw [netL_succ, List.map_append]; exact atI_last _ _
    walk_at "st"
    refine k_app e ?_ ?_
    · rw [List.length_map, netL_len]; omega
    walk_at "st"
    refine ⟨some (.int (i : Int)), ?_, Same.mut s hp, ?_⟩
    · rw [halve]; rfl
    · have e2 : net b i + 2 * (b / 2 ^ i % 2) - 1 = net b (i + 1) := by rw [net_succ]; show _ = net b i + (2 * (b / 2 ^ i % 2) - 1); omega
      rw [upd_same, e2, netL_succ b (i + 1), List.map_append]; rfl
  · rintro σ H' ⟨y, rfl, s, e⟩
    walk_at "st"
    exact q p H' hp s e
/-- _law_due(found, due): both alike -/
def sp_law_due (_ : PySem.W.Frag) : Sp := fun vs H Q _ => ∃ x : V, vs = [x, x] ∧ (x = .non ∨ ∃ n : Int, x = .int n) ∧ Q (.bl true) H
theorem len_law_due (K : PySem.W.Frag) : ∀ vs H Q E, sp_law_due K vs H Q E → vs.length = 2 := by
  rintro vs H Q E ⟨x, rfl, _⟩; rfl
def t_law_due (K : PySem.W.Frag) : TS :=
  (tSeq (tIfS (tTest (tOp rIsN (tVar 1) (tC .non)))
  (tRet (tOp rIsN (tVar 0) (tC .non)))
  tNext)
  (tRet (tAndV (tCall (sp_law_whole K) [] E0 (tCons (tVar 0) tNil)) (tOp rEq (tVar 0) (tVar 1)))))
abbrev n_law_due : List Str := ["_law_found", "_law_due_here"]

theorem rd_law_due (K : PySem.W.Frag) (vs : List V) (H : Hp) (Q : VK) (E : XK) (h : sp_law_due K vs H Q E) : t_law_due K { nx := fun _ H' => Q .non H', rt := Q } (start n_law_due vs) H := by
  obtain ⟨x, rfl, (rfl | ⟨n, rfl⟩), q⟩ := h
  · unfold t_law_due
    walk_at "st"
    refine k_decT rfl ?_
    walk_at "st"
    exact q
  · unfold t_law_due
    walk_at "st"
    refine k_decF (fun z => nomatch z) ?_
    walk_at "st"
    refine whole_int ?_
    walk_at "st"
    rw [decide_eq_true rfl]
    exact q
/-- _law_end(n): 0 to 32 -/
def sp_law_end (_ : PySem.W.Frag) : Sp := fun vs H Q _ => ∃ n : Int, vs = [.int n] ∧ ∀ (r : Nat) H', r ≤ 32 → Same H H' → Q (.int (r : Int)) H'
theorem len_law_end (K : PySem.W.Frag) : ∀ vs H Q E, sp_law_end K vs H Q E → vs.length = 1 := by
  rintro vs H Q E ⟨x, rfl, _⟩; rfl
def t_law_end (K : PySem.W.Frag) : TS :=
  (tRet (tOp (rIxL K) (tLst (tCons (tOp rMod (tOp rDiv (tVar 0) (tC (.int 3))) (tC (.int 33))) (tCons (tOp rMod (tOp rDiv (tVar 0) (tC (.int 3))) (tC (.int 33))) (tCons (tOp (rIxL K) (tLst (tCons (tC (.int 0)) (tCons (tC (.int 32)) tNil))) (tOp rMod (tOp rDiv (tVar 0) (tC (.int 3))) (tC (.int 2)))) tNil)))) (tOp rMod (tVar 0) (tC (.int 3)))))
abbrev n_law_end : List Str := ["_law_number"]

theorem rd_law_end (K : PySem.W.Frag) (vs : List V) (H : Hp) (Q : VK) (E : XK) (h : sp_law_end K vs H Q E) : t_law_end K { nx := fun _ H' => Q .non H', rt := Q } (start n_law_end vs) H := by
  obtain ⟨n, rfl, q⟩ := h
  unfold t_law_end
  walk_at "st"
  intro p hp
  walk_at "st"
  obtain ⟨m, em, hm⟩ : ∃ m : Nat, ([V.int 0, V.int 32] : List V)[(n / 3 % 2).toNat]? = some (.int (m : Int)) ∧ m ≤ 32 := by
    have h2 : (n / 3 % 2).toNat = 0 ∨ (n / 3 % 2).toNat = 1 := by omega
    rcases h2 with e | e
    · exact ⟨0, by rw [e]; rfl, by omega⟩
    · exact ⟨32, by rw [e]; rfl, by omega⟩
  refine k_ixL (.of upd_same) (at_int (by omega) em) ?_
  walk_at "st"
  intro p2 hp2
  walk_at "st"
  obtain ⟨r, er, hr⟩ : ∃ r : Nat, ([V.int (n / 3 % 33), V.int (n / 3 % 33), V.int (m : Int)] : List V)[(n % 3).toNat]? = some (.int (r : Int)) ∧ r ≤ 32 := by
    have h3 : (n % 3).toNat = 0 ∨ (n % 3).toNat = 1 ∨ (n % 3).toNat = 2 := by omega
    have e0 : (((n / 3 % 33).toNat : Nat) : Int) = n / 3 % 33 := by omega
    rcases h3 with e | e | e
    · exact ⟨(n / 3 % 33).toNat, by rw [e, e0]; rfl, by omega⟩
    · exact ⟨(n / 3 % 33).toNat, by rw [e, e0]; rfl, by omega⟩
    · exact ⟨m, by rw [e]; rfl, hm⟩
  refine k_ixL (.of upd_same) (at_int (by omega) er) ?_
  walk_at "st"
  exact q r _ hr ((same_new hp).trans (same_new hp2))
/-- _law_asked(b, nets, c) -/
def sp_law_asked (K : PySem.W.Frag) : Sp := fun vs H Q _ => ∃ (b c : Int) (a : Addr), vs = [.int b, .ref a, .int c] ∧ SqL K H a ((netL b 33).map V.int) ∧ ∀ H', Same H H' → Q (.bl true) H'
theorem len_law_asked (K : PySem.W.Frag) : ∀ vs H Q E, sp_law_asked K vs H Q E → vs.length = 3 := by
  rintro vs H Q E ⟨x, y, z, rfl, _⟩; rfl
def t_law_asked (K : PySem.W.Frag) : TS :=
  (tSeq (tAsg (tOp rMod (tOp rTimes (tVar 2) (tC (.int 48271))) (tC (.int 2147483647))) (gName 3))
  (tSeq (tAsg (tCall (sp_law_end K) [] E0 (tCons (tOp rMod (tVar 3) (tC (.int 1009))) tNil)) (gName 4))
  (tSeq (tAsg (tCall (sp_law_end K) [] E0 (tCons (tOp rMod (tOp rDiv (tVar 3) (tC (.int 1009))) (tC (.int 1009))) tNil)) (gName 5))
  (Evl.tCut (tIfS (tTest (tOp rGtI (tVar 4) (tVar 5)))
  (tPar 4 5 (tCons (tVar 5) (tCons (tVar 4) tNil)))
  tNext)
  (tSeq (tAsg (tOp rMinus (tOp rMod (tOp rMod (tOp rTimes (tVar 2) (tC (.int 69621))) (tC (.int 2147483629))) (tC (.int 69))) (tC (.int 34))) (gName 6))
  (Evl.tCut (tIfS (tTest (tOp rEq (tOp rMod (tVar 3) (tC (.int 8))) (tC (.int 1))))
  (tAsg (tOp rMinus (tOp rMod (tVar 2) (tC (.int 2000000000000000000000000000000000000000000000000000000000000))) (tC (.int 1000000000000000000000000000000000000000000000000000000000000))) (gName 6))
  tNext)
  (tSeq (tAsg (tLc (iRng2 (tCons (tOp rPlus (tVar 4) (tC (.int 1))) (tCons (tOp rPlus (tVar 5) (tC (.int 1))) tNil))) (gName 8) (tTest (tOp rLe (tOp (rIxL K) (tVar 1) (tVar 8)) (tVar 6))) (tVar 8) [8]) (gName 7))
  (tSeq (tAsg (tC .non) (gName 9))
  (tSeq (tAsg (tC .non) (gName 10))
  (Evl.tCut (tIfS (tTest (tOp rGtI (tCB (rLen K) (tCons (tVar 7) tNil)) (tC (.int 0))))
  (tSeq (tAsg (tOp (rIxL K) (tVar 7) (tC (.int 0))) (gName 9))
  (tAsg (tOp (rIxL K) (tVar 7) (tUn rNeg (tC (.int 1)))) (gName 10)))
  tNext)
  (tSeq (tIfS (tNot (tB (tCall (sp_law_due K) [] E0 (tCons (tCall (sp_first_low_in K) [] E0 (tCons (tVar 0) (tCons (tVar 4) (tCons (tVar 5) (tCons (tVar 6) tNil))))) (tCons (tVar 9) tNil)))))
  (tRet (tC (.bl false)))
  tNext)
  (tRet (tCall (sp_law_due K) [] E0 (tCons (tCall (sp_last_low_in K) [] E0 (tCons (tVar 0) (tCons (tVar 4) (tCons (tVar 5) (tCons (tVar 6) tNil))))) (tCons (tVar 10) tNil)))))))))))))))
abbrev n_law_asked : List Str := ["_law_block_here", "_law_nets_here", "_law_cell", "_law_number", "_law_start", "_law_stop", "_law_goal", "_law_due_here", "_law_k", "_law_first", "_law_last"]

theorem rd_law_asked (K : PySem.W.Frag) (vs : List V) (H : Hp) (Q : VK) (E : XK) (h : sp_law_asked K vs H Q E) : t_law_asked K { nx := fun _ H' => Q .non H', rt := Q } (start n_law_asked vs) H := by
  obtain ⟨b, c, a, rfl, hS, q⟩ := h
  unfold t_law_asked
  walk_at "st"
  refine ⟨_, rfl, fun r1 H1 hr1 s1 => ?_⟩
  walk_at "st"
  refine ⟨_, rfl, fun r2 H2 hr2 s2 => ?_⟩
  walk_at "st"
  refine m_cut (fun σ' H' => ∃ (s u : Nat) (n : Int), s ≤ u ∧ u ≤ 32 ∧ σ' = [some (.int b), some (.ref a), some (.int c), some (.int n), some (.int (s : Int)), some (.int (u : Int)), none, none, none, none, none] ∧ H' = H2) ?_ ?_
  · walk_at "st"
    walk_at "if" <;> intro g
    · walk_at "st"
      exact ⟨r2, r1, _, by omega, hr1, rfl, rfl⟩
    · walk_at "st"
      exact ⟨r1, r2, _, by omega, hr2, rfl, rfl⟩
  rintro σ' H' ⟨s, u, n, hsu, hu, rfl, rfl⟩
  walk_at "st"
  refine m_cut (fun σ' H'' => ∃ (g : Int), σ' = [some (.int b), some (.ref a), some (.int c), some (.int n), some (.int (s : Int)), some (.int (u : Int)), some (.int g), none, none, none, none] ∧ H'' = H') ?_ ?_
  · walk_at "st"
    walk_at "if" <;> intro _
    · walk_at "st"
      exact ⟨_, rfl, rfl⟩
    · walk_at "st"
      exact ⟨_, rfl, rfl⟩
  rintro σ' H'' ⟨g, rfl, rfl⟩
  have s12 : Same H H'' := s1.trans s2
  have hS2 := s12.seq hS
  walk_at "st"
  rw [show ((u : Int) + 1 - ((s : Int) + 1)).toNat = u - s by omega]
  refine comp_walkV (f := fun i => if net b (s + 1 + i) ≤ g then some (V.int ((s + 1 + i : Nat) : Int)) else none) walk_range (by omega) (fun _ _ => trivial) (fun k x H1 H3 Qb hk sk hy qb => ?_) (fun p H3 hp s3 e3 => ?_)
  · obtain ⟨rfl, rfl⟩ := hy
    dsimp only
    rw [show ((s : Int) + 1 + (k : Int)) = ((s + 1 + k : Nat) : Int) by push_cast; rfl]
    walk_at "st"
    refine k_ixL (sk.seq hS2) (at_nat (mapint (netL_get b (show s + 1 + k < 33 by omega)))) ?_
    walk_at "st"
    refine qb _ _ (Same.refl _) (fun hc Q2 H4 s4 => ⟨_, if_pos (of_decide_eq_true hc), fun q2 => ?_⟩) (fun hc => if_neg (of_decide_eq_false hc))
    walk_at "st"
    exact q2 _ (Same.refl _)
  have hlen : ((List.range (u - s)).filterMap fun i => if net b (s + 1 + i) ≤ g then some (V.int ((s + 1 + i : Nat) : Int)) else none).length ≤ 32 := by
    refine Nat.le_trans (List.length_filterMap_le _ _) ?_
    rw [List.length_range]; omega
  generalize hL : (List.range (u - s)).filterMap (fun i => if net b (s + 1 + i) ≤ g then some (V.int ((s + 1 + i : Nat) : Int)) else none) = L at e3 hlen
  have yes : ∀ i : Nat, ∀ v : V, (if net b (s + 1 + i) ≤ g then some (V.int ((s + 1 + i : Nat) : Int)) else none) = some v → net b (s + 1 + i) ≤ g ∧ v = .int ((s + 1 + i : Nat) : Int) := by
    intro i v hv
    split at hv
    · exact ⟨by assumption, (Option.some.inj hv).symm⟩
    · cases hv
  have no : ∀ i : Nat, (if net b (s + 1 + i) ≤ g then some (V.int ((s + 1 + i : Nat) : Int)) else none) = none → g < net b (s + 1 + i) := by
    intro i hv
    split at hv
    · cases hv
    · omega
  walk_at "st"
  refine m_cut (fun σ' H4 => H4 = H3 ∧ ∃ v w, σ' = [some (.int b), some (.ref a), some (.int c), some (.int n), some (.int (s : Int)), some (.int (u : Int)), some (.int g), some (.ref p), none, some v, some w] ∧
    ((v = .non ∧ w = .non ∧ ∀ k : Nat, s < k → k ≤ u → g < net b k) ∨ ∃ k j : Nat, v = .int (k : Int) ∧ w = .int (j : Int) ∧ (s < k ∧ k ≤ u ∧ net b k ≤ g ∧ ∀ i : Nat, s < i → i < k → g < net b i) ∧ (s < j ∧ j ≤ u ∧ net b j ≤ g ∧ ∀ i : Nat, j < i → i ≤ u → g < net b i))) ?_ ?_
  · walk_at "st"
    refine k_lenL (.of e3) ?_
    walk_at "st"
    walk_at "if" <;> intro hpos
    · have hne : L ≠ [] := fun z => by rw [z] at hpos; exact absurd hpos (by decide)
      obtain ⟨ys, y, rfl⟩ := snoc_of hne
      obtain ⟨i2, l1, l2, l3⟩ := fm_last hL
      have h0 : ∃ z, (ys ++ [y])[0]? = some z := by
        cases ys with
        | nil => exact ⟨y, rfl⟩
        | cons z zs => exact ⟨z, rfl⟩
      obtain ⟨z, hz⟩ := h0
      obtain ⟨i1, f1, f2, f3⟩ := fm_head (by rw [hL]; exact hz)
      obtain ⟨g1, rfl⟩ := yes _ _ f2
      obtain ⟨g2, rfl⟩ := yes _ _ l2
      walk_at "st"
      refine k_ixL (.of e3) (at_int (Int.le_refl 0) hz) ?_
      walk_at "st"
      refine k_ixL (.of e3) (atI_last _ _) ?_
      walk_at "st"
      refine ⟨rfl, _, _, rfl, .inr ⟨s + 1 + i1, s + 1 + i2, rfl, rfl, ⟨by omega, by omega, g1, fun i h1 h2 => ?_⟩, ⟨by omega, by omega, g2, fun i h1 h2 => ?_⟩⟩⟩
      · have := no (i - (s + 1)) (f3 _ (by omega))
        rw [show s + 1 + (i - (s + 1)) = i by omega] at this
        exact this
      · have := no (i - (s + 1)) (l3 _ (by omega) (by omega))
        rw [show s + 1 + (i - (s + 1)) = i by omega] at this
        exact this
    · have hnil : L = [] := by
        cases L with
        | nil => rfl
        | cons x xs => exfalso; apply hpos; simp only [List.length_cons]; omega
      subst hnil
      walk_at "st"
      refine ⟨rfl, _, _, rfl, .inl ⟨rfl, rfl, fun k h1 h2 => ?_⟩⟩
      have := no (k - (s + 1)) (fm_nil hL _ (by omega))
      rw [show s + 1 + (k - (s + 1)) = k by omega] at this
      exact this
  rintro σ' H4 ⟨rfl, v, w, rfl, hvw⟩
  walk_at "st"
  refine ⟨b, g, s, u, rfl, hsu, by omega, fun H5 s5 => ⟨fun k h1 h2 h3 h4 => ?_, fun h1 => ?_⟩⟩
  · rcases hvw with ⟨_, _, hno⟩ | ⟨k', j', rfl, rfl, ⟨a1, a2, a3, a4⟩, ⟨b1, b2, b3, b4⟩⟩
    · have := hno k h1 h2; omega
    have hkk : k = k' := by
      rcases Nat.lt_trichotomy k k' with l | l | l
      · have := a4 k h1 l; omega
      · exact l
      · have := h4 k' a1 l; omega
    subst hkk
    walk_at "st"
    refine ⟨_, rfl, .inr ⟨_, rfl⟩, ?_⟩
    walk_at "st"
    refine ⟨b, g, s, u, rfl, hsu, by omega, fun H6 s6 => ⟨fun j h5 h6 h7 h8 => ?_, fun h5 => ?_⟩⟩
    · have hjj : j = j' := by
        rcases Nat.lt_trichotomy j j' with l | l | l
        · have := h8 j' l b2; omega
        · exact l
        · have := b4 j l h6; omega
      subst hjj
      walk_at "st"
      refine ⟨_, rfl, .inr ⟨_, rfl⟩, ?_⟩
      walk_at "st"
      exact q _ ((s12.trans s3).trans (s5.trans s6))
    · have := h5 k h1 h2; omega
  · rcases hvw with ⟨rfl, rfl, hno⟩ | ⟨k', j', rfl, rfl, ⟨a1, a2, a3, a4⟩, ⟨b1, b2, b3, b4⟩⟩
    · walk_at "st"
      refine ⟨_, rfl, .inl rfl, ?_⟩
      walk_at "st"
      refine ⟨b, g, s, u, rfl, hsu, by omega, fun H6 s6 => ⟨fun j h5 h6 h7 h8 => ?_, fun h5 => ?_⟩⟩
      · have := hno j h5 h6; omega
      · walk_at "st"
        refine ⟨_, rfl, .inl rfl, ?_⟩
        walk_at "st"
        exact q _ ((s12.trans s3).trans (s5.trans s6))
    · have := h1 k' a1 a2; omega
/-- law(script) -/
def sp_law (K : PySem.W.Frag) : Sp := fun vs H Q _ => ∃ (a : Addr) (ns : List Int), vs = [.ref a] ∧ SqL K H a (ns.map V.int) ∧ ns.length ≤ 63 ∧ ∀ H', Q (.bl true) H'
theorem len_law (K : PySem.W.Frag) : ∀ vs H Q E, sp_law K vs H Q E → vs.length = 1 := by
  rintro vs H Q E ⟨x, y, rfl, _⟩; rfl

def t_law (K : PySem.W.Frag) : TS :=
  (tSeq (tAsg (tCall (sp_law_block K) [] E0 (tCons (tCall (sp_law_cell_at K) [] E0 (tCons (tVar 0) (tCons (tC (.int 0)) tNil))) tNil)) (gName 1))
  (tSeq (tAsg (tCall (sp_law_nets K) [] E0 (tCons (tVar 1) tNil)) (gName 2))
  (tSeq (tFor (iRng2 (tCons (tC (.int 1)) (tCons (tC (.int 33)) tNil))) (gName 3)
  (tIfS (tNot (tB (tCall (sp_law_due K) [] E0 (tCons (tCall (sp_low_in K) [] E0 (tCons (tVar 1) (tCons (tVar 3) tNil))) (tCons (tCB (rMin K) (tCons (tSl (rSlL K) (tVar 2) (tPart (tC (.int 1))) (tPart (tOp rPlus (tVar 3) (tC (.int 1))))) tNil)) tNil)))))
  (tRet (tC (.bl false)))
  tNext))
  (tSeq (tFor (iList K (tSl (rSlL K) (tVar 0) (tPart (tC (.int 1))) (tPart (tC (.int 41))))) (gName 4)
  (tIfS (tNot (tB (tCall (sp_law_asked K) [] E0 (tCons (tVar 1) (tCons (tVar 2) (tCons (tVar 4) tNil))))))
  (tRet (tC (.bl false)))
  tNext))
  (tRet (tC (.bl true)))))))
abbrev n_law : List Str := ["_law_script", "_law_block_here", "_law_nets_here", "_law_k", "_law_cell"]

theorem rd_law (K : PySem.W.Frag) (vs : List V) (H : Hp) (Q : VK) (E : XK) (h : sp_law K vs H Q E) : t_law K { nx := fun _ H' => Q .non H', rt := Q } (start n_law vs) H := by
  obtain ⟨a, ns, rfl, hS, hl, q⟩ := h
  unfold t_law
  walk_at "st"
  refine call_cell_at hS (by omega) fun c _ => ?_
  walk_at "st"
  refine ⟨_, rfl, fun b => ?_⟩
  walk_at "st"
  refine ⟨_, rfl, fun p H1 hp s1 e1 => ?_⟩
  walk_at "st"
  refine loop_range (fun i σ H' => ∃ y z, σ = [some (.ref a), some (.int b), some (.ref p), y, z] ∧ Same H1 H') ⟨none, none, rfl, Same.refl _⟩ ?_ ?_
  · rintro i σ H' hi ⟨y, z, rfl, s⟩
    have hi : i < 32 := hi
    rw [show ((1 : Int) + (i : Int)) = ((i + 1 : Nat) : Int) by push_cast; omega]
    walk_at "st"
    refine ⟨b, i + 1, rfl, by omega, ?_⟩
    walk_at "st"
    refine k_slL (.of (s _ _ e1)) fun l hl2 => ?_
    rw [show (((i + 1 : Nat) : Int) + 1) = ((i + 2 : Nat) : Int) by push_cast; omega, show (1 : Int) = ((1 : Nat) : Int) from rfl, cutPart]
    walk_at "st"
    have hmem : ∀ x : Int, x ∈ ((netL b 33).take (i + 2)).drop 1 ↔ ∃ k, 1 ≤ k ∧ k ≤ i + 1 ∧ x = net b k := by
      intro x
      constructor
      · intro hx
        obtain ⟨k, hk⟩ := List.mem_iff_getElem?.mp hx
        rw [List.getElem?_drop, List.getElem?_take] at hk
        split at hk
        · have h33 : 1 + k < 33 := by omega
          rw [netL_get b h33] at hk
          exact ⟨1 + k, by omega, by omega, (Option.some.inj hk).symm⟩
        · cases hk
      · rintro ⟨k, h1, h2, rfl⟩
        refine List.mem_iff_getElem?.mpr ⟨k - 1, ?_⟩
        rw [List.getElem?_drop, List.getElem?_take, if_pos (by omega), show 1 + (k - 1) = k by omega, netL_get b (by omega)]
    refine ⟨l, ((netL b 33).take (i + 2)).drop 1, rfl, .of ?_, ?_, fun m h1 h2 => ?_⟩
    · rw [upd_same, List.map_drop, List.map_take]
    · rw [List.length_drop, List.length_take, netL_len]; omega
    obtain ⟨k, k1, k2, rfl⟩ := (hmem m).mp h1
    obtain ⟨j, j1, j2, j3⟩ := lowIn_mem b (i + 1) (by omega)
    have e : net b k = lowIn b (i + 1) := by
      have g1 := h2 (net b j) ((hmem _).mpr ⟨j, j1, j2, rfl⟩)
      have g2 := lowIn_le b (i + 1) k k1 k2
      omega
    rw [e]
    walk_at "st"
    refine ⟨_, rfl, .inr ⟨_, rfl⟩, ?_⟩
    walk_at "st"
    exact ⟨_, _, rfl, s.trans (same_new hl2)⟩
  · rintro σ H' ⟨y, z, rfl, s⟩
    walk_at "st"
    refine k_slL ((s1.trans s).seq hS) fun l hl2 => ?_
    rw [show (41 : Int) = ((41 : Nat) : Int) from rfl, show (1 : Int) = ((1 : Nat) : Int) from rfl, cutPart, ← List.map_take, ← List.map_drop]
    refine m_iLe (.of upd_same) ?_
    refine loop_ints (ns := (ns.take 41).drop 1) (fun i σ H3 => ∃ y z, σ = [some (.ref a), some (.int b), some (.ref p), y, z] ∧ Same (upd H' l (.lst (((ns.take 41).drop 1).map V.int))) H3) ⟨y, z, rfl, Same.refl _⟩ (fun i σ H' ⟨y, _, _, s⟩ => .of (s _ _ upd_same)) ?_ ?_
    · rintro i n σ H3 hn ⟨y, z, rfl, s3⟩
      walk_at "st"
      refine ⟨b, n, p, rfl, .of (s3 _ _ (same_new hl2 _ _ (s _ _ e1))), fun H4 s4 => ?_⟩
      walk_at "st"
      exact ⟨_, _, rfl, s3.trans s4⟩
    · rintro σ H3 ⟨y, z, rfl, s3⟩
      walk_at "st"
      exact q _

end Tw
namespace Tw
open PySem PySem.Spec PyProof.Rows L2
/-! the text -/
def topS (i : Nat) : Stmt := PySem.Challenge.pw_thinwood_k04_nets_of_a_block.main.body.getD i (.Pass ⟨0, 0, 0, 0⟩)
abbrev s_ones_in : Stmt := topS 1
theorem sc_ones_in : FnScope n_ones_in ["block", "upto"] (defScope s_ones_in) := ⟨rfl, rfl, rfl, by decide +kernel, rfl, by decide +kernel, by decide +kernel⟩

abbrev s_low_in : Stmt := topS 2
theorem sc_low_in : FnScope n_low_in ["block", "upto"] (defScope s_low_in) := ⟨rfl, rfl, rfl, by decide +kernel, rfl, by decide +kernel, by decide +kernel⟩

abbrev s_first_low_in : Stmt := topS 3
theorem sc_first_low_in : FnScope n_first_low_in ["block", "start", "stop", "goal"] (defScope s_first_low_in) := ⟨rfl, rfl, rfl, by decide +kernel, rfl, by decide +kernel, by decide +kernel⟩

abbrev s_last_low_in : Stmt := topS 4
theorem sc_last_low_in : FnScope n_last_low_in ["block", "start", "stop", "goal"] (defScope s_last_low_in) := ⟨rfl, rfl, rfl, by decide +kernel, rfl, by decide +kernel, by decide +kernel⟩

abbrev s_law_cell_at : Stmt := topS 6
theorem sc_law_cell_at : FnScope n_law_cell_at ["_law_script", "_law_k"] (defScope s_law_cell_at) := ⟨rfl, rfl, rfl, by decide +kernel, rfl, by decide +kernel, by decide +kernel⟩

abbrev s_law_whole : Stmt := topS 7
theorem sc_law_whole : FnScope n_law_whole ["_law_found"] (defScope s_law_whole) := ⟨rfl, rfl, rfl, by decide +kernel, rfl, by decide +kernel, by decide +kernel⟩

abbrev s_law_block : Stmt := topS 8
theorem sc_law_block : FnScope n_law_block ["_law_cell"] (defScope s_law_block) := ⟨rfl, rfl, rfl, by decide +kernel, rfl, by decide +kernel, by decide +kernel⟩

abbrev s_law_nets : Stmt := topS 9
theorem sc_law_nets : FnScope n_law_nets ["_law_block_here"] (defScope s_law_nets) := ⟨rfl, rfl, rfl, by decide +kernel, rfl, by decide +kernel, by decide +kernel⟩

abbrev s_law_due : Stmt := topS 10
theorem sc_law_due : FnScope n_law_due ["_law_found", "_law_due_here"] (defScope s_law_due) := ⟨rfl, rfl, rfl, by decide +kernel, rfl, by decide +kernel, by decide +kernel⟩

abbrev s_law_end : Stmt := topS 11
theorem sc_law_end : FnScope n_law_end ["_law_number"] (defScope s_law_end) := ⟨rfl, rfl, rfl, by decide +kernel, rfl, by decide +kernel, by decide +kernel⟩

abbrev s_law_asked : Stmt := topS 12
theorem sc_law_asked : FnScope n_law_asked ["_law_block_here", "_law_nets_here", "_law_cell"] (defScope s_law_asked) := ⟨rfl, rfl, rfl, by decide +kernel, rfl, by decide +kernel, by decide +kernel⟩

abbrev s_law : Stmt := topS 13
theorem sc_law : FnScope n_law ["_law_script"] (defScope s_law) := ⟨rfl, rfl, rfl, by decide +kernel, rfl, by decide +kernel, by decide +kernel⟩

structure Tx (P : Program) (w : World) (K : PySem.W.Frag) (mg : Str → Option Value) (base : Heap) : Prop where
  d_ones_in : ∃ fd, FunD K "ones_in" "ones_in" (defArgs s_ones_in) (defBody s_ones_in) (defScope s_ones_in) [] [] (He.ga K "ones_in") fd
  g_ones_in : mg "ones_in" = some (.ref (He.ga K "ones_in"))
  d_low_in : ∃ fd, FunD K "low_in" "low_in" (defArgs s_low_in) (defBody s_low_in) (defScope s_low_in) [] [] (He.ga K "low_in") fd
  g_low_in : mg "low_in" = some (.ref (He.ga K "low_in"))
  d_first_low_in : ∃ fd, FunD K "first_low_in" "first_low_in" (defArgs s_first_low_in) (defBody s_first_low_in) (defScope s_first_low_in) [] [] (He.ga K "first_low_in") fd
  g_first_low_in : mg "first_low_in" = some (.ref (He.ga K "first_low_in"))
  d_last_low_in : ∃ fd, FunD K "last_low_in" "last_low_in" (defArgs s_last_low_in) (defBody s_last_low_in) (defScope s_last_low_in) [] [] (He.ga K "last_low_in") fd
  g_last_low_in : mg "last_low_in" = some (.ref (He.ga K "last_low_in"))
  d_law_cell_at : ∃ fd, FunD K "_law_cell_at" "_law_cell_at" (defArgs s_law_cell_at) (defBody s_law_cell_at) (defScope s_law_cell_at) [] [] (He.ga K "_law_cell_at") fd
  g_law_cell_at : mg "_law_cell_at" = some (.ref (He.ga K "_law_cell_at"))
  d_law_whole : ∃ fd, FunD K "_law_whole" "_law_whole" (defArgs s_law_whole) (defBody s_law_whole) (defScope s_law_whole) [] [] (He.ga K "_law_whole") fd
  g_law_whole : mg "_law_whole" = some (.ref (He.ga K "_law_whole"))
  d_law_block : ∃ fd, FunD K "_law_block" "_law_block" (defArgs s_law_block) (defBody s_law_block) (defScope s_law_block) [] [] (He.ga K "_law_block") fd
  g_law_block : mg "_law_block" = some (.ref (He.ga K "_law_block"))
  d_law_nets : ∃ fd, FunD K "_law_nets" "_law_nets" (defArgs s_law_nets) (defBody s_law_nets) (defScope s_law_nets) [] [] (He.ga K "_law_nets") fd
  g_law_nets : mg "_law_nets" = some (.ref (He.ga K "_law_nets"))
  d_law_due : ∃ fd, FunD K "_law_due" "_law_due" (defArgs s_law_due) (defBody s_law_due) (defScope s_law_due) [] [] (He.ga K "_law_due") fd
  g_law_due : mg "_law_due" = some (.ref (He.ga K "_law_due"))
  d_law_end : ∃ fd, FunD K "_law_end" "_law_end" (defArgs s_law_end) (defBody s_law_end) (defScope s_law_end) [] [] (He.ga K "_law_end") fd
  g_law_end : mg "_law_end" = some (.ref (He.ga K "_law_end"))
  d_law_asked : ∃ fd, FunD K "_law_asked" "_law_asked" (defArgs s_law_asked) (defBody s_law_asked) (defScope s_law_asked) [] [] (He.ga K "_law_asked") fd
  g_law_asked : mg "_law_asked" = some (.ref (He.ga K "_law_asked"))
  d_law : ∃ fd, FunD K "law" "law" (defArgs s_law) (defBody s_law) (defScope s_law) [] [] (He.ga K "law") fd
  g_law : mg "law" = some (.ref (He.ga K "law"))
  b_bool : mg "bool" = none
  b_int : mg "int" = none
  b_isinstance : mg "isinstance" = none
  b_len : mg "len" = none
  b_min : mg "min" = none
  b_range : mg "range" = none
  b_sum : mg "sum" = none
section
variable {P : Program} {w : World} {K : PySem.W.Frag} {mg : Str → Option Value} {base : Heap}
theorem ok_ones_in (T : Tx P w K mg base) : Okf P w K mg base CX0 1 "ones_in" ["block", "upto"] (sp_ones_in K) := by
  obtain ⟨fd, FD⟩ := T.d_ones_in
  refine ⟨⟨fd, FunD.look FD, FD.bindsN fun _ _ _ _ _ _ us hl => match us, hl with | [_, _], _ => rfl, ?_⟩, FD.kp, T.g_ones_in⟩
  refine FunD.ok (CX := CX0) FD sc_ones_in (len_ones_in K) (fun cdv A outer s H vs Q E hr h => ⟨t_ones_in K, PSs.nox ?_, rd_ones_in K vs H Q E h⟩)
  exact (pss_one (ps_ret (pe_callB (cr_sum rfl) (by rfl) T.b_sum (by decide +kernel) (pa_cons (pe_lc (own := [("k", 2)]) (g := (gName 2)) (tt := tYes) rfl sc_ones_in.nd (pi_range1 (by rfl) T.b_range (pa_cons (pv 1) pa_nil)) (blkOk_by (N := ["block", "upto", "k"]) (sc := defScope s_ones_in) (own := [("k", 2)]) (by decide +kernel)) (fun _ _ _ _ _ => (pg_name (i := 2) sc_ones_in.nd rfl (.inl rfl))) (fun _ _ _ _ _ => pts_nil) (fun _ _ _ _ _ => (pe_op op_and1 (pe_op op_shr (pv 0) (pv 2)) pe_int))) pa_nil))))

theorem ok_low_in (T : Tx P w K mg base) : Okf P w K mg base CX0 1 "low_in" ["block", "upto"] (sp_low_in K) := by
  obtain ⟨fd, FD⟩ := T.d_low_in
  refine ⟨⟨fd, FunD.look FD, FD.bindsN fun _ _ _ _ _ _ us hl => match us, hl with | [_, _], _ => rfl, ?_⟩, FD.kp, T.g_low_in⟩
  refine FunD.ok (CX := CX0) FD sc_low_in (len_low_in K) (fun cdv A outer s H vs Q E hr h => ⟨t_low_in K, PSs.nox ?_, rd_low_in K vs H Q E h⟩)
  exact (pss_cons (ps_set (i := 2) sc_low_in.nd rfl (.inl rfl) pe_int)
  (pss_cons (ps_set (i := 3) sc_low_in.nd rfl (.inl rfl) pe_int)
  (pss_cons (ps_for PassesOwn.never rfl (pi_range1 (by rfl) T.b_range (pa_cons (pv 1) pa_nil)) (pg_name (i := 4) sc_low_in.nd rfl (.inl rfl))
  (pss_cons (ps_aug (i := 2) sc_low_in.nd rfl (.inl rfl) (pe_op op_sub (pe_op op_mul pe_int (pe_op op_and1 (pe_op op_shr (pv 0) (pv 4)) pe_int)) pe_int) ip_add)
  (pss_one (ps_set (i := 3) sc_low_in.nd rfl (.inl rfl) (pe_callB (call_min2K rfl) (by rfl) T.b_min (by decide +kernel) (pa_cons (pv 3) (pa_cons (pv 2) pa_nil)))))))
  (pss_one (ps_ret (pv 3))))))

theorem ok_first_low_in (T : Tx P w K mg base) (o_ones_in : Okf P w K mg base CX0 1 "ones_in" ["block", "upto"] (sp_ones_in K)) : Okf P w K mg base CX0 2 "first_low_in" ["block", "start", "stop", "goal"] (sp_first_low_in K) := by
  obtain ⟨fd, FD⟩ := T.d_first_low_in
  refine ⟨⟨fd, FunD.look FD, FD.bindsN fun _ _ _ _ _ _ us hl => match us, hl with | [_, _, _, _], _ => rfl, ?_⟩, FD.kp, T.g_first_low_in⟩
  refine FunD.ok (CX := CX0) FD sc_first_low_in (len_first_low_in K) (fun cdv A outer s H vs Q E hr h => ⟨t_first_low_in K, PSs.nox ?_, rd_first_low_in K vs H Q E h⟩)
  exact (pss_cons (ps_set (i := 4) sc_first_low_in.nd rfl (.inl rfl) (pe_op op_sub (pe_op op_mul pe_int (pe_callF o_ones_in hr (by decide) (by rfl) pass0 (pa_cons (pv 0) (pa_cons (pv 1) pa_nil)))) (pv 1)))
  (pss_cons (ps_for PassesOwn.never rfl (pi_range2 (by rfl) T.b_range (pa_cons (pv 1) (pa_cons (pv 2) pa_nil))) (pg_name (i := 5) sc_first_low_in.nd rfl (.inl rfl))
  (pss_cons (ps_aug (i := 4) sc_first_low_in.nd rfl (.inl rfl) (pe_op op_sub (pe_op op_mul pe_int (pe_op op_and1 (pe_op op_shr (pv 0) (pv 5)) pe_int)) pe_int) ip_add)
  (pss_one (ps_if (pt_cmpR op_le (pv 4) (pv 3) (nomark _))
  (pss_one (ps_ret (pe_op op_add (pv 5) pe_int)))
  pss_nil))))
  (pss_one (ps_ret pe_non))))

theorem ok_last_low_in (T : Tx P w K mg base) (o_ones_in : Okf P w K mg base CX0 1 "ones_in" ["block", "upto"] (sp_ones_in K)) : Okf P w K mg base CX0 2 "last_low_in" ["block", "start", "stop", "goal"] (sp_last_low_in K) := by
  obtain ⟨fd, FD⟩ := T.d_last_low_in
  refine ⟨⟨fd, FunD.look FD, FD.bindsN fun _ _ _ _ _ _ us hl => match us, hl with | [_, _, _, _], _ => rfl, ?_⟩, FD.kp, T.g_last_low_in⟩
  refine FunD.ok (CX := CX0) FD sc_last_low_in (len_last_low_in K) (fun cdv A outer s H vs Q E hr h => ⟨t_last_low_in K, PSs.nox ?_, rd_last_low_in K vs H Q E h⟩)
  exact (pss_cons (ps_set (i := 4) sc_last_low_in.nd rfl (.inl rfl) (pe_op op_sub (pe_op op_mul pe_int (pe_callF o_ones_in hr (by decide) (by rfl) pass0 (pa_cons (pv 0) (pa_cons (pv 2) pa_nil)))) (pv 2)))
  (pss_cons (ps_for PassesOwn.never rfl (pi_range3 (by rfl) T.b_range (pa_cons (pv 2) (pa_cons (pv 1) (pa_cons (pe_un un_neg pe_int) pa_nil)))) (pg_name (i := 5) sc_last_low_in.nd rfl (.inl rfl))
  (pss_cons (ps_if (pt_cmpR op_le (pv 4) (pv 3) (nomark _))
  (pss_one (ps_ret (pv 5)))
  pss_nil)
  (pss_one (ps_aug (i := 4) sc_last_low_in.nd rfl (.inl rfl) (pe_op op_sub (pe_op op_mul pe_int (pe_op op_and1 (pe_op op_shr (pv 0) (pe_op op_sub (pv 5) pe_int)) pe_int)) pe_int) ip_sub))))
  (pss_one (ps_ret pe_non))))

theorem ok_law_cell_at (T : Tx P w K mg base) : Okf P w K mg base CX0 1 "_law_cell_at" ["_law_script", "_law_k"] (sp_law_cell_at K) := by
  obtain ⟨fd, FD⟩ := T.d_law_cell_at
  refine ⟨⟨fd, FunD.look FD, FD.bindsN fun _ _ _ _ _ _ us hl => match us, hl with | [_, _], _ => rfl, ?_⟩, FD.kp, T.g_law_cell_at⟩
  refine FunD.ok (CX := CX0) FD sc_law_cell_at (len_law_cell_at K) (fun cdv A outer s H vs Q E hr h => ⟨t_law_cell_at K, PSs.nox ?_, rd_law_cell_at K vs H Q E h⟩)
  exact (pss_cons (ps_if (pt_cmpR op_lt (pv 1) (pe_callB call_lenK (by rfl) T.b_len (by decide +kernel) (pa_cons (pv 0) pa_nil)) (nomark _))
  (pss_one (ps_ret (pe_ix ix_list (pv 0) (pv 1) (fun _ _ => rfl))))
  pss_nil)
  (pss_one (ps_ret pe_int)))

theorem ok_law_whole (T : Tx P w K mg base) : Okf P w K mg base CX0 1 "_law_whole" ["_law_found"] (sp_law_whole K) := by
  obtain ⟨fd, FD⟩ := T.d_law_whole
  refine ⟨⟨fd, FunD.look FD, FD.bindsN fun _ _ _ _ _ _ us hl => match us, hl with | [_], _ => rfl, ?_⟩, FD.kp, T.g_law_whole⟩
  refine FunD.ok (CX := CX0) FD sc_law_whole (len_law_whole K) (fun cdv A outer s H vs Q E hr h => ⟨t_law_whole K, PSs.nox ?_, rd_law_whole K vs H Q E h⟩)
  exact (pss_one (ps_ret (pe_and (pe_callB call_isB (by rfl) T.b_isinstance (by decide +kernel) (pa_cons (pv 0) (pa_cons (pe_bltn (v := .ty "int") (by rfl) T.b_int (by decide +kernel) rfl) pa_nil))) (pe_one (pe_not (pe_callB call_isB (by rfl) T.b_isinstance (by decide +kernel) (pa_cons (pv 0) (pa_cons (pe_bltn (v := .ty "bool") (by rfl) T.b_bool (by decide +kernel) rfl) pa_nil))))))))

theorem ok_law_block (T : Tx P w K mg base) : Okf P w K mg base CX0 1 "_law_block" ["_law_cell"] (sp_law_block K) := by
  obtain ⟨fd, FD⟩ := T.d_law_block
  refine ⟨⟨fd, FunD.look FD, FD.bindsN fun _ _ _ _ _ _ us hl => match us, hl with | [_], _ => rfl, ?_⟩, FD.kp, T.g_law_block⟩
  refine FunD.ok (CX := CX0) FD sc_law_block (len_law_block K) (fun cdv A outer s H vs Q E hr h => ⟨t_law_block K, PSs.nox ?_, rd_law_block K vs H Q E h⟩)
  exact (pss_cons (ps_set (i := 1) sc_law_block.nd rfl (.inl rfl) (pe_op op_mod (pv 0) (pe_cst (pe_op op_pow pe_int pe_int) fun _ _ _ h => ⟨_, _, rfl, rfl, ⟨by decide, by decide, by decide⟩, h⟩)))
  (pss_cons (ps_set (i := 2) sc_law_block.nd rfl (.inl rfl) (pe_op op_mod (pe_op op_fdiv (pv 1) pe_int) pe_int))
  (pss_cons (ps_if (pt_cmpR op_eq (pv 2) pe_int (nomark _))
  (pss_one (ps_ret pe_int))
  pss_nil)
  (pss_cons (ps_if (pt_cmpR op_eq (pv 2) pe_int (nomark _))
  (pss_one (ps_ret (pe_cst (pe_op op_sub (pe_cst (pe_op op_pow pe_int pe_int) fun _ _ _ h => ⟨_, _, rfl, rfl, ⟨by decide, by decide, by decide⟩, h⟩) pe_int) fun _ _ _ h => ⟨_, _, rfl, rfl, h⟩)))
  pss_nil)
  (pss_cons (ps_if (pt_cmpR op_eq (pv 2) pe_int (nomark _))
  (pss_one (ps_ret (pe_cst (pe_op op_fdiv (pe_cst (pe_op op_sub (pe_cst (pe_op op_pow pe_int pe_int) fun _ _ _ h => ⟨_, _, rfl, rfl, ⟨by decide, by decide, by decide⟩, h⟩) pe_int) fun _ _ _ h => ⟨_, _, rfl, rfl, h⟩) pe_int) fun _ _ _ h => ⟨_, _, rfl, rfl, ⟨by decide, by decide⟩, h⟩)))
  pss_nil)
  (pss_one (ps_ret (pv 1))))))))

theorem ok_law_nets (T : Tx P w K mg base) : Okf P w K mg base CX0 1 "_law_nets" ["_law_block_here"] (sp_law_nets K) := by
  obtain ⟨fd, FD⟩ := T.d_law_nets
  refine ⟨⟨fd, FunD.look FD, FD.bindsN fun _ _ _ _ _ _ us hl => match us, hl with | [_], _ => rfl, ?_⟩, FD.kp, T.g_law_nets⟩
  refine FunD.ok (CX := CX0) FD sc_law_nets (len_law_nets K) (fun cdv A outer s H vs Q E hr h => ⟨t_law_nets K, PSs.nox ?_, rd_law_nets K vs H Q E h⟩)
  exact (pss_cons (ps_set (i := 1) sc_law_nets.nd rfl (.inl rfl) (pe_lst (pa_cons pe_int pa_nil)))
  (pss_cons (ps_set (i := 2) sc_law_nets.nd rfl (.inl rfl) (pv 0))
  (pss_cons (ps_for PassesOwn.never rfl (pi_range1 (by rfl) T.b_range (pa_cons pe_int pa_nil)) (pg_name (i := 3) sc_law_nets.nd rfl (.inl rfl))
  (pss_cons (ps_expr (pe_bm PySem.F.plainAttrs_list PySem.F.slot_list_append PySem.F.type_list_append mt_append (pv 1) (pa_cons (pe_op op_sub (pe_op op_add (pe_ix ix_list (pv 1) (pe_un un_neg pe_int) (fun _ _ => rfl)) (pe_op op_mul pe_int (pe_op op_mod (pv 2) pe_int))) pe_int) pa_nil)))
  (pss_one (ps_set (i := 2) sc_law_nets.nd rfl (.inl rfl) (pe_op op_fdiv (pv 2) pe_int)))))
  (pss_one (ps_ret (pv 1))))))

theorem ok_law_due (T : Tx P w K mg base) (o_law_whole : Okf P w K mg base CX0 1 "_law_whole" ["_law_found"] (sp_law_whole K)) : Okf P w K mg base CX0 2 "_law_due" ["_law_found", "_law_due_here"] (sp_law_due K) := by
  obtain ⟨fd, FD⟩ := T.d_law_due
  refine ⟨⟨fd, FunD.look FD, FD.bindsN fun _ _ _ _ _ _ us hl => match us, hl with | [_, _], _ => rfl, ?_⟩, FD.kp, T.g_law_due⟩
  refine FunD.ok (CX := CX0) FD sc_law_due (len_law_due K) (fun cdv A outer s H vs Q E hr h => ⟨t_law_due K, PSs.nox ?_, rd_law_due K vs H Q E h⟩)
  exact (pss_cons (ps_if (pt_cmpR op_isN1 (pv 1) pe_non (nomark _))
  (pss_one (ps_ret (pe_cmpR op_isN1 (pv 0) pe_non (nomark _))))
  pss_nil)
  (pss_one (ps_ret (pe_and (pe_callF o_law_whole hr (by decide) (by rfl) pass0 (pa_cons (pv 0) pa_nil)) (pe_one (pe_cmpR op_eq (pv 0) (pv 1) (nomark _)))))))

theorem ok_law_end (T : Tx P w K mg base) : Okf P w K mg base CX0 1 "_law_end" ["_law_number"] (sp_law_end K) := by
  obtain ⟨fd, FD⟩ := T.d_law_end
  refine ⟨⟨fd, FunD.look FD, FD.bindsN fun _ _ _ _ _ _ us hl => match us, hl with | [_], _ => rfl, ?_⟩, FD.kp, T.g_law_end⟩
  refine FunD.ok (CX := CX0) FD sc_law_end (len_law_end K) (fun cdv A outer s H vs Q E hr h => ⟨t_law_end K, PSs.nox ?_, rd_law_end K vs H Q E h⟩)
  exact (pss_one (ps_ret (pe_ix ix_list (pe_lst (pa_cons (pe_op op_mod (pe_op op_fdiv (pv 0) pe_int) pe_int) (pa_cons (pe_op op_mod (pe_op op_fdiv (pv 0) pe_int) pe_int) (pa_cons (pe_ix ix_list (pe_lst (pa_cons pe_int (pa_cons pe_int pa_nil))) (pe_op op_mod (pe_op op_fdiv (pv 0) pe_int) pe_int) (fun _ _ => rfl)) pa_nil)))) (pe_op op_mod (pv 0) pe_int) (fun _ _ => rfl))))

theorem ok_law_asked (T : Tx P w K mg base) (o_law_end : Okf P w K mg base CX0 1 "_law_end" ["_law_number"] (sp_law_end K)) (o_law_due : Okf P w K mg base CX0 2 "_law_due" ["_law_found", "_law_due_here"] (sp_law_due K)) (o_first_low_in : Okf P w K mg base CX0 2 "first_low_in" ["block", "start", "stop", "goal"] (sp_first_low_in K)) (o_last_low_in : Okf P w K mg base CX0 2 "last_low_in" ["block", "start", "stop", "goal"] (sp_last_low_in K)) : Okf P w K mg base CX0 3 "_law_asked" ["_law_block_here", "_law_nets_here", "_law_cell"] (sp_law_asked K) := by
  obtain ⟨fd, FD⟩ := T.d_law_asked
  refine ⟨⟨fd, FunD.look FD, FD.bindsN fun _ _ _ _ _ _ us hl => match us, hl with | [_, _, _], _ => rfl, ?_⟩, FD.kp, T.g_law_asked⟩
  refine FunD.ok (CX := CX0) FD sc_law_asked (len_law_asked K) (fun cdv A outer s H vs Q E hr h => ⟨t_law_asked K, PSs.nox ?_, rd_law_asked K vs H Q E h⟩)
  exact (pss_cons (ps_set (i := 3) sc_law_asked.nd rfl (.inl rfl) (pe_op op_mod (pe_op op_mul (pv 2) pe_int) pe_int))
  (pss_cons (ps_set (i := 4) sc_law_asked.nd rfl (.inl rfl) (pe_callF o_law_end hr (by decide) (by rfl) pass0 (pa_cons (pe_op op_mod (pv 3) pe_int) pa_nil)))
  (pss_cons (ps_set (i := 5) sc_law_asked.nd rfl (.inl rfl) (pe_callF o_law_end hr (by decide) (by rfl) pass0 (pa_cons (pe_op op_mod (pe_op op_fdiv (pv 3) pe_int) pe_int) pa_nil)))
  (Evl.pss_cut (ps_if (pt_cmpR op_gt (pv 4) (pv 5) (nomark _))
  (pss_one (ps_par rfl sc_law_asked.nd rfl rfl (by decide) rfl rfl (pa_cons (pv 5) (pa_cons (pv 4) pa_nil)) (by rfl)))
  pss_nil)
  (pss_cons (ps_set (i := 6) sc_law_asked.nd rfl (.inr rfl) (pe_op op_sub (pe_op op_mod (pe_op op_mod (pe_op op_mul (pv 2) pe_int) pe_int) pe_int) pe_int))
  (Evl.pss_cut (ps_if (pt_cmpR op_eq (pe_op op_mod (pv 3) pe_int) pe_int (nomark _))
  (pss_one (ps_set (i := 6) sc_law_asked.nd rfl (.inr rfl) (pe_op op_sub (pe_op op_mod (pv 2) (pe_cst (pe_op op_mul pe_int (pe_cst (pe_op op_pow pe_int pe_int) fun _ _ _ h => ⟨_, _, rfl, rfl, ⟨by decide, by decide, by decide⟩, h⟩)) fun _ _ _ h => ⟨_, _, rfl, rfl, .inl (by decide), h⟩)) (pe_cst (pe_op op_pow pe_int pe_int) fun _ _ _ h => ⟨_, _, rfl, rfl, ⟨by decide, by decide, by decide⟩, h⟩))))
  pss_nil)
  (pss_cons (ps_setLc (i := 7) (own := [("_law_k", 8)]) (g := (gName 8)) (tt := (tTest (tOp rLe (tOp (rIxL K) (tVar 1) (tVar 8)) (tVar 6)))) rfl sc_law_asked.nd rfl rfl (sw_true rfl rfl rfl (by decide +kernel)) (pi_range2 (by rfl) T.b_range (pa_cons (pe_op op_add (pv 4) pe_int) (pa_cons (pe_op op_add (pv 5) pe_int) pa_nil))) (blkOk_by (N := ["_law_block_here", "_law_nets_here", "_law_cell", "_law_number", "_law_start", "_law_stop", "_law_goal", "_law_due_here", "_law_k", "_law_first", "_law_last"]) (sc := defScope s_law_asked) (own := [("_law_k", 8)]) (by decide +kernel)) (fun _ _ _ _ _ => (pg_name (i := 8) sc_law_asked.nd rfl (.inl rfl))) (fun _ _ _ _ _ => (pts_one (pt_cmpR op_le (pe_ix ix_list (pv 1) (pv 8) (fun _ _ => rfl)) (pv 6) (nomark _)))) (fun _ _ _ _ _ => (pv 8)))
  (pss_cons (ps_set (i := 9) sc_law_asked.nd rfl (.inl rfl) pe_non)
  (pss_cons (ps_set (i := 10) sc_law_asked.nd rfl (.inl rfl) pe_non)
  (Evl.pss_cut (ps_if (pt_cmpR op_gt (pe_callB call_lenK (by rfl) T.b_len (by decide +kernel) (pa_cons (pv 7) pa_nil)) pe_int (nomark _))
  (pss_cons (ps_set (i := 9) sc_law_asked.nd rfl (.inl rfl) (pe_ix ix_list (pv 7) pe_int (fun _ _ => rfl)))
  (pss_one (ps_set (i := 10) sc_law_asked.nd rfl (.inl rfl) (pe_ix ix_list (pv 7) (pe_un un_neg pe_int) (fun _ _ => rfl)))))
  pss_nil)
  (pss_cons (ps_if (pt_not (pt_val (pe_callF o_law_due hr (by decide) (by rfl) pass0 (pa_cons (pe_callF o_first_low_in hr (by decide) (by rfl) pass0 (pa_cons (pv 0) (pa_cons (pv 4) (pa_cons (pv 5) (pa_cons (pv 6) pa_nil))))) (pa_cons (pv 9) pa_nil)))))
  (pss_one (ps_ret pe_bl))
  pss_nil)
  (pss_one (ps_ret (pe_callF o_law_due hr (by decide) (by rfl) pass0 (pa_cons (pe_callF o_last_low_in hr (by decide) (by rfl) pass0 (pa_cons (pv 0) (pa_cons (pv 4) (pa_cons (pv 5) (pa_cons (pv 6) pa_nil))))) (pa_cons (pv 10) pa_nil))))))))))))))))

theorem ok_law (T : Tx P w K mg base) (o_law_block : Okf P w K mg base CX0 1 "_law_block" ["_law_cell"] (sp_law_block K)) (o_law_cell_at : Okf P w K mg base CX0 1 "_law_cell_at" ["_law_script", "_law_k"] (sp_law_cell_at K)) (o_law_nets : Okf P w K mg base CX0 1 "_law_nets" ["_law_block_here"] (sp_law_nets K)) (o_law_due : Okf P w K mg base CX0 2 "_law_due" ["_law_found", "_law_due_here"] (sp_law_due K)) (o_low_in : Okf P w K mg base CX0 1 "low_in" ["block", "upto"] (sp_low_in K)) (o_law_asked : Okf P w K mg base CX0 3 "_law_asked" ["_law_block_here", "_law_nets_here", "_law_cell"] (sp_law_asked K)) : Okf P w K mg base CX0 4 "law" ["_law_script"] (sp_law K) := by
  obtain ⟨fd, FD⟩ := T.d_law
  refine ⟨⟨fd, FunD.look FD, FD.bindsN fun _ _ _ _ _ _ us hl => match us, hl with | [_], _ => rfl, ?_⟩, FD.kp, T.g_law⟩
  refine FunD.ok (CX := CX0) FD sc_law (len_law K) (fun cdv A outer s H vs Q E hr h => ⟨t_law K, PSs.nox ?_, rd_law K vs H Q E h⟩)
  exact (pss_cons (ps_set (i := 1) sc_law.nd rfl (.inl rfl) (pe_callF o_law_block hr (by decide) (by rfl) pass0 (pa_cons (pe_callF o_law_cell_at hr (by decide) (by rfl) pass0 (pa_cons (pv 0) (pa_cons pe_int pa_nil))) pa_nil)))
  (pss_cons (ps_set (i := 2) sc_law.nd rfl (.inl rfl) (pe_callF o_law_nets hr (by decide) (by rfl) pass0 (pa_cons (pv 1) pa_nil)))
  (pss_cons (ps_for PassesOwn.never rfl (pi_range2 (by rfl) T.b_range (pa_cons pe_int (pa_cons pe_int pa_nil))) (pg_name (i := 3) sc_law.nd rfl (.inl rfl))
  (pss_one (ps_if (pt_not (pt_val (pe_callF o_law_due hr (by decide) (by rfl) pass0 (pa_cons (pe_callF o_low_in hr (by decide) (by rfl) pass0 (pa_cons (pv 1) (pa_cons (pv 3) pa_nil))) (pa_cons (pe_callB (cr_min rfl) (by rfl) T.b_min (by decide +kernel) (pa_cons (pe_slice sl_list (pv 2) (po_some pe_int) (po_some (pe_op op_add (pv 3) pe_int))) pa_nil)) pa_nil)))))
  (pss_one (ps_ret pe_bl))
  pss_nil)))
  (pss_cons (ps_for PassesOwn.never rfl (pi_list (pe_slice sl_list (pv 0) (po_some pe_int) (po_some pe_int))) (pg_name (i := 4) sc_law.nd rfl (.inl rfl))
  (pss_one (ps_if (pt_not (pt_val (pe_callF o_law_asked hr (by decide) (by rfl) pass0 (pa_cons (pv 1) (pa_cons (pv 2) (pa_cons (pv 4) pa_nil))))))
  (pss_one (ps_ret pe_bl))
  pss_nil)))
  (pss_one (ps_ret pe_bl))))))
end
def dd_ones_in : He.DefD := ⟨("ones_in", none), "ones_in", "ones_in", defArgs s_ones_in, defBody s_ones_in, defScope s_ones_in, [], []⟩
def dd_low_in : He.DefD := ⟨("low_in", none), "low_in", "low_in", defArgs s_low_in, defBody s_low_in, defScope s_low_in, [], []⟩
def dd_first_low_in : He.DefD := ⟨("first_low_in", none), "first_low_in", "first_low_in", defArgs s_first_low_in, defBody s_first_low_in, defScope s_first_low_in, [], []⟩
def dd_last_low_in : He.DefD := ⟨("last_low_in", none), "last_low_in", "last_low_in", defArgs s_last_low_in, defBody s_last_low_in, defScope s_last_low_in, [], []⟩
def dd_law_cell_at : He.DefD := ⟨("_law_cell_at", none), "_law_cell_at", "_law_cell_at", defArgs s_law_cell_at, defBody s_law_cell_at, defScope s_law_cell_at, [], []⟩
def dd_law_whole : He.DefD := ⟨("_law_whole", none), "_law_whole", "_law_whole", defArgs s_law_whole, defBody s_law_whole, defScope s_law_whole, [], []⟩
def dd_law_block : He.DefD := ⟨("_law_block", none), "_law_block", "_law_block", defArgs s_law_block, defBody s_law_block, defScope s_law_block, [], []⟩
def dd_law_nets : He.DefD := ⟨("_law_nets", none), "_law_nets", "_law_nets", defArgs s_law_nets, defBody s_law_nets, defScope s_law_nets, [], []⟩
def dd_law_due : He.DefD := ⟨("_law_due", none), "_law_due", "_law_due", defArgs s_law_due, defBody s_law_due, defScope s_law_due, [], []⟩
def dd_law_end : He.DefD := ⟨("_law_end", none), "_law_end", "_law_end", defArgs s_law_end, defBody s_law_end, defScope s_law_end, [], []⟩
def dd_law_asked : He.DefD := ⟨("_law_asked", none), "_law_asked", "_law_asked", defArgs s_law_asked, defBody s_law_asked, defScope s_law_asked, [], []⟩
def dd_law : He.DefD := ⟨("law", none), "law", "law", defArgs s_law, defBody s_law, defScope s_law, [], []⟩
def fnL : List He.DefD := [dd_ones_in, dd_low_in, dd_first_low_in, dd_last_low_in, dd_law_cell_at, dd_law_whole, dd_law_block, dd_law_nets, dd_law_due, dd_law_end, dd_law_asked, dd_law]
def fxL : List Fx := []
def faL : List He.Fa := [.glo "ones_in", .glo "low_in", .glo "first_low_in", .glo "last_low_in", .glo "_law_cell_at", .glo "_law_whole", .glo "_law_block", .glo "_law_nets", .glo "_law_due", .glo "_law_end", .glo "_law_asked", .glo "law", .free "bool", .free "int", .free "isinstance", .free "len", .free "min", .free "range", .free "sum"]
abbrev R : PySem.W.OpenRow := PySem.W.OpenLaw.row PySem.Challenge.rw_thinwood_k04_nets_of_a_block
abbrev hk : PySem.W.Hook := hookF 4 faL fnL fxL
def ob (s : PySem.W.SharedT) : AlF := obsFG 4 faL fnL fxL (HandSHeadRun.getT s)
theorem ob_eq (s : PySem.W.SharedT) : ob s = hk.obs s.abs := obsFG_eq (HandSHeadRun.getT_eq s)
def looseL : List PySem.Str := (["ones_in", "low_in", "first_low_in", "last_low_in", "_law_cell_at", "_law_whole", "_law_block", "_law_nets", "_law_due", "_law_end", "_law_asked"] : List PySem.Str)
theorem run (w : World) : HandSHeadRun.RunEq R (PySem.W.view R.prog [13]) hk ob 2000 looseL w := by
  intro os
  kernel_rfl
theorem tx_of {P : Program} {w : World} {K : PySem.W.Frag} {h : Heap} {mg : Str → Option Value} (X : K.In h) (G : h.Ns mainGlobals mg) (c2 : SaysF faL fnL fxL K) (base : Heap) : Tx P w K mg base :=
  have c := SaysF.d c2
  {
  d_ones_in := c.def_ 0 (d := dd_ones_in) rfl
  g_ones_in := He.glo_ok X G (c.fact 0 (f := .glo "ones_in") rfl)
  d_low_in := c.def_ 1 (d := dd_low_in) rfl
  g_low_in := He.glo_ok X G (c.fact 1 (f := .glo "low_in") rfl)
  d_first_low_in := c.def_ 2 (d := dd_first_low_in) rfl
  g_first_low_in := He.glo_ok X G (c.fact 2 (f := .glo "first_low_in") rfl)
  d_last_low_in := c.def_ 3 (d := dd_last_low_in) rfl
  g_last_low_in := He.glo_ok X G (c.fact 3 (f := .glo "last_low_in") rfl)
  d_law_cell_at := c.def_ 4 (d := dd_law_cell_at) rfl
  g_law_cell_at := He.glo_ok X G (c.fact 4 (f := .glo "_law_cell_at") rfl)
  d_law_whole := c.def_ 5 (d := dd_law_whole) rfl
  g_law_whole := He.glo_ok X G (c.fact 5 (f := .glo "_law_whole") rfl)
  d_law_block := c.def_ 6 (d := dd_law_block) rfl
  g_law_block := He.glo_ok X G (c.fact 6 (f := .glo "_law_block") rfl)
  d_law_nets := c.def_ 7 (d := dd_law_nets) rfl
  g_law_nets := He.glo_ok X G (c.fact 7 (f := .glo "_law_nets") rfl)
  d_law_due := c.def_ 8 (d := dd_law_due) rfl
  g_law_due := He.glo_ok X G (c.fact 8 (f := .glo "_law_due") rfl)
  d_law_end := c.def_ 9 (d := dd_law_end) rfl
  g_law_end := He.glo_ok X G (c.fact 9 (f := .glo "_law_end") rfl)
  d_law_asked := c.def_ 10 (d := dd_law_asked) rfl
  g_law_asked := He.glo_ok X G (c.fact 10 (f := .glo "_law_asked") rfl)
  d_law := c.def_ 11 (d := dd_law) rfl
  g_law := He.glo_ok X G (c.fact 11 (f := .glo "law") rfl)
  b_bool := He.free_ok X G (c.fact 12 (f := .free "bool") rfl)
  b_int := He.free_ok X G (c.fact 13 (f := .free "int") rfl)
  b_isinstance := He.free_ok X G (c.fact 14 (f := .free "isinstance") rfl)
  b_len := He.free_ok X G (c.fact 15 (f := .free "len") rfl)
  b_min := He.free_ok X G (c.fact 16 (f := .free "min") rfl)
  b_range := He.free_ok X G (c.fact 17 (f := .free "range") rfl)
  b_sum := He.free_ok X G (c.fact 18 (f := .free "sum") rfl)
  }
theorem facts {P : Program} {w : World} {K : PySem.W.Frag} {h : Heap} {mg : Str → Option Value} (X : K.In h) (G : h.Ns mainGlobals mg) (c : SaysF faL fnL fxL K) (base : Heap) :
    Okf P w K mg base CX0 4 "law" ["_law_script"] (sp_law K) := by
  have T : Tx P w K mg base := tx_of X G c base
  have o_ones_in := ok_ones_in (P := P) (w := w) T 
  have o_low_in := ok_low_in (P := P) (w := w) T 
  have o_first_low_in := ok_first_low_in (P := P) (w := w) T o_ones_in
  have o_last_low_in := ok_last_low_in (P := P) (w := w) T o_ones_in
  have o_law_cell_at := ok_law_cell_at (P := P) (w := w) T 
  have o_law_whole := ok_law_whole (P := P) (w := w) T 
  have o_law_block := ok_law_block (P := P) (w := w) T 
  have o_law_nets := ok_law_nets (P := P) (w := w) T 
  have o_law_due := ok_law_due (P := P) (w := w) T o_law_whole
  have o_law_end := ok_law_end (P := P) (w := w) T 
  have o_law_asked := ok_law_asked (P := P) (w := w) T o_law_end o_law_due o_first_low_in o_last_low_in
  have o_law := ok_law (P := P) (w := w) T o_law_block o_law_cell_at o_law_nets o_law_due o_low_in o_law_asked
  exact o_law
theorem binds_law {K : PySem.W.Frag} (c : SaysF faL fnL fxL K) : ∃ fd : FuncData, FunD K "law" "law" (defArgs s_law) (defBody s_law) (defScope s_law) [] [] (He.ga K "law") fd := (SaysF.d c).def_ 11 (d := dd_law) rfl
end Tw
open PySem PySem.W PySem.Calls PyProof.Rows
set_option maxHeartbeats 0 in
theorem PySem.Challenge.cw_thinwood_k04_nets_of_a_block_holds : PySem.Challenge.rw_thinwood_k04_nets_of_a_block.Holds := by
  w_on; o_law
  refine HandSHeadRun.head_any (r := OpenLaw.row PySem.Challenge.rw_thinwood_k04_nets_of_a_block) (q := view (OpenLaw.row PySem.Challenge.rw_thinwood_k04_nets_of_a_block).prog [13]) (H := Tw.hk) (ob := Tw.ob) (M := 2000) (loose := Tw.looseL) (d := HandSHeadRun.topDef (OpenLaw.row PySem.Challenge.rw_thinwood_k04_nets_of_a_block).prog 13) (kwd := []) Tw.ob_eq
    (by kernel_rfl) (fun s => by kernel_rfl) Tw.run (by kernel_rfl) (by kernel_rfl) (by kernel_rfl) (by rfl) (by first | assumption | decide +kernel) (by decide +kernel) ⟨rfl, rfl, rfl, rfl, rfl, by decide +kernel⟩ ?hw ?hc
  case hw => w_witness2
  case hc =>
    refine L2.walk_ofE (l := PySem.Challenge.rw_thinwood_k04_nets_of_a_block) (n := 63) (k := 4) (x := "_law_script") (CX := L2.CX0) rfl (by decide) (by kernel_rfl) ⟨rfl, by decide, by decide⟩ ?F (fun _ _ _ _ z => z)
    intro w mg fa h Y G hmg0
    obtain ⟨K, KX, c⟩ := Y
    have hmg : mg ("law" : PySem.Str) = some (.ref fa) := by
      have e : (HandSHeadRun.topDef (OpenLaw.row PySem.Challenge.rw_thinwood_k04_nets_of_a_block).prog 13).name = ("law" : PySem.Str) := by kernel_rfl
      rw [← e]
      exact hmg0
    have e : fa = He.ga K "law" := by
      have z := hmg.symm.trans (Tw.facts (P := (PySem.Challenge.rw_thinwood_k04_nets_of_a_block).prog) (w := w) KX G c h).gl
      injection z with z; injection z
    subst e
    obtain ⟨fd, FD⟩ := Tw.binds_law c
    refine ⟨K, fd, Tw.sp_law K, KX, fun s v => FunD.bindsA (ps := ["_law_script"]) FD (fun _ _ _ _ _ _ us hl => match us, hl with | [_], _ => rfl) s [v] rfl, fun H a ns hl _ hS => ⟨a, ns, rfl, hS, hl, fun _ => rfl⟩, fun base KB GB => ?_⟩
    exact Tw.okf_fn (Tw.facts KB GB c base) FD
#print axioms PySem.Challenge.cw_thinwood_k04_nets_of_a_block_holds
