import PyProof.Rows.All
import Wide.All
import OpenK.AllK
import Wide.FinOn
import KE.KStateDown
import Lean
import HandS.ForMost
import HandS.ForExc
import HandS.Steps
import HandS.IsInst
import HandS.Wide
import HandS.WideBits
import HandS.Defaults
import HandS.Flow
import HandS.Style
import HandS.ExcIs
import HandS.TryMany
import HandS.Evl
import HandS.Walk
import HandS.Rev
import HandS.RevRange
import HandS.SortInts
import HandS.SortKw
import HandS.More
import HandS.Head0
import HandS.Head1
import HandS.Head2
import HandS.HeadEnd
import HandS.HeadHook1
import HandS.HeadHook2
import HandS.Deep
import HandS.Lambda
import HandS.HeadHook4
import HandS.HeadWalk
import HandS.Nested
import PySem.Challenge.RW_thinwood_k41_depths_refused
set_option Elab.async false
set_option linter.all false
set_option maxRecDepth 100000
set_option maxHeartbeats 4000000
set_option Elab.async false
set_option linter.all false
set_option maxRecDepth 100000
set_option maxHeartbeats 4000000
namespace Tw
open PySem PySem.Spec PyProof.Rows L2
def nmL (l _c : Nat) : Str := ""
def tabL : List Str := []
/-! ### heaps: all that was tracked is as it was, but for code tables, which may have grown -/
class NT (o : HO) : Prop where
  ne : ∀ ps, o ≠ .tbl ps
instance {xs : List V} : NT (.lst xs) := ⟨fun _ z => nomatch z⟩
instance {xs : List V} : NT (.tup xs) := ⟨fun _ z => nomatch z⟩
instance {o : Obj} {u : HO} : NT (.frz o u) := ⟨fun _ z => nomatch z⟩
instance {φ : Heap → Prop} : NT (.ext φ) := ⟨fun _ z => nomatch z⟩
instance {S : Int → Bool} {n : Nat} : NT (.set S n) := ⟨fun _ z => nomatch z⟩
instance {kvs : List (Key × V)} : NT (.dK kvs) := ⟨fun _ z => nomatch z⟩
instance {C dx : Addr} {fs : List (Str × V)} : NT (.ins C dx fs) := ⟨fun _ z => nomatch z⟩
instance {x : Addr} : NT (.own x) := ⟨fun _ z => nomatch z⟩
structure Same (H H' : Hp) : Prop where
  keep : ∀ b o, H b = some o → (∀ ps, o ≠ .tbl ps) → H' b = some o
  gone : ∀ b, H' b = none → H b = none
  tabs : ∀ P, NdefX.TabN H P nmL → NdefX.TabN H' P nmL
theorem Same.get {H H' : Hp} (s : Same H H') {b : Addr} {o : HO} [NT o] (e : H b = some o) : H' b = some o := s.keep b o e NT.ne
theorem Same.of {H H' : Hp} (e : ∀ b o, H b = some o → H' b = some o) : Same H H' := by
  refine ⟨fun b o h _ => e b o h, fun b h => ?_, fun P t => NdefX.TabN.ext t e⟩
  cases q : H b with
  | none => rfl
  | some o => rw [e b o q] at h; cases h
theorem Same.refl (H : Hp) : Same H H := .of fun _ _ h => h
theorem Same.trans {H H1 H2 : Hp} (a : Same H H1) (b : Same H1 H2) : Same H H2 := ⟨fun c o h n => b.keep c o (a.keep c o h n) n, fun c h => a.gone c (b.gone c h), fun P t => b.tabs P (a.tabs P t)⟩
theorem Same.free {H H' : Hp} (e : Same H H') {l : Addr} (h : H' l = Option.none) : H l = Option.none := e.gone l h
theorem Same.seq {K : PySem.W.Frag} {H H' : Hp} {a : Addr} {xs : List V} (e : Same H H') (h : SqL K H a xs) : SqL K H' a xs := by
  rcases h with (h | ⟨o, h⟩) | h
  · exact .inl (.inl (e.get h))
  · exact .inl (.inr ⟨o, e.get h⟩)
  · exact .inr h
theorem same_new {H : Hp} {p : Addr} {o : HO} (h : H p = none) : Same H (upd H p o) := .of fun b x e => by
  rw [upd_ne (ne_of_none e h)]; exact e
/-- an object that H does not know may change -/
theorem Same.mut {H H' : Hp} {p : Addr} {o : HO} (e : Same H H') (h : H p = none) (hl : ∃ xs, H' p = some (.lst xs) := by exact ⟨_, by assumption⟩) : Same H (upd H' p o) := by
  obtain ⟨xs, hl⟩ := hl
  refine ⟨fun b x hb n => by rw [upd_ne (ne_of_none hb h)]; exact e.keep b x hb n, fun b hb => e.gone b (NdefX.upd_none hb), fun P t => ?_⟩
  obtain ⟨ps, h1, ht, hc⟩ := e.tabs P t
  have np : ∀ {b : Addr} {u : HO}, H' b = some u → (∀ xs, u ≠ .lst xs) → b ≠ p := fun {b u} q d z => by
    subst z; rw [hl] at q; cases q; exact d _ rfl
  refine ⟨ps, by rw [upd_ne (np h1 fun _ z => nomatch z)]; exact h1, ht, fun pos cv q => ?_⟩
  obtain ⟨c, e1, e2⟩ := hc pos cv q
  exact ⟨c, e1, by rw [upd_ne (np e2 fun _ z => by unfold LamX.CodeO at z; cases z)]; exact e2⟩
theorem Same.seqT {K : PySem.W.Frag} {H H' : Hp} {a : Addr} {xs : List V} (e : Same H H') (h : SqT K H a xs) : SqT K H' a xs := by
  rcases h with (h | ⟨o, h⟩) | h
  · exact .inl (.inl (e.get h))
  · exact .inl (.inr ⟨o, e.get h⟩)
  · exact .inr h
theorem Same.ne {H : Hp} {a p : Addr} {o : HO} (h : H p = none) (e : H a = some o) : a ≠ p := ne_of_none e h
/-! ### a def by its global name, and its call -/
/-- the def named x keeps the promise sp -/
structure Okf (P : Program) (w : World) (K : PySem.W.Frag) (mg : Str → Option Value) (base : Heap) (CX : CXT) (k : Nat) (x : Str) (ps : List Str) (sp : Sp) : Prop where
  ex : ∃ fd : FuncData, (∃ (oc : Value) (od : Option Addr) (osl : Array (Option Value)), K.lookup (He.ga K x) = some ⟨oc, od, .func fd, osl⟩) ∧ Binds K fd ps [] ∧ FnOk P w K mg base CX k (He.ga K x) fd ps sp
  kp : PySem.W.keepIn K (.ref (He.ga K x)) = true
  gl : mg x = some (.ref (He.ga K x))
theorem FunD.look {K : PySem.W.Frag} {x qual : Str} {params : Arguments} {body : List Stmt} {scope : Scope} {dvs : List V} {kws : List (Str × V)} {f : Addr} {fd : FuncData} (F : FunD K x qual params body scope dvs kws f fd) :
    ∃ (oc : Value) (od : Option Addr) (osl : Array (Option Value)), K.lookup f = some ⟨oc, od, .func fd, osl⟩ := by
  obtain ⟨oc, od, dV, kV, doc, pm, an, cdv, ct, osl, e, lk, _⟩ := F.ex
  exact ⟨oc, od, osl, lk⟩
section
variable {X : Cx} {CX : CXT} {k j : Nat} {ps : List Str} {sp : Sp} {E : XK} {x : Str} {p pos : Pos} {e : Expr} {es : List Expr} {t : TA}
theorem pe_callF (F : Okf X.prog X.w X.K X.mg X.base CX k x ps sp) (hr : Room j X.A) (hk : k ≤ j) (hg : Gl X x) (hx : Passes CX X E)
    (ha : PA X (e :: es) t) (hdb : (x == ("__debug__" : Str)) = false := by decide) (he : starEach (e :: es) X.env = (false, eval e X.env) :: starEach es X.env := by rfl) (hpl : (backTo pos (starEach es X.env)).any (·.1) = false := by rfl) :
    PE X (.Call (.Name x p) (e :: es) [] pos) (tCall sp [] E t) := by
  obtain ⟨fd, _, hb, ok⟩ := F.ex
  exact pe_call ok (hr.mono hk) hg F.gl F.kp hb .nil hx ha hdb he hpl
theorem pe_callF0 (F : Okf X.prog X.w X.K X.mg X.base CX k x ps sp) (hr : Room j X.A) (hk : k ≤ j) (hg : Gl X x) (hx : Passes CX X E)
    (hdb : (x == ("__debug__" : Str)) = false := by decide) : PE X (.Call (.Name x p) [] [] pos) (tCall sp [] E tNil) := by
  obtain ⟨fd, _, hb, ok⟩ := F.ex
  exact pe_call0 ok (hr.mono hk) hg F.gl F.kp hb .nil hx hdb
theorem Okf.imp {P : Program} {w : World} {K : PySem.W.Frag} {mg : Str → Option Value} {base : Heap} {sp' : Sp} (F : Okf P w K mg base CX k x ps sp)
    (h : ∀ vs H Q E, sp' vs H Q E → sp vs H Q E) : Okf P w K mg base CX k x ps sp' := by
  obtain ⟨⟨fd, lk, hb, ok⟩, kp, gl⟩ := F
  exact ⟨⟨fd, lk, hb, ok.imp h⟩, kp, gl⟩
theorem okf_fn {P : Program} {w : World} {K : PySem.W.Frag} {mg : Str → Option Value} {base : Heap} {params : Arguments} {body : List Stmt} {scope : Scope} {qual y : Str} {fd : FuncData} {dvs : List V} {kws : List (Str × V)} (F : Okf P w K mg base CX k x ps sp)
    (FD : FunD K y qual params body scope dvs kws (He.ga K x) fd) : FnOk P w K mg base CX k (He.ga K x) fd ps sp := by
  obtain ⟨⟨fd', ⟨_, _, _, lk'⟩, hb, ok⟩, kp, gl⟩ := F
  obtain ⟨_, _, _, lk⟩ := FunD.look FD
  rw [lk] at lk'
  injection lk' with e
  injection e with _ _ e
  injection e with e
  subst e
  exact ok
/-- a global int, as a constant -/
theorem pe_gint {i : Int} (h : ∃ t, X.mg x = some (.int i t)) (hg : Gl X x) (hd : (x == ("__debug__" : Str)) = false := by decide) : PE X (.Name x pos) (tC (.int i)) := by
  obtain ⟨t, h⟩ := h
  exact pe_glob hg h ⟨_, rfl⟩ hd
/-- a constant that the text reckons -/
theorem pe_cst {v : Int} {te : TE} (h : PE X e te) (hi : ∀ (σ : L2.St) (H : Hp) (Q : VK), Q (.int v) H → te σ H Q) : PE X e (tC (.int v)) :=
  ⟨fun pins s σ H Q I q => h.run pins s σ H Q I (hi σ H Q q)⟩
/-- e & 1 -/
def rAnd1 : R2 := fun x y H Q => ∃ i : Int, x = .int i ∧ y = .int 1 ∧ Q (.int (i % 2)) H
theorem op_and1 : OpR X (binaryOp .BitAnd) rAnd1 := by
  intro pins s σ H x y v u Q I rx ry h
  obtain ⟨i, rfl, rfl, q⟩ := h
  exact op_andM pins s σ H (.int i) (.int (2 ^ 1 - 1)) v u Q I rx ry ⟨i, 1, rfl, rfl, q⟩
/-- isinstance(x, T), T a built-in type's name -/
def rIsB : List V → Hp → VK → Prop := fun xs H Q => ∃ (x : V) (n : String), xs = [x, .ty n] ∧ ∃ (t : String) (b : Bool), (∀ K : PySem.W.Frag, TyX K H x (.type t)) ∧ kitB t n = some b ∧ Q (.bl b) H
theorem call_isB : CallR X (.builtin "isinstance") rIsB := by
  intro pins s σ H xs us Q I r h
  obtain ⟨x, n, rfl, t, b, ty, e, q⟩ := h
  exact call_isi pins s σ H [x, .ty n] us Q I r ⟨x, .ty n, .type t, .type n, b, rfl, .ty n, ty _, kit_ty e, q⟩
end
/-! ### names of the operators' readings -/
abbrev rPlus : R2 := rI0 fun i j => .int (i + j)
abbrev rMinus : R2 := rI0 fun i j => .int (i - j)
abbrev rTimes : R2 := rI CMul fun i j => .int (i * j)
abbrev rDiv : R2 := rI CDiv fun i j => .int (i / j)
abbrev rDivW : R2 := rI CDivW fun i j => .int (i / j)
abbrev rMod : R2 := rI (fun _ j => 0 < j) fun i j => .int (i % j)
abbrev rPow : R2 := rI CPow fun i j => .int (i ^ j.toNat)
abbrev rShl : R2 := rI CPow fun i j => .int (i * 2 ^ j.toNat)
abbrev rShr : R2 := rI (fun _ j => 0 ≤ j) fun i j => .int (i / 2 ^ j.toNat)
abbrev rBitAnd : R2 := rI0 fun i j => .int (Builtin.bitAnd i j)
abbrev rBitOr : R2 := rI0 fun i j => .int (Builtin.bitOr i j)
abbrev rBitXor : R2 := rI0 fun i j => .int (Builtin.bitXor i j)
abbrev rLt : R2 := rI0 fun i j => .bl (decide (i < j))
abbrev rLe : R2 := rI0 fun i j => .bl (decide (i ≤ j))
abbrev rGtI : R2 := rI0 fun i j => .bl (decide (j < i))
abbrev rGeI : R2 := rI0 fun i j => .bl (decide (j ≤ i))
abbrev rShlW : R2 := rI CShl fun i j => .int (i * 2 ^ j.toNat)
def rDivmod : List V → Hp → VK → Prop := fun xs H Q => ∃ i j, xs = [.int i, .int j] ∧ CDivP i j ∧ ∀ p, H p = none → Q (.ref p) (upd H p (.tup [.int (i / j), .int (i % j)]))
abbrev rNeg : V → Hp → VK → Prop := rU fun i => .int (-i)
/-! ### steps of a reading -/
section
variable {D : Ends} {σ : L2.St} {H : Hp} {Q : VK} {Qb : Bool → Hp → Prop} {ta tb te : TE} {t u v : TS} {c d : TT} {i : Nat} {x y z : V} {r : R2} {K : PySem.W.Frag}
theorem k_seq (h : t { D with nx := u D } σ H) : tSeq t u D σ H := h
theorem k_next (h : D.nx σ H) : tNext D σ H := h
theorem k_asg (h : te σ H fun x H1 => D.nx (σ.set i (some x)) H1) : tAsg te (gName i) D σ H := h
theorem k_drop (h : te σ H fun _ H1 => D.nx σ H1) : tDrop te D σ H := h
theorem k_ret (h : te σ H D.rt) : tRet te D σ H := h
theorem k_retN (h : D.rt .non H) : tRetN D σ H := h
theorem k_if (h : c σ H fun b H1 => if b = true then t D σ H1 else u D σ H1) : tIfS c t u D σ H := h
theorem k_var (h : σ[i]? = some (some x)) (q : Q x H) : tVar i σ H Q := ⟨x, h, q⟩
theorem k_c (q : Q x H) : tC x σ H Q := q
theorem k_op (h : ta σ H fun x H1 => tb σ H1 fun y H2 => r x y H2 Q) : tOp r ta tb σ H Q := h
theorem k_un {r : V → Hp → VK → Prop} (h : ta σ H fun x H1 => r x H1 Q) : tUn r ta σ H Q := h
theorem k_I0 {g : Int → Int → V} {a b : Int} (q : Q (g a b) H) : rI0 g (.int a) (.int b) H Q := ⟨a, b, rfl, rfl, q⟩
theorem k_I {C : Int → Int → Prop} {g : Int → Int → V} {a b : Int} (hc : C a b) (q : Q (g a b) H) : rI C g (.int a) (.int b) H Q := ⟨a, b, rfl, rfl, hc, q⟩
theorem k_U {g : Int → V} {a : Int} (q : Q (g a) H) : rU g (.int a) H Q := ⟨a, rfl, q⟩
theorem k_and1 {a : Int} (q : Q (.int (a % 2)) H) : rAnd1 (.int a) (.int 1) H Q := ⟨a, rfl, rfl, q⟩
theorem k_eqI {a b : Int} (q : Q (.bl (decide (a = b))) H) : rEq (.int a) (.int b) H Q := ⟨rfl, by
  have e : decide ((V.int a : V) = V.int b) = decide (a = b) := by simp
  rw [e]; exact q⟩
theorem k_neI {a b : Int} (q : Q (.bl (!decide (a = b))) H) : rNe (.int a) (.int b) H Q := ⟨rfl, by
  have e : decide ((V.int a : V) = V.int b) = decide (a = b) := by simp
  rw [e]; exact q⟩
theorem k_eq (hs : scal x y = true) (q : Q (.bl (decide (x = y))) H) : rEq x y H Q := ⟨hs, q⟩
theorem k_ne (hs : scal x y = true) (q : Q (.bl (!decide (x = y))) H) : rNe x y H Q := ⟨hs, q⟩
theorem k_isN (q : Q (.bl (decide (x = .non))) H) : rIsN x .non H Q := ⟨rfl, q⟩
theorem k_notN (q : Q (.bl (!decide (x = .non))) H) : rNotN x .non H Q := ⟨rfl, q⟩
def BlK (Qb : Bool → Hp → Prop) (x : V) (H : Hp) : Prop := ∃ k, x = .bl k ∧ Qb k H
theorem k_test (h : te σ H (BlK Qb)) : tTest te σ H Qb := h
theorem k_tB (h : te σ H (BlK Qb)) : tB te σ H Qb := h
theorem k_bl {b : Bool} (q : Qb b H) : BlK Qb (V.bl b) H := ⟨b, rfl, q⟩
theorem k_and (h : c σ H fun b H1 => if b = true then d σ H1 Qb else Qb false H1) : tAnd c d σ H Qb := h
theorem k_or (h : c σ H fun b H1 => if b = true then Qb true H1 else d σ H1 Qb) : tOr c d σ H Qb := h
theorem k_not (h : c σ H fun b H1 => Qb (!b) H1) : tNot c σ H Qb := h
def ChainK (Q : VK) (u : Hp → Prop) (z : V) (H : Hp) : Prop := ∃ k, z = .bl k ∧ (if k = true then u H else Q (.bl false) H)
theorem k_chain {r' : R2} {tc : TE} (h : ta σ H fun x H1 => tb σ H1 fun y H2 => r x y H2 (ChainK Q fun H3 => tc σ H3 fun w H4 => r' y w H4 Q)) : tChain r r' ta tb tc σ H Q := h
theorem k_chainE {u : Hp → Prop} {b : Bool} (h : if b = true then u H else Q (.bl false) H) : ChainK Q u (.bl b) H := ⟨b, rfl, h⟩
theorem k_andV (h : ta σ H (BlK fun k H1 => if k = true then tb σ H1 Q else Q (.bl false) H1)) : tAndV ta tb σ H Q := h
theorem k_orV (h : ta σ H (BlK fun k H1 => if k = true then Q (.bl true) H1 else tb σ H1 Q)) : tOrV ta tb σ H Q := h
theorem k_notV (h : ta σ H (BlK fun k H1 => Q (.bl (!k)) H1)) : tNotV ta σ H Q := h
theorem k_ifE (h : c σ H fun b H1 => if b = true then ta σ H1 Q else tb σ H1 Q) : tIf c ta tb σ H Q := h
theorem k_cons {Qv : List V → Hp → Prop} {tr : TA} (h : ta σ H fun x H1 => tr σ H1 fun xs H2 => Qv (x :: xs) H2) : tCons ta tr σ H Qv := h
theorem k_nil {Qv : List V → Hp → Prop} (h : Qv [] H) : tNil σ H Qv := h
theorem k_call {sp : Sp} {dvs : List V} {E : XK} {tr : TA} (h : tr σ H fun vs H1 => sp (vs ++ dvs) H1 Q E) : tCall sp dvs E tr σ H Q := h
theorem k_cb {rc : List V → Hp → VK → Prop} {tr : TA} (h : tr σ H fun vs H1 => rc vs H1 Q) : tCB rc tr σ H Q := h
theorem k_tup {tr : TA} (h : tr σ H fun xs H1 => xs.length ≤ sizeLine ∧ ∀ p, H1 p = none → Q (.ref p) (upd H1 p (.tup xs))) : tTup tr σ H Q := h
theorem k_lst {tr : TA} (h : tr σ H fun xs H1 => xs.length ≤ sizeLine ∧ ∀ p, H1 p = none → Q (.ref p) (upd H1 p (.lst xs))) : tLst tr σ H Q := h
theorem k_disp {A : Prop} {xs : List V} (h : xs.length ≤ 1000) (q : A) : xs.length ≤ sizeLine ∧ A := ⟨Nat.le_trans h (by decide), q⟩
theorem k_aug {ti : TIp} (hx : σ[i]? = some (some x)) (h : te σ H fun y H1 => ti x y H1 fun z H2 => D.nx (σ.set i (some z)) H2) : tAug i te ti D σ H := ⟨x, hx, h⟩
theorem k_ipI {f : Int → Int → Int} {a b : Int} (q : Q (.int (f a b)) H) : ipI f (.int a) (.int b) H Q := ⟨a, b, rfl, rfl, q⟩
theorem k_sl {rs : V → Option Int → Option Int → Hp → VK → Prop} {tl th : TO} (h : te σ H fun x H1 => tl σ H1 fun l H2 => th σ H2 fun u H3 => rs x l u H3 Q) : tSl rs te tl th σ H Q := h
def PartK (Qo : Option Int → Hp → Prop) (x : V) (H : Hp) : Prop := ∃ j, x = .int j ∧ Qo (some j) H
theorem k_part {Qo : Option Int → Hp → Prop} (h : te σ H (PartK Qo)) : tPart te σ H Qo := h
theorem k_partE {Qo : Option Int → Hp → Prop} {a : Int} (h : Qo (some a) H) : PartK Qo (.int a) H := ⟨a, rfl, h⟩
theorem k_noPart {Qo : Option Int → Hp → Prop} (h : Qo none H) : tNoPart σ H Qo := h
theorem k_bm {T : String} {rm : V → List V → Hp → VK → Prop} {tr : TA} (h : te σ H fun x H1 => tyV K T x H1 ∧ tr σ H1 fun xs H2 => rm x xs H2 Q) : tBM K T rm te tr σ H Q := h
theorem k_bm0 {T : String} {rm : V → List V → Hp → VK → Prop} (h : te σ H fun x H1 => tyV K T x H1 ∧ rm x [] H1 Q) : tBM0 K T rm te σ H Q := h
theorem k_app {l : Addr} {xs : List V} (h : H l = some (.lst xs)) (hl : xs.length < 100000) (q : Q .non (upd H l (.lst (xs ++ [y])))) : rAppend (.ref l) [y] H Q := ⟨l, xs, y, rfl, rfl, h, Nat.lt_of_lt_of_le hl (by decide), q⟩
theorem k_tyL {l : Addr} {xs : List V} {A : Prop} (h : SqL K H l xs) (q : A) : tyV K "list" (.ref l) H ∧ A := ⟨.inl ⟨rfl, _, h⟩, q⟩
theorem k_ixL {p : Addr} {xs : List V} {a : Int} (h : SqL K H p xs) (e : atI xs a = some x) (q : Q x H) : rIxL K (.ref p) (.int a) H Q := ⟨p, xs, a, x, rfl, rfl, h, e, q⟩
theorem k_ixT {p : Addr} {xs : List V} {a : Int} (h : SqT K H p xs) (e : atI xs a = some x) (q : Q x H) : rIxT K (.ref p) (.int a) H Q := ⟨p, xs, a, x, rfl, rfl, h, e, q⟩
theorem k_slL {p : Addr} {xs : List V} {lo hi : Option Int} (h : SqL K H p xs) (q : ∀ l, H l = none → Q (.ref l) (upd H l (.lst (cutV xs lo hi)))) : rSlL K (.ref p) lo hi H Q := ⟨p, xs, rfl, h, q⟩
def rLen (K : PySem.W.Frag) : List V → Hp → VK → Prop := fun xs H Q => ∃ p ys, xs = [.ref p] ∧ (SqL K H p ys ∨ SqT K H p ys) ∧ Q (.int ys.length) H
theorem call_lenK {X : Cx} : CallR X (.builtin "len") (rLen X.K) := call_len_seq
theorem k_lenL {p : Addr} {xs : List V} (h : SqL K H p xs) (q : Q (.int (xs.length : Int)) H) : rLen K [.ref p] H Q := ⟨p, xs, rfl, .inl h, q⟩
theorem k_lenT {p : Addr} {xs : List V} (h : SqT K H p xs) (q : Q (.int (xs.length : Int)) H) : rLen K [.ref p] H Q := ⟨p, xs, rfl, .inr h, q⟩
def rInsert : V → List V → Hp → VK → Prop := fun x vs H Q => ∃ (l : Addr) (xs : List V) (i : Int) (y : V), x = .ref l ∧ vs = [.int i, y] ∧ H l = some (.lst xs) ∧ xs.length < sizeLine ∧ 0 ≤ i ∧ i < 2 ^ 63 ∧ Q .non (upd H l (.lst (xs.take i.toNat ++ [y] ++ xs.drop i.toNat)))
theorem mt_insertK {X : Cx} : MtR X "list.insert" rInsert := mt_insert
theorem k_insert {l : Addr} {xs : List V} {i : Nat} (h : H l = some (.lst xs)) (hz : xs.length ≤ 100000) (hi : i ≤ 100000) (q : Q .non (upd H l (.lst (xs.take i ++ [y] ++ xs.drop i)))) : rInsert (.ref l) [.int (i : Int), y] H Q := ⟨l, xs, i, y, rfl, rfl, h, Nat.lt_of_le_of_lt hz (by decide), by omega, by omega, by rw [Int.toNat_natCast]; exact q⟩
theorem k_popAt {l : Addr} {xs : List V} {i : Nat} (h : H l = some (.lst xs)) (hi : i < xs.length) (hz : xs.length ≤ 100000) (e : xs[i]? = some y) (q : Q y (upd H l (.lst (xs.eraseIdx i)))) : rPopAt (.ref l) [.int (i : Int)] H Q := ⟨l, xs, i, i, y, rfl, rfl, h, by omega, by omega, by unfold PySem.seqIndex?; simp; omega, e, q⟩
theorem k_clear {l : Addr} {xs : List V} (h : H l = some (.lst xs)) (q : Q .non (upd H l (.lst []))) : rClear (.ref l) [] H Q := ⟨l, xs, rfl, rfl, h, q⟩
theorem k_extend {l b : Addr} {xs zs : List V} (h : H l = some (.lst xs)) (h2 : H b = some (.lst zs)) (hn : xs.length + zs.length ≤ 1000000) (q : Q .non (upd H l (.lst (xs ++ zs)))) : rExtend (.ref l) [.ref b] H Q := ⟨l, b, xs, zs, rfl, rfl, h, h2, Nat.le_trans hn (by decide), q⟩
theorem k_pop {l : Addr} {xs : List V} (h : H l = some (.lst (xs ++ [y]))) (q : Q y (upd H l (.lst xs))) : rPop (.ref l) [] H Q := ⟨l, xs ++ [y], y, rfl, rfl, h, by simp, by rw [List.dropLast_concat]; exact q⟩
def rInt1 : List V → Hp → VK → Prop := fun xs H Q => (∃ i, xs = [.int i] ∧ Q (.int i) H) ∨ ∃ k : Bool, xs = [.bl k] ∧ Q (.int (if k then 1 else 0)) H
theorem k_intB {k : Bool} (q : Q (.int (if k then 1 else 0)) H) : rInt1 [.bl k] H Q := .inr ⟨k, rfl, q⟩
def rTupOf (K : PySem.W.Frag) : List V → Hp → VK → Prop := fun xs H Q => ∃ p ys, xs = [.ref p] ∧ ((SqL K H p ys ∧ ∀ l, H l = none → Q (.ref l) (upd H l (.tup ys))) ∨ (SqT K H p ys ∧ Q (.ref p) H))
theorem call_tupK {X : Cx} : CallR X (.type "tuple") (rTupOf X.K) := call_tuple_of
theorem k_tupL {p : Addr} {xs : List V} (h : SqL K H p xs) (q : ∀ l, H l = none → Q (.ref l) (upd H l (.tup xs))) : rTupOf K [.ref p] H Q := ⟨p, xs, rfl, .inl ⟨h, q⟩⟩
def rLenStr : List V → Hp → VK → Prop := fun xs H Q => ∃ z : Str, xs = [.str z] ∧ z.length ≤ sizeLine ∧ Q (.int z.length) H
def rAddStr : R2 := fun x y H Q => ∃ i j : Str, x = .str i ∧ y = .str j ∧ i.length + j.length ≤ sizeLine ∧ Q (.str (i ++ j)) H
def rMin2 : List V → Hp → VK → Prop := fun xs H Q => ∃ i j, xs = [.int i, .int j] ∧ Q (.int (if j < i then j else i)) H
def rMax2 : List V → Hp → VK → Prop := fun xs H Q => ∃ i j, xs = [.int i, .int j] ∧ Q (.int (if j > i then j else i)) H
theorem call_min2K {X : Cx} (hc : X.calm = true) : CallR X (.builtin "min") rMin2 := call_min2 hc
theorem call_max2K {X : Cx} (hc : X.calm = true) : CallR X (.builtin "max") rMax2 := call_max2 hc
theorem k_min2 {a b : Int} (q : Q (.int (if b < a then b else a)) H) : rMin2 [.int a, .int b] H Q := ⟨a, b, rfl, q⟩
theorem k_max2 {a b : Int} (q : Q (.int (if b > a then b else a)) H) : rMax2 [.int a, .int b] H Q := ⟨a, b, rfl, q⟩
def rListOf (K : PySem.W.Frag) : List V → Hp → VK → Prop := fun xs H Q => ∃ p ys, xs = [.ref p] ∧ (SqL K H p ys ∨ SqT K H p ys) ∧ ∀ l, H l = none → Q (.ref l) (upd H l (.lst ys))
theorem call_listK {X : Cx} : CallR X (.type "list") (rListOf X.K) := call_list_of
theorem k_listL {p : Addr} {xs : List V} (h : SqL K H p xs) (q : ∀ l, H l = none → Q (.ref l) (upd H l (.lst xs))) : rListOf K [.ref p] H Q := ⟨p, xs, rfl, .inl h, q⟩
theorem k_sum {p : Addr} {ns : List Int} (h : SqL K H p (ns.map V.int)) (q : Q (.int ns.sum) H) : rSum K [.ref p] H Q := ⟨p, ns, rfl, h, q⟩
theorem k_isInt {a : Int} (q : Q (.bl true) H) : rIsB [.int a, .ty "int"] H Q := ⟨.int a, "int", rfl, "int", true, fun _ => .base (.int a), by decide +kernel, q⟩
theorem k_isBool {a : Int} (q : Q (.bl false) H) : rIsB [.int a, .ty "bool"] H Q := ⟨.int a, "bool", rfl, "int", false, fun _ => .base (.int a), by decide +kernel, q⟩
theorem k_isBoolB {b : Bool} (q : Q (.bl true) H) : rIsB [.bl b, .ty "bool"] H Q := ⟨.bl b, "bool", rfl, "bool", true, fun _ => .base (.bl b), by decide +kernel, q⟩
theorem k_isIntB {b : Bool} (q : Q (.bl true) H) : rIsB [.bl b, .ty "int"] H Q := ⟨.bl b, "int", rfl, "bool", true, fun _ => .base (.bl b), by decide +kernel, q⟩
theorem k_isIntN (q : Q (.bl false) H) : rIsB [.non, .ty "int"] H Q := ⟨.non, "int", rfl, "NoneType", false, fun _ => .base .non, by decide +kernel, q⟩
theorem k_isList {a : Addr} {xs : List V} (h : H a = some (.lst xs)) (q : Q (.bl true) H) : rIsB [.ref a, .ty "list"] H Q := ⟨.ref a, "list", rfl, "list", true, fun _ => .base (.lst h), by decide +kernel, q⟩
theorem k_isTup {a : Addr} {xs : List V} (h : H a = some (.tup xs)) (q : Q (.bl true) H) : rIsB [.ref a, .ty "tuple"] H Q := ⟨.ref a, "tuple", rfl, "tuple", true, fun _ => .base (.tup h), by decide +kernel, q⟩
/-! ends -/
theorem k_nx {nx : L2.St → Hp → Prop} {rt : VK} {bk ct : L2.St → Hp → Prop} (h : nx σ H) : (Ends.mk nx rt bk ct).nx σ H := h
theorem k_rt {nx : L2.St → Hp → Prop} {rt : VK} {bk ct : L2.St → Hp → Prop} (h : rt x H) : (Ends.mk nx rt bk ct).rt x H := h
/-! ifs -/
theorem k_dec {p A B : Prop} [Decidable p] (h1 : p → A) (h2 : ¬ p → B) : if decide p = true then A else B := by
  by_cases h : p
  · rw [if_pos (decide_eq_true h)]; exact h1 h
  · rw [if_neg (fun z => h (of_decide_eq_true z))]; exact h2 h
theorem k_ndec {p A B : Prop} [Decidable p] (h1 : ¬ p → A) (h2 : p → B) : if (!decide p) = true then A else B := by
  by_cases h : p
  · rw [if_neg (by rw [decide_eq_true h]; decide)]; exact h2 h
  · rw [if_pos (by rw [decide_eq_false h]; decide)]; exact h1 h
theorem k_decT {p A B : Prop} [Decidable p] (h : p) (q : A) : if decide p = true then A else B := k_dec (fun _ => q) (fun z => absurd h z)
theorem k_decF {p A B : Prop} [Decidable p] (h : ¬ p) (q : B) : if decide p = true then A else B := k_dec (fun z => absurd z h) (fun _ => q)
theorem k_ndecT {p A B : Prop} [Decidable p] (h : p) (q : B) : if (!decide p) = true then A else B := k_ndec (fun z => absurd h z) (fun _ => q)
theorem k_ndecF {p A B : Prop} [Decidable p] (h : ¬ p) (q : A) : if (!decide p) = true then A else B := k_ndec (fun _ => q) (fun z => absurd z h)
theorem k_yes (h : Qb true H) : tYes σ H Qb := h
theorem k_T {A B : Prop} (q : A) : if true = true then A else B := iteT q
theorem k_F {A B : Prop} (q : B) : if false = true then A else B := iteF q
theorem k_nT {A B : Prop} (q : B) : if (!true) = true then A else B := iteF q
theorem k_nF {A B : Prop} (q : A) : if (!false) = true then A else B := iteT q
end
/-! ### items -/
theorem at_nat {α : Type} {xs : List α} {i : Nat} {x : α} (h : xs[i]? = some x) : atI xs (i : Int) = some x := atI_nat h
theorem at_int {α : Type} {xs : List α} {i : Int} {x : α} (h0 : 0 ≤ i) (h : xs[i.toNat]? = some x) : atI xs i = some x := by
  have e : i = ((i.toNat : Nat) : Int) := by omega
  rw [e]; exact atI_nat h
theorem mapint {ns : List Int} {i : Nat} {n : Int} (h : ns[i]? = some n) : (ns.map V.int)[i]? = some (.int n) := by
  rw [List.getElem?_map, h]; rfl
theorem of_mapint {ns : List Int} {i : Nat} {v : V} (h : (ns.map V.int)[i]? = some v) : ∃ n, ns[i]? = some n ∧ v = .int n := by
  rw [List.getElem?_map] at h
  cases e : ns[i]? with
  | none => rw [e] at h; cases h
  | some n => rw [e] at h; exact ⟨n, rfl, (Option.some.inj h).symm⟩
theorem cutTake (xs : List V) (n : Nat) : cutV xs none (some (n : Int)) = xs.take n := by
  unfold cutV
  rw [HT.sIx_none, HT.sIx_nat, List.drop_zero, Nat.sub_zero]
  rcases Nat.le_total n xs.length with h | h
  · rw [Nat.min_eq_left h]
  · rw [Nat.min_eq_right h, List.take_length, List.take_of_length_le h]
/-! ### steps on ends that are written out; loops -/
section
variable {σ : L2.St} {H : Hp} {Q rt : VK} {nx bk ct : L2.St → Hp → Prop} {t u tb : TS} {g : TG} {wi : TI} {c : TT} {i : Nat} {x : V} {K : PySem.W.Frag}
theorem m_seq (h : t (Ends.mk (u (Ends.mk nx rt bk ct)) rt bk ct) σ H) : tSeq t u (Ends.mk nx rt bk ct) σ H := h
theorem m_cut (Mid : L2.St → Hp → Prop) (h : t (Ends.mk Mid rt bk ct) σ H) (k : ∀ σ' H', Mid σ' H' → u (Ends.mk nx rt bk ct) σ' H') : Evl.tCut t u (Ends.mk nx rt bk ct) σ H := ⟨Mid, h, k⟩
theorem m_cut0 (h : t (Ends.mk (u (Ends.mk nx rt bk ct)) rt bk ct) σ H) : Evl.tCut t u (Ends.mk nx rt bk ct) σ H := ⟨_, h, fun _ _ x => x⟩
theorem m_bk (h : bk σ H) : tBreak (Ends.mk nx rt bk ct) σ H := h
theorem m_ct (h : ct σ H) : tCont (Ends.mk nx rt bk ct) σ H := h
theorem m_next (h : nx σ H) : tNext (Ends.mk nx rt bk ct) σ H := h
theorem m_gName {Qs : L2.St → Hp → Prop} (h : Qs (σ.set i (some x)) H) : gName i x σ H Qs := h
theorem m_call {sp : Sp} {E : XK} {tr : TA} (h : tr σ H fun vs H1 => sp vs H1 Q E) : tCall sp [] E tr σ H Q := by
  have e : (fun (vs : List V) (H1 : Hp) => sp (vs ++ []) H1 Q E) = fun vs H1 => sp vs H1 Q E := by
    funext vs H1; rw [List.append_nil]
  show tr σ H fun vs H1 => sp (vs ++ []) H1 Q E
  rw [e]; exact h
/-- a for loop over what J yields -/
def LoopOk (J : It) (g : TG) (tb : TS) (nx : L2.St → Hp → Prop) (rt : VK) (σ : L2.St) (H : Hp) : Prop :=
  ∃ W : Nat → Nat → L2.St → Hp → Prop, (∃ m, W 0 m σ H) ∧ ∀ i m σ H, W i m σ H →
  (J.stop i H ∧ nx σ H) ∨ (J.go i H ∧ ∃ N : L2.St → Hp → Prop, (∀ σ' H', N σ' H' → ∃ m', m' < m ∧ W (i + 1) m' σ' H') ∧ ∀ x H', J.yld i H x H' → g x σ H' fun σ2 H2 => tb (Ends.mk N rt nx N) σ2 H2)
theorem m_for (h : wi σ H fun J H1 => LoopOk J g tb nx rt σ H1) : tFor wi g tb (Ends.mk nx rt bk ct) σ H := h
def Rng1K (R : It → Hp → Prop) (vs : List V) (H : Hp) : Prop := ∃ j : Int, vs = [.int j] ∧ -(2 ^ 62) ≤ j ∧ j < 2 ^ 62 ∧ R (Itr 0 j.toNat) H
theorem m_rng1 {ta : TA} {R : It → Hp → Prop} (h : ta σ H (Rng1K R)) : iRng1 ta σ H R := h
theorem m_rng1e {R : It → Hp → Prop} {a : Int} (h1 : -(2 ^ 62) ≤ a ∧ a < 2 ^ 62) (h : R (Itr 0 a.toNat) H) : Rng1K R [V.int a] H := ⟨a, rfl, h1.1, h1.2, h⟩
theorem m_rng1n {R : It → Hp → Prop} {a : Nat} (h1 : (a : Int) < 2 ^ 62) (h : R (Itr 0 a) H) : Rng1K R [V.int (a : Int)] H := ⟨a, rfl, by omega, h1, by rw [Int.toNat_natCast]; exact h⟩
def Rng2K (R : It → Hp → Prop) (vs : List V) (H : Hp) : Prop := ∃ i j : Int, vs = [.int i, .int j] ∧ (-(2 ^ 62) ≤ i ∧ i < 2 ^ 62 ∧ -(2 ^ 62) ≤ j ∧ j < 2 ^ 62) ∧ R (Itr i (j - i).toNat) H
theorem m_rng2 {ta : TA} {R : It → Hp → Prop} (h : ta σ H (Rng2K R)) : iRng2 ta σ H R := h
theorem m_rng2e {R : It → Hp → Prop} {a b : Int} (h1 : -(2 ^ 62) ≤ a ∧ a < 2 ^ 62 ∧ -(2 ^ 62) ≤ b ∧ b < 2 ^ 62) (h : R (Itr a (b - a).toNat) H) : Rng2K R [V.int a, V.int b] H := ⟨a, b, rfl, h1, h⟩
def ListK (K : PySem.W.Frag) (R : It → Hp → Prop) (x : V) (H : Hp) : Prop := ∃ a, x = .ref a ∧ (∃ xs, SqL K H a xs) ∧ R (Itl K a) H
theorem m_iL {tl : TE} {R : It → Hp → Prop} (h : tl σ H (ListK K R)) : iList K tl σ H R := h
theorem m_iLe {R : It → Hp → Prop} {a : Addr} {xs : List V} (hx : SqL K H a xs) (h : R (Itl K a) H) : ListK K R (V.ref a) H := ⟨a, rfl, ⟨xs, hx⟩, h⟩
def TupK (K : PySem.W.Frag) (R : It → Hp → Prop) (x : V) (H : Hp) : Prop := ∃ a, x = .ref a ∧ (∃ xs, SqT K H a xs) ∧ R (Itt K a) H
theorem m_iT {tl : TE} {R : It → Hp → Prop} (h : tl σ H (TupK K R)) : iTup K tl σ H R := h
theorem m_iTe {R : It → Hp → Prop} {a : Addr} {xs : List V} (hx : SqT K H a xs) (h : R (Itt K a) H) : TupK K R (V.ref a) H := ⟨a, rfl, ⟨xs, hx⟩, h⟩
theorem loop_range {lo : Int} {n : Nat} (Pv : Nat → L2.St → Hp → Prop) (h0 : Pv 0 σ H)
    (hs : ∀ i σ H, i < n → Pv i σ H → g (.int (lo + i)) σ H fun σ2 H2 => tb (Ends.mk (Pv (i + 1)) rt nx (Pv (i + 1))) σ2 H2) (hd : ∀ σ H, Pv n σ H → nx σ H) : LoopOk (Itr lo n) g tb nx rt σ H :=
  for_range (D := Ends.mk nx rt nx nx) Pv h0 hs hd
theorem loop_range0 {n : Nat} (Pv : Nat → L2.St → Hp → Prop) (h0 : Pv 0 σ H)
    (hs : ∀ (i : Nat) σ H, i < n → Pv i σ H → g (.int (i : Int)) σ H fun σ2 H2 => tb (Ends.mk (Pv (i + 1)) rt nx (Pv (i + 1))) σ2 H2) (hd : ∀ σ H, Pv n σ H → nx σ H) : LoopOk (Itr 0 n) g tb nx rt σ H :=
  loop_range Pv h0 (fun i σ H hi p => by rw [Int.zero_add]; exact hs i σ H hi p) hd
theorem loop_list {a : Addr} {xs : List V} (Pv : Nat → L2.St → Hp → Prop) (h0 : Pv 0 σ H) (hl : ∀ i σ H, i ≤ xs.length → Pv i σ H → SqL K H a xs)
    (hs : ∀ i x σ H, xs[i]? = some x → Pv i σ H → g x σ H fun σ2 H2 => tb (Ends.mk (Pv (i + 1)) rt nx (Pv (i + 1))) σ2 H2) (hd : ∀ σ H, Pv xs.length σ H → nx σ H) : LoopOk (Itl K a) g tb nx rt σ H :=
  for_list (D := Ends.mk nx rt nx nx) Pv h0 hl hs hd
/-- over a list of ints -/
theorem loop_ints {a : Addr} {ns : List Int} (Pv : Nat → L2.St → Hp → Prop) (h0 : Pv 0 σ H) (hl : ∀ i σ H, Pv i σ H → SqL K H a (ns.map V.int))
    (hs : ∀ i n σ H, ns[i]? = some n → Pv i σ H → g (.int n) σ H fun σ2 H2 => tb (Ends.mk (Pv (i + 1)) rt nx (Pv (i + 1))) σ2 H2) (hd : ∀ σ H, Pv ns.length σ H → nx σ H) : LoopOk (Itl K a) g tb nx rt σ H :=
  loop_list (xs := ns.map V.int) Pv h0 (fun i σ H _ p => hl i σ H p) (fun i x σ H hx p => by
    obtain ⟨n, hn, rfl⟩ := of_mapint hx
    exact hs i n σ H hn p) (fun σ H p => hd σ H (by rw [List.length_map] at p; exact p))
theorem loop_tup {a : Addr} {xs : List V} (Pv : Nat → L2.St → Hp → Prop) (h0 : Pv 0 σ H) (hl : ∀ i σ H, i ≤ xs.length → Pv i σ H → SqT K H a xs)
    (hs : ∀ i x σ H, xs[i]? = some x → Pv i σ H → g x σ H fun σ2 H2 => tb (Ends.mk (Pv (i + 1)) rt nx (Pv (i + 1))) σ2 H2) (hd : ∀ σ H, Pv xs.length σ H → nx σ H) : LoopOk (Itt K a) g tb nx rt σ H :=
  for_tup (D := Ends.mk nx rt nx nx) Pv h0 hl hs hd
def WBody (W : Nat → L2.St → Hp → Prop) (m : Nat) (tb : TS) (rt : VK) (nx : L2.St → Hp → Prop) (σ : L2.St) (H : Hp) : Prop :=
  ∃ N : L2.St → Hp → Prop, (∀ σ' H', N σ' H' → ∃ m', m' < m ∧ W m' σ' H') ∧ tb (Ends.mk N rt nx N) σ H
theorem m_wbody {W : Nat → L2.St → Hp → Prop} {m : Nat} (h : tb (Ends.mk (fun σ' H' => ∃ m', m' < m ∧ W m' σ' H') rt nx (fun σ' H' => ∃ m', m' < m ∧ W m' σ' H')) σ H) : WBody W m tb rt nx σ H := ⟨_, fun _ _ h => h, h⟩
theorem loop_while (W : Nat → L2.St → Hp → Prop) (m : Nat) (h0 : W m σ H)
    (hs : ∀ m σ H, W m σ H → c σ H fun b H1 => if b = true then WBody W m tb rt nx σ H1 else nx σ H1) : tWhile c tb (Ends.mk nx rt bk ct) σ H := ⟨W, ⟨m, h0⟩, hs⟩
/-- a comprehension over what J yields -/
def CompOk (J : It) (g : TG) (tt : TT) (te : TE) (vs : List Nat) (σ : L2.St) (H1 : Hp) (Q : VK) : Prop :=
  ∀ D, H1 D = none → ∃ W : Nat → Nat → Hp → Prop, (∃ m, W 0 m (upd H1 D (.lst []))) ∧ ∀ i m H, W i m H →
  (J.stop i H ∧ Q (.ref D) H) ∨ (J.go i H ∧ ∃ Nx : Hp → Prop, (∀ H', Nx H' → ∃ m', m' < m ∧ W (i + 1) m' H') ∧ ∀ x H', J.yld i H x H' → g x (wipe σ vs) H' fun σ2 H2 => wipe σ2 vs = wipe σ vs ∧ tt σ2 H2 fun b H3 =>
    if b = true then te σ2 H3 fun y H4 => ∃ acc, H4 D = some (.lst acc) ∧ acc.length < sizeLine ∧ Nx (upd H4 D (.lst (acc ++ [y]))) else Nx H3)
theorem m_lc {tt : TT} {te : TE} {vs : List Nat} (h : wi σ H fun J H1 => CompOk J g tt te vs σ H1 Q) : tLc wi g tt te vs σ H Q := h
/-- over a range, no test, pure elements f i: the list made -/
theorem comp_rangeV {n : Nat} {te : TE} {j : Nat} {f : Nat → V} (hn : n ≤ 100000)
    (he : ∀ (k : Nat) (H2 : Hp) (Q2 : VK), k < n → Same H H2 → (∀ H3, Same H2 H3 → Q2 (f k) H3) → te ((wipe σ [j]).set j (some (.int (k : Int)))) H2 Q2)
    (q : ∀ p H', H p = none → Same H H' → H' p = some (.lst ((List.range n).map f)) → Q (.ref p) H') (hw : ∀ x, wipe ((wipe σ [j]).set j (some x)) [j] = wipe σ [j] := by intro _; rfl) : CompOk (Itr 0 n) (gName j) tYes te [j] σ H Q := by
  intro Dl hD
  refine lc_range (lo := 0) (n := n) (fun i H' => Same H H' ∧ H' Dl = some (.lst ((List.range i).map f))) ⟨same_new hD, upd_same⟩ (fun i H' hi p => ?_) (fun H' p => q Dl H' hD p.1 p.2)
  obtain ⟨p1, p2⟩ := p
  refine ⟨hw _, ?_⟩
  refine k_yes (iteT ?_)
  rw [Int.zero_add]
  refine he i H' _ hi p1 (fun H3 s3 => ⟨_, s3.get p2, ?_, Same.mut (p1.trans s3) hD ⟨_, s3.get p2⟩, ?_⟩)
  · rw [List.length_map, List.length_range]; exact Nat.lt_of_lt_of_le (Nat.lt_of_lt_of_le hi hn) (by decide)
  · rw [upd_same, List.range_succ, List.map_append]; rfl
/-- over a list, no test, pure elements -/
theorem comp_listV {a : Addr} {xs ys : List V} {te : TE} {j : Nat} (hl : SqL K H a xs) (hn : xs.length ≤ 100000) (hy : ys.length = xs.length)
    (he : ∀ (k : Nat) (x y : V) (H2 : Hp) (Q2 : VK), xs[k]? = some x → ys[k]? = some y → Same H H2 → (∀ H3, Same H2 H3 → Q2 y H3) → te ((wipe σ [j]).set j (some x)) H2 Q2)
    (q : ∀ p H', H p = none → Same H H' → H' p = some (.lst ys) → Q (.ref p) H') (hw : ∀ x, wipe ((wipe σ [j]).set j (some x)) [j] = wipe σ [j] := by intro _; rfl) : CompOk (Itl K a) (gName j) tYes te [j] σ H Q := by
  intro Dl hD
  refine lc_list (xs := xs) (fun i H' => Same H H' ∧ H' Dl = some (.lst (ys.take i))) ⟨same_new hD, upd_same⟩ (fun i H' _ p => p.1.seq hl) (fun i x H' hi p => ?_) (fun H' p => q Dl H' hD p.1 (by rw [p.2, ← hy, List.take_length]))
  obtain ⟨p1, p2⟩ := p
  refine ⟨hw _, ?_⟩
  refine k_yes (iteT ?_)
  have hlt : i < xs.length := (List.getElem?_eq_some_iff.mp hi).1
  obtain ⟨y, ey⟩ : ∃ y, ys[i]? = some y := ⟨ys[i]'(by omega), List.getElem?_eq_getElem (by omega)⟩
  refine he i x y H' _ hi ey p1 (fun H3 s3 => ⟨_, s3.get p2, ?_, Same.mut (p1.trans s3) hD ⟨_, s3.get p2⟩, ?_⟩)
  · rw [List.length_take]; exact Nat.lt_of_le_of_lt (Nat.min_le_right _ _) (Nat.lt_of_lt_of_le (show ys.length < 100001 by omega) (by decide))
  · rw [upd_same, List.take_add_one, ey]; rfl
end
/-! ### loops over any walk -/
section
variable {σ : L2.St} {H : Hp} {Q rt : VK} {nx bk ct : L2.St → Hp → Prop} {t u tb : TS} {g : TG} {i : Nat} {x : V} {K : PySem.W.Frag} {J : It} {n : Nat} {G : Hp → Prop} {Y : Nat → Hp → V → Hp → Prop}
theorem loop_walk (w : Walk J n G Y) (Pv : Nat → L2.St → Hp → Prop) (h0 : Pv 0 σ H) (hG : ∀ i σ H, Pv i σ H → G H)
    (hs : ∀ i x σ H H', i < n → Pv i σ H → Y i H x H' → g x σ H' fun σ2 H2 => tb (Ends.mk (Pv (i + 1)) rt nx (Pv (i + 1))) σ2 H2) (hd : ∀ σ H, Pv n σ H → nx σ H) : LoopOk J g tb nx rt σ H :=
  for_it (D := Ends.mk nx rt nx nx) w Pv h0 (fun i σ H _ p => hG i σ H p) hs hd
/-- a comprehension with a test: at each turn the item is dropped, or f i is kept -/
theorem comp_walkV {te : TE} {tt : TT} {j : Nat} {f : Nat → Option V} (w : Walk J n G Y) (hn : n ≤ 100000) (hG : ∀ H', Same H H' → G H')
    (he : ∀ (k : Nat) (x : V) (H1 H2 : Hp) (Qb : Bool → Hp → Prop), k < n → Same H H1 → Y k H1 x H2 → (∀ b H3, Same H1 H3 → (b = true → ∀ Q2 : VK, ∀ H4, Same H3 H4 → ∃ y, f k = some y ∧ ((∀ H5, Same H4 H5 → Q2 y H5) → te ((wipe σ [j]).set j (some x)) H4 Q2)) → (b = false → f k = none) → Qb b H3) → tt ((wipe σ [j]).set j (some x)) H2 Qb)
    (q : ∀ p H', H p = none → Same H H' → H' p = some (.lst ((List.range n).filterMap f)) → Q (.ref p) H') (hw : ∀ x, wipe ((wipe σ [j]).set j (some x)) [j] = wipe σ [j] := by intro _; rfl) : CompOk J (gName j) tt te [j] σ H Q := by
  intro Dl hD
  refine lc_it w (fun i H' => Same H H' ∧ H' Dl = some (.lst ((List.range i).filterMap f))) ⟨same_new hD, upd_same⟩ (fun i H' _ p => hG H' p.1) (fun i x H' H'' hi p hy => ?_) (fun H' p => q Dl H' hD p.1 p.2)
  obtain ⟨p1, p2⟩ := p
  refine ⟨hw _, he i x H' H'' _ hi p1 hy (fun b H3 s3 hb1 hb0 => ?_)⟩
  have hl : ((List.range i).filterMap f).length < sizeLine := Nat.lt_of_le_of_lt (List.length_filterMap_le f (List.range i)) (by rw [List.length_range]; exact Nat.lt_of_lt_of_le (Nat.lt_of_lt_of_le hi hn) (by decide))
  cases b with
  | true =>
    refine iteT ?_
    obtain ⟨y, ey, go⟩ := hb1 rfl (fun y H4 => ∃ acc, H4 Dl = some (.lst acc) ∧ acc.length < sizeLine ∧ Same H (upd H4 Dl (.lst (acc ++ [y]))) ∧ upd H4 Dl (.lst (acc ++ [y])) Dl = some (.lst ((List.range (i + 1)).filterMap f))) H3 (Same.refl _)
    refine go fun H5 s5 => ⟨_, s5.get (s3.get p2), hl, Same.mut ((p1.trans s3).trans s5) hD ⟨_, s5.get (s3.get p2)⟩, ?_⟩
    rw [upd_same, List.range_succ, List.filterMap_append]
    show _ = some (HO.lst (_ ++ List.filterMap f [i]))
    rw [List.filterMap_cons, ey]; rfl
  | false =>
    refine iteF ⟨p1.trans s3, ?_⟩
    rw [List.range_succ, List.filterMap_append]
    rw [show List.filterMap f [i] = [] by rw [List.filterMap_cons, hb0 rfl]; rfl, List.append_nil]
    exact s3.get p2
theorem k_rev {a : Addr} {xs : List V} {ta : TA} {R : It → Hp → Prop} (h : ta σ H fun vs H1 => ∃ (a : Addr) (xs : List V), vs = [.ref a] ∧ SqL K H1 a xs ∧ R (Itv K a xs.length) H1) : iRev K ta σ H R := h
def RevK (K : PySem.W.Frag) (R : It → Hp → Prop) (vs : List V) (H : Hp) : Prop := ∃ (a : Addr) (xs : List V), vs = [.ref a] ∧ SqL K H a xs ∧ R (Itv K a xs.length) H
theorem m_rev {ta : TA} {R : It → Hp → Prop} (h : ta σ H (RevK K R)) : iRev K ta σ H R := h
theorem m_revE {a : Addr} {xs : List V} {R : It → Hp → Prop} (hx : SqL K H a xs) (h : R (Itv K a xs.length) H) : RevK K R [.ref a] H := ⟨a, xs, rfl, hx, h⟩
def EnumK (K : PySem.W.Frag) (R : It → Hp → Prop) (vs : List V) (H : Hp) : Prop := ∃ (a : Addr) (xs : List V), vs = [.ref a] ∧ SqL K H a xs ∧ R (Ite K a) H
theorem m_enum {ta : TA} {R : It → Hp → Prop} (h : ta σ H (EnumK K R)) : iEnum K ta σ H R := h
theorem m_enumE {a : Addr} {xs : List V} {R : It → Hp → Prop} (hx : SqL K H a xs) (h : R (Ite K a) H) : EnumK K R [.ref a] H := ⟨a, xs, rfl, hx, h⟩
def ZipK (K : PySem.W.Frag) (R : It → Hp → Prop) (vs : List V) (H : Hp) : Prop := ∃ a b xs ys, vs = [.ref a, .ref b] ∧ SqL K H a xs ∧ SqL K H b ys ∧ R (Itz K a b) H
theorem m_zip {ta : TA} {R : It → Hp → Prop} (h : ta σ H (ZipK K R)) : iZip K ta σ H R := h
theorem m_zipE {a b : Addr} {xs ys : List V} {R : It → Hp → Prop} (hx : SqL K H a xs) (hy : SqL K H b ys) (h : R (Itz K a b) H) : ZipK K R [.ref a, .ref b] H := ⟨a, b, xs, ys, rfl, hx, hy, h⟩
def RevLK (K : PySem.W.Frag) (Q : VK) (x : V) (H : Hp) : Prop := ∃ a xs, x = .ref a ∧ SqL K H a xs ∧ ∀ p, H p = none → Q (.ref p) (upd H p (.lst xs.reverse))
theorem m_revL {te : TE} (h : te σ H (RevLK K Q)) : tRevL K te σ H Q := h
theorem m_revLE {a : Addr} {xs : List V} (hx : SqL K H a xs) (q : ∀ p, H p = none → Q (.ref p) (upd H p (.lst xs.reverse))) : RevLK K Q (.ref a) H := ⟨a, xs, rfl, hx, q⟩
def Rng3K (R : It → Hp → Prop) (vs : List V) (H : Hp) : Prop := ∃ i j c n, vs = [.int i, .int j, .int c] ∧ RgC i j c n ∧ R (Itc i c n) H
theorem m_rng3 {ta : TA} {R : It → Hp → Prop} (h : ta σ H (Rng3K R)) : iRng3 ta σ H R := h
theorem m_rng3e {R : It → Hp → Prop} {a b c : Int} {n : Nat} (h1 : RgC a b c n) (h : R (Itc a c n) H) : Rng3K R [V.int a, V.int b, V.int c] H := ⟨a, b, c, n, rfl, h1, h⟩
/-- targets that are pairs -/
def GTupK (K : PySem.W.Frag) (n : Nat) (tg : TGs) (Qs : L2.St → Hp → Prop) (x : V) (σ : L2.St) (H : Hp) : Prop := ∃ a xs, x = .ref a ∧ SqT K H a xs ∧ xs.length = n ∧ tg xs σ H Qs
theorem m_gTup {tg : TGs} {Qs : L2.St → Hp → Prop} {a : Addr} {xs : List V} (hx : SqT K H a xs) (hn : xs.length = n) (h : tg xs σ H Qs) : gTup K n tg (.ref a) σ H Qs := ⟨a, xs, rfl, hx, hn, h⟩
theorem m_gCons {t1 : TG} {ts : TGs} {Qs : L2.St → Hp → Prop} {xs : List V} (h : t1 x σ H fun σ' H' => ts xs σ' H' Qs) : gCons t1 ts (x :: xs) σ H Qs := ⟨x, xs, rfl, h⟩
theorem m_gNil {Qs : L2.St → Hp → Prop} (h : Qs σ H) : gNil [] σ H Qs := ⟨rfl, h⟩
theorem m_asg {te : TE} (h : te σ H fun x H1 => g x σ H1 nx) : tAsg te g (Ends.mk nx rt bk ct) σ H := h
theorem k_rep {Q : VK} {l : Addr} {xs : List V} {n : Nat} (h : H l = some (.lst xs)) (hn : xs.length * n ≤ 1000000) (hn2 : n ≤ 1000000) (q : ∀ p, H p = none → Q (.ref p) (upd H p (.lst (List.replicate n xs).flatten))) : rRep (.ref l) (.int (n : Int)) H Q :=
  ⟨l, n, xs, rfl, rfl, h, by omega, by omega, by rw [Int.toNat_natCast]; exact Nat.le_trans hn (by decide), by rw [Int.toNat_natCast]; exact q⟩
theorem k_cat {Q : VK} {l b : Addr} {xs zs : List V} (h1 : H l = some (.lst xs)) (h2 : H b = some (.lst zs)) (hn : xs.length + zs.length ≤ 1000000) (q : ∀ p, H p = none → Q (.ref p) (upd H p (.lst (xs ++ zs)))) : rCat (.ref l) (.ref b) H Q :=
  ⟨l, b, xs, zs, rfl, rfl, h1, h2, Nat.le_trans hn (by decide), q⟩
theorem rep_one (x : V) (n : Nat) : (List.replicate n [x]).flatten = List.replicate n x := by
  induction n with
  | zero => rfl
  | succ n ih => rw [List.replicate_succ, List.flatten_cons, ih]; rfl
theorem m_gSub {to ti : TE} {ts : TSet} {Qs : L2.St → Hp → Prop} (h : to σ H fun o H1 => ti σ H1 fun i H2 => ts o i x H2 fun H3 => Qs σ H3) : gSub to ti ts x σ H Qs := h
theorem m_setL {p : Addr} {xs : List V} {k : Int} {j : Nat} {y : V} {Qh : Hp → Prop} (h : H p = some (.lst xs)) (hj : ixN xs.length k = some j) (q : Qh (upd H p (.lst (xs.set j y)))) : rSetL (.ref p) (.int k) y H Qh := ⟨p, xs, k, j, rfl, rfl, h, hj, q⟩
theorem ixN_nat {n : Nat} {k : Int} (h0 : 0 ≤ k) (h1 : k < n) : ixN n k = some k.toNat := by
  unfold ixN; rw [if_pos h0, if_pos h1]
def ParK (nx : L2.St → Hp → Prop) (i j : Nat) (σ : L2.St) (vs : List V) (H : Hp) : Prop := ∃ v w, vs = [v, w] ∧ nx ((σ.set i (some v)).set j (some w)) H
theorem m_par {i j : Nat} {ta : TA} (h : ta σ H (ParK nx i j σ)) : tPar i j ta (Ends.mk nx rt bk ct) σ H := h
theorem m_parE {i j : Nat} {a b : V} (h : nx ((σ.set i (some a)).set j (some b)) H) : ParK nx i j σ [a, b] H := ⟨a, b, rfl, h⟩
theorem k_divmod {Q : VK} {a b : Int} (h : CDivP a b) (q : ∀ p, H p = none → Q (.ref p) (upd H p (.tup [.int (a / b), .int (a % b)]))) : rDivmod [.int a, .int b] H Q := ⟨a, b, rfl, h, q⟩
end
/-! ### what a comprehension with a test leaves -/
theorem fm_head {α : Type} {f : Nat → Option α} : ∀ {n : Nat} {y : α}, ((List.range n).filterMap f)[0]? = some y → ∃ i, i < n ∧ f i = some y ∧ ∀ j, j < i → f j = none
  | 0, y, h => by simp at h
  | n + 1, y, h => by
    rw [List.range_succ, List.filterMap_append] at h
    cases e : (List.range n).filterMap f with
    | cons z zs =>
      rw [e] at h
      have h' : ((List.range n).filterMap f)[0]? = some y := by rw [e]; simpa using h
      obtain ⟨i, h1, h2, h3⟩ := fm_head h'
      exact ⟨i, by omega, h2, h3⟩
    | nil =>
      rw [e, List.nil_append] at h
      have none_all : ∀ j, j < n → f j = none := fun j hj => List.filterMap_eq_nil_iff.mp e j (List.mem_range.mpr hj)
      cases q : f n with
      | none => rw [List.filterMap_cons, q] at h; simp at h
      | some z =>
        rw [List.filterMap_cons, q] at h
        have : z = y := by simpa using h
        subst this
        exact ⟨n, by omega, q, none_all⟩
theorem fm_last {α : Type} {f : Nat → Option α} : ∀ {n : Nat} {y : α} {ys : List α}, (List.range n).filterMap f = ys ++ [y] → ∃ i, i < n ∧ f i = some y ∧ ∀ j, i < j → j < n → f j = none
  | 0, y, ys, h => by simp at h
  | n + 1, y, ys, h => by
    rw [List.range_succ, List.filterMap_append] at h
    cases q : f n with
    | none =>
      rw [show List.filterMap f [n] = [] by rw [List.filterMap_cons, q]; rfl, List.append_nil] at h
      obtain ⟨i, h1, h2, h3⟩ := fm_last h
      refine ⟨i, by omega, h2, fun j h4 h5 => ?_⟩
      rcases Nat.lt_or_ge j n with h6 | h6
      · exact h3 j h4 h6
      · have : j = n := by omega
        subst this; exact q
    | some z =>
      rw [show List.filterMap f [n] = [z] by rw [List.filterMap_cons, q]; rfl] at h
      have e := List.append_inj_right' h rfl
      injection e with e
      subst e
      exact ⟨n, by omega, q, fun j h4 h5 => by omega⟩
theorem fm_nil {α : Type} {f : Nat → Option α} {n : Nat} (h : (List.range n).filterMap f = []) : ∀ j, j < n → f j = none := fun j hj => List.filterMap_eq_nil_iff.mp h j (List.mem_range.mpr hj)
theorem fm_id {α : Type} (l : List α) {n : Nat} (hn : n = l.length) : (List.range n).filterMap (fun k => l[k]?) = l := by
  subst hn
  have h : ∀ n, n ≤ l.length → (List.range n).filterMap (fun k => l[k]?) = l.take n := by
    intro n
    induction n with
    | zero => intro _; rfl
    | succ n ih =>
      intro hn
      rw [List.range_succ, List.filterMap_append, ih (by omega), List.take_add_one, List.getElem?_eq_getElem (show n < l.length by omega)]
      congr 1
      rw [List.filterMap_cons, List.getElem?_eq_getElem (show n < l.length by omega)]; rfl
  rw [h _ (Nat.le_refl _), List.take_length]
theorem snoc_of {α : Type} : ∀ {l : List α}, l ≠ [] → ∃ ys y, l = ys ++ [y]
  | [], h => absurd rfl h
  | a :: l, _ => ⟨(a :: l).dropLast, (a :: l).getLast (List.cons_ne_nil _ _), (List.dropLast_concat_getLast _).symm⟩
theorem cutPart (xs : List V) (a b : Nat) : cutV xs (some (a : Int)) (some (b : Int)) = (xs.take b).drop a := by
  unfold cutV
  rw [HT.sIx_nat, HT.sIx_nat, List.drop_take]
  rcases Nat.le_total a xs.length with h | h
  · rw [Nat.min_eq_left h]
    rcases Nat.le_total b xs.length with h2 | h2
    · rw [Nat.min_eq_left h2]
    · rw [Nat.min_eq_right h2, List.take_of_length_le (by rw [List.length_drop]; omega), List.take_of_length_le (by rw [List.length_drop]; omega)]
  · rw [Nat.min_eq_right h, List.drop_of_length_le (Nat.le_refl _), List.drop_of_length_le h]
    simp
/-- a part of a list of ints -/
theorem cut_ints (ns : List Int) (lo hi : Option Int) : ∃ cs : List Int, cutV (ns.map V.int) lo hi = cs.map V.int ∧ (∀ x ∈ cs, x ∈ ns) ∧ cs.length ≤ ns.length := by
  unfold cutV
  refine ⟨_, by rw [← List.map_drop, ← List.map_take], fun x h => List.mem_of_mem_drop (List.mem_of_mem_take h), by rw [List.length_take, List.length_drop]; omega⟩
theorem cutDrop (xs : List V) (a : Nat) : cutV xs (some (a : Int)) none = xs.drop a := by
  unfold cutV
  rw [HT.sIx_nat, HT.sIx_none]
  rcases Nat.le_total a xs.length with h | h
  · rw [Nat.min_eq_left h, List.take_of_length_le (by rw [List.length_drop]; omega)]
  · rw [Nat.min_eq_right h, List.drop_of_length_le (Nat.le_refl _), List.drop_of_length_le h]
    simp
/-! ### data at any depth -/
section
variable {H H' : Hp} {K : PySem.W.Frag}
theorem dpAll_ints : ∀ ns : List Int, DpAll K H (ns.map V.int) (ns.map PyData.int)
  | [] => .nil
  | n :: ns => .cons (.int n) (dpAll_ints ns)
theorem dpAll_bools : ∀ bs : List Bool, DpAll K H (bs.map V.bl) (bs.map PyData.bool)
  | [] => .nil
  | b :: bs => .cons (.bl b) (dpAll_bools bs)
theorem dp_ints {a : Addr} {ns : List Int} (h : SqL K H a (ns.map V.int)) : Dp K H (.ref a) (.list (ns.map PyData.int)) := .lst h (dpAll_ints ns)
theorem dp_intsT {a : Addr} {ns : List Int} (h : SqT K H a (ns.map V.int)) : Dp K H (.ref a) (.tuple (ns.map PyData.int)) := .tup h (dpAll_ints ns)
theorem eqvAll_ints : ∀ as bs : List Int, PyData.eqvAll (as.map PyData.int) (bs.map PyData.int) = decide (as = bs)
  | [], [] => by rw [List.map_nil]; unfold PyData.eqvAll; rfl
  | [], b :: bs => by rw [List.map_nil, List.map_cons]; unfold PyData.eqvAll; simp
  | a :: as, [] => by rw [List.map_nil, List.map_cons]; unfold PyData.eqvAll; simp
  | a :: as, b :: bs => by
    rw [List.map_cons, List.map_cons]; unfold PyData.eqvAll
    rw [eqvAll_ints as bs]
    unfold PyData.eqv
    by_cases h : a = b
    · subst h; by_cases h2 : as = bs
      · subst h2; simp
      · simp [h2]
    · simp [h]
theorem eqv_ints (as bs : List Int) : PyData.eqv (.list (as.map PyData.int)) (.list (bs.map PyData.int)) = decide (as = bs) := by
  unfold PyData.eqv; exact eqvAll_ints as bs
theorem eqv_intsT (as bs : List Int) : PyData.eqv (.tuple (as.map PyData.int)) (.tuple (bs.map PyData.int)) = decide (as = bs) := by
  unfold PyData.eqv; exact eqvAll_ints as bs
/-- laid: no dict, texts in order, at most so deep -/
def laid (n : Nat) (d : PyData) : Prop := d.canLay0 = true ∧ d.depth ≤ n
theorem laid_int {n : Nat} (i : Int) : laid n (.int i) := ⟨by simp [PyData.canLay0], by simp [PyData.depth]⟩
theorem laid_bool {n : Nat} (i : Bool) : laid n (.bool i) := ⟨by simp [PyData.canLay0], by simp [PyData.depth]⟩
theorem laid_none {n : Nat} : laid n .none := ⟨by simp [PyData.canLay0], by simp [PyData.depth]⟩
theorem laid_all {n : Nat} : ∀ ds : List PyData, (∀ d ∈ ds, laid n d) → PyData.canLayAll0 ds = true ∧ PyData.depthAll ds ≤ n
  | [], _ => ⟨by simp [PyData.canLayAll0], by simp [PyData.depthAll]⟩
  | d :: ds, h => by
    obtain ⟨h1, h2⟩ := h d List.mem_cons_self
    obtain ⟨h3, h4⟩ := laid_all ds fun x hx => h x (List.mem_cons_of_mem _ hx)
    exact ⟨by simp [PyData.canLayAll0, h1, h3], by simp only [PyData.depthAll]; omega⟩
theorem laid_list {n : Nat} {ds : List PyData} (h : ∀ d ∈ ds, laid n d) : laid (n + 1) (.list ds) := by
  obtain ⟨h1, h2⟩ := laid_all ds h
  exact ⟨by simp [PyData.canLay0, h1], by simp only [PyData.depth]; omega⟩
theorem laid_tup {n : Nat} {ds : List PyData} (h : ∀ d ∈ ds, laid n d) : laid (n + 1) (.tuple ds) := by
  obtain ⟨h1, h2⟩ := laid_all ds h
  exact ⟨by simp [PyData.canLay0, h1], by simp only [PyData.depth]; omega⟩
theorem laid_ints {n : Nat} (ns : List Int) : laid (n + 1) (.list (ns.map PyData.int)) := laid_list fun d hd => by
  obtain ⟨i, _, rfl⟩ := List.mem_map.mp hd
  exact laid_int i
theorem laid_intsT {n : Nat} (ns : List Int) : laid (n + 1) (.tuple (ns.map PyData.int)) := laid_tup fun d hd => by
  obtain ⟨i, _, rfl⟩ := List.mem_map.mp hd
  exact laid_int i
theorem laid_bools {n : Nat} (bs : List Bool) : laid (n + 1) (.list (bs.map PyData.bool)) := laid_list fun d hd => by
  obtain ⟨i, _, rfl⟩ := List.mem_map.mp hd
  exact laid_bool i
theorem laid_shaped {d : PyData} (h : laid 64 d) : SeqAt.shaped d = true := by
  obtain ⟨h1, h2⟩ := h
  unfold SeqAt.shaped
  rw [h1, decide_eq_true h2]; rfl
theorem k_eqD {Q : VK} {x y : V} {d e : PyData} (h1 : Dp K H x d) (h2 : Dp K H y e) (l1 : laid 64 d) (l2 : laid 64 e) (q : Q (.bl (PyData.eqv d e)) H) : rEqD K x y H Q :=
  ⟨d, e, h1, h2, laid_shaped l1, laid_shaped l2, q⟩
theorem k_neD {Q : VK} {x y : V} {d e : PyData} (h1 : Dp K H x d) (h2 : Dp K H y e) (l1 : laid 64 d) (l2 : laid 64 e) (q : Q (.bl (!PyData.eqv d e)) H) : rNeD K x y H Q :=
  ⟨d, e, h1, h2, laid_shaped l1, laid_shaped l2, q⟩
theorem k_eqL {Q : VK} {a b : Addr} {ns ms : List Int} (h1 : SqL K H a (ns.map V.int)) (h2 : SqL K H b (ms.map V.int)) (q : Q (.bl (decide (ns = ms))) H) : rEqD K (.ref a) (.ref b) H Q :=
  k_eqD (dp_ints h1) (dp_ints h2) (laid_ints ns) (laid_ints ms) (by rw [eqv_ints]; exact q)
theorem k_neL {Q : VK} {a b : Addr} {ns ms : List Int} (h1 : SqL K H a (ns.map V.int)) (h2 : SqL K H b (ms.map V.int)) (q : Q (.bl (!decide (ns = ms))) H) : rNeD K (.ref a) (.ref b) H Q :=
  k_neD (dp_ints h1) (dp_ints h2) (laid_ints ns) (laid_ints ms) (by rw [eqv_ints]; exact q)
end
/-- a row's tables: a number and a tuple of numbers -/
theorem eqv_row (n : Int) (as : List Int) : PyData.eqv (.tuple [.int n, .tuple (as.map PyData.int)]) (.tuple [.int n, .tuple (as.map PyData.int)]) = true := by
  unfold PyData.eqv PyData.eqvAll; unfold PyData.eqv PyData.eqvAll
  simp [eqv_intsT, PyData.eqvAll]
theorem dp_row {K : PySem.W.Frag} {H : Hp} {t a : Addr} {n : Int} {as : List Int} (h1 : SqT K H t [.int n, .ref a]) (h2 : SqT K H a (as.map V.int)) : Dp K H (.ref t) (.tuple [.int n, .tuple (as.map PyData.int)]) :=
  .tup h1 (.cons (.int n) (.cons (dp_intsT h2) .nil))
theorem laid_row (n : Int) (as : List Int) : laid 64 (.tuple [.int n, .tuple (as.map PyData.int)]) := laid_tup (n := 63) fun d hd => by
  simp only [List.mem_cons, List.not_mem_nil, or_false] at hd
  rcases hd with rfl | rfl
  · exact laid_int _
  · exact laid_intsT _
theorem k_eqRow {K : PySem.W.Frag} {H : Hp} {Q : VK} {t u a b : Addr} {n : Int} {as : List Int} (h1 : SqT K H t [.int n, .ref a]) (h2 : SqT K H a (as.map V.int)) (h3 : SqT K H u [.int n, .ref b]) (h4 : SqT K H b (as.map V.int)) (q : Q (.bl true) H) : rEqD K (.ref t) (.ref u) H Q :=
  k_eqD (dp_row h1 h2) (dp_row h3 h4) (laid_row n as) (laid_row n as) (by rw [eqv_row]; exact q)
theorem any_int (i : Int) : ∀ ns : List Int, ((ns.map PyData.int).any fun z => PyData.eqv z (.int i)) = decide (i ∈ ns)
  | [] => by simp
  | n :: ns => by
    rw [List.map_cons, List.any_cons, any_int i ns]
    unfold PyData.eqv
    by_cases h : n = i
    · subst h; simp
    · have h' : ¬ i = n := fun z => h z.symm
      simp [h, h']
theorem k_inL {K : PySem.W.Frag} {H : Hp} {Q : VK} {i : Int} {a : Addr} {ns : List Int} (h : SqL K H a (ns.map V.int)) (q : Q (.bl (decide (i ∈ ns))) H) : rInD K (.int i) (.ref a) H Q :=
  ⟨.int i, _, .int i, dp_ints h, laid_shaped (laid_int i), laid_shaped (laid_ints ns), by rw [any_int]; exact q⟩
theorem k_notInL {K : PySem.W.Frag} {H : Hp} {Q : VK} {i : Int} {a : Addr} {ns : List Int} (h : SqL K H a (ns.map V.int)) (q : Q (.bl (!decide (i ∈ ns))) H) : rNotInD K (.int i) (.ref a) H Q :=
  ⟨.int i, _, .int i, dp_ints h, laid_shaped (laid_int i), laid_shaped (laid_ints ns), by rw [any_int]; exact q⟩
section
variable {H : Hp} {K : PySem.W.Frag}
theorem eqvAll_bools : ∀ as bs : List Bool, PyData.eqvAll (as.map PyData.bool) (bs.map PyData.bool) = decide (as = bs)
  | [], [] => by rw [List.map_nil]; unfold PyData.eqvAll; rfl
  | [], b :: bs => by rw [List.map_nil, List.map_cons]; unfold PyData.eqvAll; simp
  | a :: as, [] => by rw [List.map_nil, List.map_cons]; unfold PyData.eqvAll; simp
  | a :: as, b :: bs => by
    rw [List.map_cons, List.map_cons]; unfold PyData.eqvAll
    rw [eqvAll_bools as bs]
    unfold PyData.eqv
    by_cases h : a = b
    · subst h; by_cases h2 : as = bs
      · subst h2; simp
      · simp [h2]
    · simp [h]
theorem eqv_bools (as bs : List Bool) : PyData.eqv (.list (as.map PyData.bool)) (.list (bs.map PyData.bool)) = decide (as = bs) := by
  unfold PyData.eqv; exact eqvAll_bools as bs
theorem dp_bools {a : Addr} {bs : List Bool} (h : SqL K H a (bs.map V.bl)) : Dp K H (.ref a) (.list (bs.map PyData.bool)) := .lst h (dpAll_bools bs)
theorem k_eqB {Q : VK} {a b : Addr} (ns ms : List Bool) (h1 : SqL K H a (ns.map V.bl)) (h2 : SqL K H b (ms.map V.bl)) (q : Q (.bl (decide (ns = ms))) H) : rEqD K (.ref a) (.ref b) H Q :=
  k_eqD (dp_bools h1) (dp_bools h2) (laid_bools ns) (laid_bools ms) (by rw [eqv_bools]; exact q)
end
theorem m_neB {H : Hp} {K : PySem.W.Frag} {Q : VK} {a b : Addr} (ns ms : List Bool) (h1 : SqL K H a (ns.map V.bl)) (h2 : SqL K H b (ms.map V.bl)) (q : Q (.bl (!decide (ns = ms))) H) : rNeD K (.ref a) (.ref b) H Q :=
  k_neD (dp_bools h1) (dp_bools h2) (laid_bools ns) (laid_bools ms) (by rw [eqv_bools]; exact q)
theorem room65 {k : Nat} {A : Around} (r : Room k A) : A.units + 65 < cLine := by have := r.un; omega
/-- list + list, whichever way they are known -/
def rCatK (K : PySem.W.Frag) : R2 := fun x y H Q => ∃ l b xs zs, x = .ref l ∧ y = .ref b ∧ SqL K H l xs ∧ SqL K H b zs ∧ xs.length + zs.length ≤ sizeLine ∧ ∀ p, H p = none → Q (.ref p) (upd H p (.lst (xs ++ zs)))
theorem op_catK {X : Cx} : OpR X (binaryOp .Add) (rCatK X.K) := by
  intro pins s σ H x y v u Q I rx ry h
  obtain ⟨l, b, xs, zs, rfl, rfl, hH, hB, hz, q⟩ := h
  cases rx
  cases ry
  obtain ⟨its, r, ⟨⟨cls, dd, data, sl⟩, n, ho, hc, hdd, hd⟩, hl⟩ := I.list hH
  obtain ⟨its2, r2, ⟨⟨cls2, dd2, data2, sl2⟩, n2, ho2, hc2, hdd2, hd2⟩, hl2⟩ := I.list hB
  simp only at hc hdd hd hc2 hdd2 hd2
  subst hc hdd hd hc2 hdd2 hd2
  have h1 := r.length
  have h2 := r2.length
  refine concat_meets ⟨_, ho, rfl⟩ ⟨_, ho2, rfl⟩ noFill_list_add seq_list_add PySem.F.slot_list_add PySem.F.entry_list_add (PySem.F.args_list_add_2 _ _) (list_addW l b its.toArray its2.toArray n n2 none none sl sl2 (by rw [List.size_toArray, List.size_toArray]; omega)) ⟨ho, ho2, ?_⟩
  have ea : its.toArray ++ its2.toArray = (its ++ its2).toArray := by simp
  rw [ea]
  exact ⟨.ref _, _, I.lnew (t' := s.toks) (r.append r2) (by rw [List.length_append]; omega), rfl, q _ I.fresh⟩
theorem k_catK {H : Hp} {K : PySem.W.Frag} {Q : VK} {l b : Addr} {xs zs : List V} (h1 : SqL K H l xs) (h2 : SqL K H b zs) (hn : xs.length + zs.length ≤ 1000000) (q : ∀ p, H p = none → Q (.ref p) (upd H p (.lst (xs ++ zs)))) : rCatK K (.ref l) (.ref b) H Q :=
  ⟨l, b, xs, zs, rfl, rfl, h1, h2, Nat.le_trans hn (by decide), q⟩
/-! ### len(set(xs)) -/
/-- how many unlike numbers -/
def unlike (ns : List Int) : Nat := (PyProof.Rows.firstMet (fun i => ns.getD i 0) ns.length).length
theorem unlike_le (ns : List Int) : unlike ns ≤ ns.length := PyProof.Rows.firstMet_length_le _ _
def tLenSet (K : PySem.W.Frag) (ta : TE) : TE := fun σ H Q => ta σ H fun x H1 => ∃ (l : Addr) (ns : List Int), x = .ref l ∧ SqL K H1 l (ns.map V.int) ∧ ns.length ≤ 4000 ∧ Q (.int (unlike ns : Nat)) H1
theorem intsAre_vals : ∀ {ns : List Int} {us : List Value}, Vals (ns.map V.int) us → PyProof.Rows.IntsAre us ns
  | [], _, .nil => .nil
  | n :: ns, _, .cons r t => by
    obtain ⟨k, rfl⟩ := r
    exact .cons n k (intsAre_vals t)
theorem pe_lenSet {X : Cx} {a : Expr} {ta : TE} {p p2 q pos : Pos} (hg : Gl X "len") (hm : X.mg "len" = none) (hg2 : Gl X "set") (hm2 : X.mg "set" = none) (ha : PE X a ta) (hc : X.calm = true := by rfl)
    (na : starEach [a] X.env = (false, eval a X.env) :: starEach [] X.env := by rfl) : PE X (.Call (.Name "len" p) [.Call (.Name "set" p2) [a] [] q] [] pos) (tLenSet X.K ta) := by
  refine ⟨fun pins s σ H Q I h => ?_⟩
  refine Call_ (ld_blt I hg hm boot_len ?_)
  refine PyProof.Rows.callWith_builtin1 (PyProof.Rows.args_cons ?_ rfl) rfl rfl
  refine Call_ (ld_blt I hg2 hm2 boot_set ?_)
  refine PyProof.Rows.callWith_type1 (PyProof.Rows.args_cons (thn (ha.run pins s σ H _ I h) fun v s1 ⟨x, H1, I1, r1, q1⟩ => PyProof.Rows.args_nil ?_) na) na rfl
  obtain ⟨l, ns, rfl, hq, hl, q1⟩ := q1
  cases r1
  obtain ⟨its, r, pl, hz⟩ := I1.list hq
  have hlen : its.toArray.size = ns.length := by rw [List.size_toArray, ← r.length, List.length_map]
  refine call_set_list (I1.ok.hd hc) pl.isList (by simpa using intsAre_vals r) (by rw [hlen]; unfold scanBound; omega) fun h' tk hS hk => ?_
  refine PyProof.Rows.args_nil ?_
  rw [hlen] at hS
  obtain ⟨o, es, ep, t, ho, hex, hd, _, _, _, hf, hn⟩ := hS
  have I2 : Inv X pins σ H1 { s1 with heap := h', toks := tk } := I1.kept fun b o e => hk b o (Heap.lt_size e) e
  have hu := unlike_le ns
  unfold unlike at hu q1
  exact call_len_set ho hex hd hf (by rw [hn] <;> omega) ⟨.int ((PyProof.Rows.firstMet (fun i => ns.getD i 0) ns.length).length : Nat), H1, I2.tok _, ⟨_, by rw [hn]⟩, q1⟩
section
variable {σ : L2.St} {H : Hp} {Q : VK} {K : PySem.W.Frag} {te : TE}
def LenSetK (K : PySem.W.Frag) (Q : VK) (x : V) (H : Hp) : Prop := ∃ (l : Addr) (ns : List Int), x = .ref l ∧ SqL K H l (ns.map V.int) ∧ ns.length ≤ 4000 ∧ Q (.int (unlike ns : Nat)) H
theorem m_lenSet (h : te σ H (LenSetK K Q)) : tLenSet K te σ H Q := h
theorem m_lenSetE {l : Addr} {ns : List Int} (hS : SqL K H l (ns.map V.int)) (hl : ns.length ≤ 4000) (q : Q (.int (unlike ns : Nat)) H) : LenSetK K Q (.ref l) H := ⟨l, ns, rfl, hS, hl, q⟩
end
/-! ### errors: raised, let through, caught -/
section
variable {X : Cx} {E : XK} {W : WX} {k j : Nat} {ps : List Str} {sp : Sp} {x : Str} {p pos : Pos} {e : Expr} {es : List Expr} {t : TA}
theorem passX (tk : Takes X (fun cls d _ H => E cls d H)) : Passes (L2.CX X.prog X.w) X E := passes_call tk fun _ _ _ _ h => h
/-- raise C('..') -/
def tRz (W : WX) (C : Addr) : TS := fun _ σ H => W (.ref C) none σ H
/-- what stands of the class x: it can be raised -/
structure ExF (K : PySem.W.Frag) (mg : Str → Option Value) (x : Str) : Prop where
  gl : mg x = some (.ref (He.ga K x))
  ex : PySem.W.excIn K (He.ga K x) He.veBase "ValueError.__new__" = true
  kp : PySem.W.keepIn K (.ref (He.ga K x)) = true
  sb : PySem.W.subIn K (.ref (He.ga K x)) (.type "BaseException") = some true
  ty : PySem.W.typeIn K (.ref (He.ga K x)) = some (.type "type")
theorem ps_rz {m : Str} {j : Nat} {p2 pos2 : Pos} (F : ExF X.K X.mg x) (tk : Takes X W) (hc : X.calm = true := by rfl) (hg : Gl X x := by rfl) (hdb : (x == ("__debug__" : Str)) = false := by decide) :
    PS X (.Raise (some (.Call (.Name x p) [.Constant (.str m) j p2] [] pos)) none pos2) (tRz W (He.ga X.K x)) :=
  ps_raise hc tk (pmk_own PySem.F.excBase_ValueError F.ex F.gl F.kp (raises_own F.sb F.ty) hg hdb)
theorem k_rz {D : Ends} {C : Addr} {σ : L2.St} {H : Hp} (h : W (.ref C) none σ H) : tRz W C D σ H := h
/-- a call within a try's body -/
theorem pe_callFS (F : Okf X.prog X.w X.K X.mg X.base (L2.CX X.prog X.w) k x ps sp) (hr : Room j X.A) (hk : k ≤ j) (hg : Gl X x) (tk : Takes X W)
    (ha : PA X (e :: es) t) (hdb : (x == ("__debug__" : Str)) = false := by decide) (he : starEach (e :: es) X.env = (false, eval e X.env) :: starEach es X.env := by rfl) (hpl : (backTo pos (starEach es X.env)).any (·.1) = false := by rfl) :
    PE X (.Call (.Name x p) (e :: es) [] pos) (tCallS sp (WE W) t) := by
  obtain ⟨fd, _, hb, ok⟩ := F.ex
  exact pe_callS ok (hr.mono hk) hg F.gl F.kp hb (fun σ => passAt tk σ) ha hdb he hpl
theorem m_callS {E : L2.St → XK} {σ : L2.St} {H : Hp} {Q : VK} (h : t σ H fun vs H1 => sp vs H1 Q (E σ)) : tCallS sp E t σ H Q := h
/-- try: .. except C as n | except C -/
def tTryAs (K : PySem.W.Frag) (c : Value) (i : Nat) (tb : WX → TS) (ts : Addr → Value → Option Addr → TS) (Wout : WX) : TS := fun D σ H => tb (wAs K c i ts Wout D) D σ H
def tTryOnly (K : PySem.W.Frag) (c : Value) (tb : WX → TS) (ts : Addr → Value → Option Addr → TS) (Wout : WX) : TS := fun D σ H => tb (wOnly K c ts Wout D) D σ H
section
variable {K : PySem.W.Frag} {c cls : Value} {d : Option Addr} {i : Nat} {tb : WX → TS} {ts : Addr → Value → Option Addr → TS} {Wout : WX} {σ : L2.St} {H : Hp} {rt : VK} {nx bk ct : L2.St → Hp → Prop}
theorem m_tryAs (h : tb (wAs K c i ts Wout (Ends.mk nx rt bk ct)) (Ends.mk nx rt bk ct) σ H) : tTryAs K c i tb ts Wout (Ends.mk nx rt bk ct) σ H := h
theorem m_tryOnly (h : tb (wOnly K c ts Wout (Ends.mk nx rt bk ct)) (Ends.mk nx rt bk ct) σ H) : tTryOnly K c tb ts Wout (Ends.mk nx rt bk ct) σ H := h
theorem m_caught (he : PySem.W.exmOne K cls c = some true) (h : ∀ a, H a = none → ts a cls d (Ends.mk (fun σ' H' => nx (σ'.set i none) H') rt (fun σ' H' => bk (σ'.set i none) H') (fun σ' H' => ct (σ'.set i none) H')) (σ.set i (some (.ref a))) H) :
    WE (wAs K c i ts Wout (Ends.mk nx rt bk ct)) σ cls d H := ⟨true, he, fun _ => h, fun z => Bool.noConfusion z⟩
theorem m_passed (he : PySem.W.exmOne K cls c = some false) (h : Wout cls d σ H) : WE (wAs K c i ts Wout (Ends.mk nx rt bk ct)) σ cls d H := ⟨false, he, fun z => Bool.noConfusion z, fun _ => h⟩
theorem m_caughtO (he : PySem.W.exmOne K cls c = some true) (h : ∀ a, H a = none → ts a cls d (Ends.mk nx rt bk ct) σ H) :
    WE (wOnly K c ts Wout (Ends.mk nx rt bk ct)) σ cls d H := ⟨true, he, fun _ => h, fun z => Bool.noConfusion z⟩
theorem m_passedO (he : PySem.W.exmOne K cls c = some false) (h : Wout cls d σ H) : WE (wOnly K c ts Wout (Ends.mk nx rt bk ct)) σ cls d H := ⟨false, he, fun z => Bool.noConfusion z, fun _ => h⟩
end
/-! ### several except clauses, each with a name -/
def endN (i : Nat) (D : Ends) : Ends := Ends.mk (fun τ G => D.nx (τ.set i none) G) D.rt (fun τ G => D.bk (τ.set i none) G) (fun τ G => D.ct (τ.set i none) G)
def wManyA (K : PySem.W.Frag) (Wout : WX) (D : Ends) : List (Value × Nat × (Addr → Value → Option Addr → TS)) → WX
  | [] => Wout
  | (c, i, ts) :: l => fun cls d τ G => ∃ b, PySem.W.exmOne K cls c = some b ∧ (b = true → ∀ x, G x = none → ts x cls d (endN i D) (τ.set i (some (.ref x))) G) ∧ (b = false → wManyA K Wout D l cls d τ G)
inductive HdsA (X : Cx) : List ExceptHandler → List (Value × Nat × (Addr → Value → Option Addr → TS)) → Prop
  | nil : HdsA X [] []
  | cons {y n : Str} {c : Value} {i : Nat} {ts : Addr → Value → Option Addr → TS} {st : Stmt} {sts : List Stmt} {q1 q2 : Pos} {hs : List ExceptHandler} {l : List (Value × Nat × (Addr → Value → Option Addr → TS))} (hi : X.N[i]? = some n) (hl : X.env.kindOf n = some .local) (hc : Names X y c)
      (hb : ∀ (x : Addr) (ob : Obj) (cls : Value) (d : Option Addr) (pn : List (Addr × Obj)), Zc cls d ob → (∃ vs, ob.data = .fields vs) → PSs (X.suite x ((x, ob) :: pn)) (st :: sts) (ts x cls d)) (r : HdsA X hs l) : HdsA X (.ExceptHandler (some (.Name y q1)) (some n) (st :: sts) q2 :: hs) ((c, i, ts) :: l)
theorem ps_tryManyA {X : Cx} {body : List Stmt} {h₀ : ExceptHandler} {hds : List ExceptHandler} {l : List (Value × Nat × (Addr → Value → Option Addr → TS))} {pos : Pos} {tb : WX → TS} {Wout : WX} (stk : X.stack = X.env :: X.outer) (lf : X.env.frame = some X.env.locals) (nd : X.N.Nodup) (tk : Takes X Wout)
    (hb : ∀ (W : WX) (pn : List (Addr × Obj)) (xe : Value → Shared → Prop), Takes (X.tr pn xe) W → PassesOwn (model X.prog X.w) X.A X.env xe → PSs (X.tr pn xe) body (tb W)) (hh : HdsA X (h₀ :: hds) l) : PS X (.Try body (h₀ :: hds) [] [] pos) (fun D τ G => tb (wManyA X.K Wout D l) D τ G) := by
  refine ⟨fun pins s τ G D I h => ?_⟩
  have ok0 := I.ok
  have fr0 : X.A.frames = some (X.env :: X.outer) := by rw [ok0.frames, stk]
  refine wpAny_Try_except (wpAny_mono ((hb (wManyA X.K Wout D l) (X.pn ++ pins) (fun e s₁ => wpAny (model X.prog X.w) X.A (noteFrame e X.env) (fun _ s₂ => wpAny (model X.prog X.w) X.A (setFlight e none) (fun _ s₃ => wpAny (model X.prog X.w) X.A (handleBy e X.env (h₀ :: hds)) (SP X pins D) X.xe s₃) X.xe s₂) X.xe s₁) (fun u s' xx => ?_) PassesOwn.looking).run [] s τ G D (I.toTry _) h) (fun f s1 hq => ?_) (fun e s1 he => he))
  · obtain ⟨x, B, si, pins2, τ1, G1, cls, d, rfl, j1, nb, up1, sk1, nx, eos, eag, wish⟩ := xx
    have j0 : Inv X pins τ1 G1 si := j1.ofTry ok0
    have sk2 : Sky B (X.env :: X.outer) x (Zc cls d) X.env.locals s'.heap := by rw [← stk]; exact sk1
    show wpAny (model X.prog X.w) X.A (noteFrame (.ref x) X.env) _ _ _; refine Sky.land Zc.steady fr0 lf sk2 fun h3 fl3 up3 => ?_
    have j3 : Inv X pins τ1 G1 { s' with heap := h3 } := j0.landed nb fl3.1 (up1.trans up3) eos eag
    obtain ⟨o3, vs3, ho3, hz3, hd3⟩ := fl3.there
    have nfr : x ∉ frs (X.env :: X.outer) := fun hm => by
      obtain ⟨_, o2, e2, hnf⟩ := fl3.2.2.1.mem hm; rw [ho3] at e2; cases e2; exact hnf _ hd3
    have nL : x ≠ X.env.locals := fun z => nfr (List.mem_filterMap.mpr ⟨X.env, List.mem_cons_self, by rw [lf, z]⟩)
    have nF : x ∉ X.fs := fun hm => by
      obtain ⟨e, he, q⟩ := List.mem_filterMap.mp hm; exact nfr (List.mem_filterMap.mpr ⟨e, List.mem_cons_of_mem _ he, q⟩)
    have suite3 := j3.suite ho3 hd3 nx nL nF
    have go : ∀ {hs' : List ExceptHandler} {l' : List (Value × Nat × (Addr → Value → Option Addr → TS))}, HdsA X hs' l' → wManyA X.K Wout D l' cls d τ1 G1 → wpAny (model X.prog X.w) X.A (handleBy (.ref x) X.env hs') (SP X pins D) X.xe { s' with heap := h3 } := by
      intro hs' l' hk
      induction hk with
      | nil =>
        intro wish
        refine wpAny_handleBy_nil ?_; obtain ⟨k1, k2, k3, oe, vs, tt, oT, ts', he, hz, hd, h1, hr⟩ := id fl3
        unfold PySem.passOn; refine wpAny_bind (wpAny_field he hd h1 ?_)
        rw [if_neg (show ¬ ((Value.ref tt == Value.none) = true) from by simp)]
        have fin : wpAny (model X.prog X.w) X.A (setFlight (.ref x) X.env.frame) (fun _ s4 => wpAny (model X.prog X.w) X.A (throw (.ref x) : Sem Flow) (SP X pins D) X.xe s4) X.xe { s' with heap := h3 } := by
          rw [lf]; refine HandSPX.setFlight_upZ fl3 fun h4 hh4 up4 => wpAny_throw (tk _ _ ?_)
          exact ⟨x, B, si, pins, τ1, G1, cls, d, rfl, j0, nb, (up1.trans up3).trans up4, .inr (.inr (by rw [stk]; exact hh4)), nx, eos, eag, wish⟩
        first | exact wpAny_bind (wpAny_pure (wpAny_bind fin)) | exact wpAny_bind fin
      | @cons y n c i ts st sts q1 q2 hs2 l2 hi hl hc hsu r ih =>
        intro wish
        obtain ⟨b, hb1, yes, no⟩ := wish
        refine wpAny_handleBy_cons (codeAny_handlers_test ?_) (by intro q; cases q); have lt : PySem.W.Looks (model X.prog X.w) h3 (typeOf (.ref x)) cls := fun A Q E s k q => wpAny_typeOf_ref (k _ _ ho3) (by rw [hz3.1]; exact q)
        have lm := PySem.W.exm_one (M := model X.prog X.w) (j3.kIn) lt hb1
        have test : ∀ {Q : Value → Shared → Prop} {E : Value → Shared → Prop}, Q c { s' with heap := h3 } → wpAny (model X.prog X.w) (X.A.mark (some (.ref x))) (eval (.Name y q1) X.env) Q E { s' with heap := h3 } := fun {Q E} q => by
          obtain ⟨hg, hdbg, hm | ⟨hm, hv, hnn⟩⟩ := hc
          · exact ld_glob (X := X.suite x ((x, o3) :: (X.pn ++ pins))) suite3 hg hm q hdbg
          · exact ld_blt (X := X.suite x ((x, o3) :: (X.pn ++ pins))) suite3 hg hm hv q hnn hdbg
        refine test (lm.here ?_)
        cases b with
        | true =>
          refine codeAny_handlers_suite_as (HandSPX.lands_againZ fl3 fun h4 fl4 up4 => ?_)
          have j4 : Inv X pins τ1 G1 { s' with heap := h4 } := j0.landed nb fl4.1 ((up1.trans up3).trans up4) eos eag
          obtain ⟨o4, vs4, ho4, hz4, hd4⟩ := fl4.there
          refine store_ok (X := X.suite x ((x, o4) :: (X.pn ++ pins))) (v := .ref x) (j4.suite ho4 hd4 nx nL nF) nd hi (.inl hl) rfl (fun s5 S5 => ?_) (.inr hl)
          refine wpAny_mono ((hsu x o4 cls d (X.pn ++ pins) hz4 ⟨_, hd4⟩).run [] s5 _ G1 _ S5 (yes rfl x nx)) (fun f s6 hq => ?_) (fun _ _ z => False.elim z)
          have fin : ∀ {τ6 : L2.St} {G6 : Hp} {Q : Shared → Prop}, Inv (X.suite x ((x, o4) :: (X.pn ++ pins))) [] τ6 G6 s6 → (∀ s7, Inv X pins (τ6.set i none) G6 s7 → Q s7) → wpAny (model X.prog X.w) X.A (do bindName X.env n .none; unbindBehindTheSuite X.env n q2) (fun _ s7 => Q s7) X.xe s6 := fun {τ6 G6 Q} S6 hq => gone_ok (S6.unsuite ok0) nd hi hl hq
          cases f with
          | next => obtain ⟨τ6, G6, S6, q6⟩ := hq; exact fin S6 fun s7 J7 => ⟨_, _, J7, q6⟩
          | brk => obtain ⟨τ6, G6, S6, q6⟩ := hq; exact fin S6 fun s7 J7 => ⟨_, _, J7, q6⟩
          | cont => obtain ⟨τ6, G6, S6, q6⟩ := hq; exact fin S6 fun s7 J7 => ⟨_, _, J7, q6⟩
          | ret u => obtain ⟨v6, τ6, G6, S6, r6, q6⟩ := hq; exact fin S6 fun s7 J7 => ⟨_, _, _, J7, r6, q6⟩
        | false => exact ih (no rfl)
    exact go hh wish
  · cases f with
    | next => obtain ⟨τ1, G1, j1, q⟩ := hq; exact wpAny_execs_nil ⟨τ1, G1, j1.ofTry ok0, q⟩
    | brk => obtain ⟨τ1, G1, j1, q⟩ := hq; exact ⟨τ1, G1, j1.ofTry ok0, q⟩
    | cont => obtain ⟨τ1, G1, j1, q⟩ := hq; exact ⟨τ1, G1, j1.ofTry ok0, q⟩
    | ret u => obtain ⟨v, τ1, G1, j1, r, q⟩ := hq; exact ⟨v, τ1, G1, j1.ofTry ok0, r, q⟩
def tTryM (K : PySem.W.Frag) (tb : WX → TS) (l : List (Value × Nat × (Addr → Value → Option Addr → TS))) (Wout : WX) : TS := fun D τ G => tb (wManyA K Wout D l) D τ G
section
variable {K : PySem.W.Frag} {c cls : Value} {d : Option Addr} {i : Nat} {tb : WX → TS} {ts : Addr → Value → Option Addr → TS} {Wout : WX} {σ : L2.St} {H : Hp} {rt : VK} {nx bk ct : L2.St → Hp → Prop} {l : List (Value × Nat × (Addr → Value → Option Addr → TS))}
theorem m_tryM (h : tb (wManyA K Wout (Ends.mk nx rt bk ct) l) (Ends.mk nx rt bk ct) σ H) : tTryM K tb l Wout (Ends.mk nx rt bk ct) σ H := h
theorem m_caughtM (he : PySem.W.exmOne K cls c = some true) (h : ∀ a, H a = none → ts a cls d (Ends.mk (fun σ' H' => nx (σ'.set i none) H') rt (fun σ' H' => bk (σ'.set i none) H') (fun σ' H' => ct (σ'.set i none) H')) (σ.set i (some (.ref a))) H) :
    WE (wManyA K Wout (Ends.mk nx rt bk ct) ((c, i, ts) :: l)) σ cls d H := ⟨true, he, fun _ => h, fun z => Bool.noConfusion z⟩
theorem m_nextM (he : PySem.W.exmOne K cls c = some false) (h : WE (wManyA K Wout (Ends.mk nx rt bk ct) l) σ cls d H) : WE (wManyA K Wout (Ends.mk nx rt bk ct) ((c, i, ts) :: l)) σ cls d H := ⟨false, he, fun z => Bool.noConfusion z, fun _ => h⟩
end
/-- isinstance(e, c), e the error that the suite holds -/
def rIsX (K : PySem.W.Frag) (cls : Value) (d : Option Addr) (a : Addr) : List V → Hp → VK → Prop := fun xs H Q => ∃ D, cls = .ref D ∧ d = none ∧ ExcC K D ∧ rIsE K D a xs H Q
theorem call_isX {a : Addr} {oe : Obj} {cls : Value} {d : Option Addr} {pn : List (Addr × Obj)} (hz : Zc cls d oe) (hf : ∃ vs, oe.data = .fields vs) : CallR (X.suite a ((a, oe) :: pn)) (.builtin "isinstance") (rIsX X.K cls d a) := by
  intro pins s σ H xs us Q I r h
  obtain ⟨D, rfl, rfl, C, h⟩ := h
  exact call_isE C hz hf pins s σ H xs us Q I r h
theorem k_isX {K : PySem.W.Frag} {D C a : Addr} {b : Bool} {H : Hp} {Q : VK} (h : ExcC K D) (e : PySem.W.kitOne K (.ref D) (.ref C) = some b) (q : Q (.bl b) H) : rIsX K (.ref D) none a [.ref a, .ref C] H Q :=
  ⟨D, rfl, rfl, h, .ref C, .ref C, b, rfl, fun _ r => r, e, q⟩
theorem k_isXty {K : PySem.W.Frag} {D a : Addr} {n : String} {b : Bool} {H : Hp} {Q : VK} (h : ExcC K D) (e : PySem.W.kitOne K (.ref D) (.type n) = some b) (q : Q (.bl b) H) : rIsX K (.ref D) none a [.ref a, .ty n] H Q :=
  ⟨D, rfl, rfl, h, .ty n, .type n, b, rfl, fun _ r => r, e, q⟩
end
/-- isinstance(e, (c1, c2, ..)), all of them own classes -/
def rIsXT (K : PySem.W.Frag) (cls : Value) (d : Option Addr) (a : Addr) : List V → Hp → VK → Prop := fun xs H Q => ∃ (D tp : Addr) (cs : List Addr) (b : Bool), cls = .ref D ∧ d = none ∧ ExcC K D ∧ xs = [.ref a, .ref tp] ∧ H tp = some (.tup (cs.map V.ref)) ∧ PySem.W.kitAny K (.ref D) (cs.map Value.ref) = some b ∧ Q (.bl b) H
theorem clsV_all : ∀ cs : List Addr, Paired ClsV (cs.map V.ref) (cs.map Value.ref)
  | [] => .nil
  | c :: cs => .cons (.own c) (clsV_all cs)
theorem call_isXT {X : Cx} {a : Addr} {oe : Obj} {cls : Value} {d : Option Addr} {pn : List (Addr × Obj)} (hz : Zc cls d oe) (hf : ∃ vs, oe.data = .fields vs) : CallR (X.suite a ((a, oe) :: pn)) (.builtin "isinstance") (rIsXT X.K cls d a) := by
  intro pins s σ H xs us Q I r h
  obtain ⟨D, tp, cs, b, rfl, rfl, C, rfl, hT, e, q⟩ := h
  obtain ⟨u1, u2, rfl, r1, r2⟩ := vals2 r
  cases (show u1 = Value.ref a from r1)
  cases (show u2 = Value.ref tp from r2)
  obtain ⟨hget, _⟩ := I.pin (a, oe) (List.mem_append.mpr (.inl List.mem_cons_self))
  obtain ⟨vs, hv⟩ := hf
  have J : PySem.W.InstAt s.heap a oe D none := by
    obtain ⟨oc, od, oda, osl⟩ := oe
    obtain ⟨h1, h2⟩ := hz
    dsimp only at h1 h2 hv
    subst h1 h2 hv
    exact ⟨hget, rfl, rfl, trivial⟩
  obtain ⟨_, its, rv, o, h1, h2, n, h3⟩ := (show ObjOk X.prog X.w H s.heap tp (.tup (cs.map V.ref)) from I.hok tp _ hT)
  have e3 := ClsV.all (clsV_all cs) rv
  subst e3
  obtain ⟨oc, od, dt, sl⟩ := o
  simp only at h2 h3
  subst h2 h3
  exact PySem.W.kia_tup (PySem.W.handS_kitx_exc C.hg C.hk C.hs C.hd C.ha C.hn C.ht C.hm) I.kIn J h1 e (fun z => nomatch z) fun tk => ⟨.bl b, H, I.kept (t' := tk) fun _ _ z => z, rfl, q⟩
theorem kitAny_no {K : PySem.W.Frag} {t : Value} : ∀ us : List Value, (∀ u ∈ us, PySem.W.kitOne K t u = some false) → PySem.W.kitAny K t us = some false
  | [], _ => rfl
  | u :: us, h => kitAny_cons (h u List.mem_cons_self) (fun _ => kitAny_no us fun x hx => h x (List.mem_cons_of_mem _ hx)) (fun z => Bool.noConfusion z)
theorem k_isXT {K : PySem.W.Frag} {D a tp : Addr} {b : Bool} {H : Hp} {Q : VK} (cs : List Addr) (hT : H tp = some (.tup (cs.map V.ref))) (h : ExcC K D) (e : PySem.W.kitAny K (.ref D) (cs.map Value.ref) = some b) (q : Q (.bl b) H) : rIsXT K (.ref D) none a [.ref a, .ref tp] H Q :=
  ⟨D, tp, cs, b, rfl, rfl, h, rfl, hT, e, q⟩
/-! ### the head's facts, with what is asked of errors -/
inductive Fx where
  | excC (x : Str)
  | kit (x y : Str) (b : Bool)
  | kitT (x : Str) (t : String) (b : Bool)
  | exm (x y : Str) (b : Bool)
def Fx.ok (K : PySem.W.Frag) : Fx → Bool
  | .excC x => He.eqO (PySem.W.findIn K (.ref (He.ga K x)) "__getattribute__") (some (some (.builtin "BaseException.__getattribute__"))) && (He.eqO (PySem.W.findIn K (.ref (He.ga K x)) "__getattr__") (some none) &&
      (decide (PySem.W.subIn K (.ref (He.ga K x)) (.type "BaseException") = some true) && (PySem.W.hasDictIn K (He.ga K x) && (He.eqO (PySem.W.findIn K (.ref (He.ga K x)) "__class__") (some (some (.builtin "object.__class__"))) &&
      (He.eqO (PySem.W.specialIn K (.builtin "object.__class__") "__get__") (some (some (.builtin "getset_descriptor.__get__"))) && (decide (PySem.W.takesIn K (.builtin "object.__class__") = some true) && decide (PySem.W.mroIn K (He.ga K x) (.type "object") = some true)))))))
  | .kit x y b => decide (PySem.W.kitOne K (.ref (He.ga K x)) (.ref (He.ga K y)) = some b)
  | .kitT x t b => decide (PySem.W.kitOne K (.ref (He.ga K x)) (.type t) = some b)
  | .exm x y b => decide (PySem.W.exmOne K (.ref (He.ga K x)) (.ref (He.ga K y)) = some b)
theorem Fx.excC_ok {K : PySem.W.Frag} {x : Str} (c : (Fx.excC x).ok K = true) : ExcC K (He.ga K x) := by
  obtain ⟨c1, c⟩ := He.ba c
  obtain ⟨c2, c⟩ := He.ba c
  obtain ⟨c3, c⟩ := He.ba c
  obtain ⟨c4, c⟩ := He.ba c
  obtain ⟨c5, c⟩ := He.ba c
  obtain ⟨c6, c⟩ := He.ba c
  obtain ⟨c7, c8⟩ := He.ba c
  exact ⟨He.eqO_ok c1, He.eqO_ok c2, of_decide_eq_true c3, c4, He.eqO_ok c5, He.eqO_ok c6, of_decide_eq_true c7, of_decide_eq_true c8⟩
theorem Fx.kit_ok {K : PySem.W.Frag} {x y : Str} {b : Bool} (c : (Fx.kit x y b).ok K = true) : PySem.W.kitOne K (.ref (He.ga K x)) (.ref (He.ga K y)) = some b := of_decide_eq_true c
theorem Fx.kitT_ok {K : PySem.W.Frag} {x : Str} {t : String} {b : Bool} (c : (Fx.kitT x t b).ok K = true) : PySem.W.kitOne K (.ref (He.ga K x)) (.type t) = some b := of_decide_eq_true c
theorem Fx.exm_ok {K : PySem.W.Frag} {x y : Str} {b : Bool} (c : (Fx.exm x y b).ok K = true) : PySem.W.exmOne K (.ref (He.ga K x)) (.ref (He.ga K y)) = some b := of_decide_eq_true c
abbrev AlF : Type := He.AlD × Bool
def obsF (fa : List He.Fa) (fn : List He.DefD) (fx : List Fx) (K : PySem.W.Frag) : AlF := (He.obsD fa fn K, fx.all fun f => f.ok K)
def SaysF (fa : List He.Fa) (fn : List He.DefD) (fx : List Fx) (K : PySem.W.Frag) : Prop := obsF fa fn fx K = (He.valD fn, true)
def obsFG (n : Nat) (fa : List He.Fa) (fn : List He.DefD) (fx : List Fx) (g : Addr → Option Obj) : AlF := obsF fa fn fx (He.frG g (He.asD g n))
def hookF (n : Nat) (fa : List He.Fa) (fn : List He.DefD) (fx : List Fx) : PySem.W.Hook where
  α := AlF
  obs := fun s => obsFG n fa fn fx s.heap.get?
  val := fun _ => (He.valD fn, true)
  says := fun _ h => ∃ K : PySem.W.Frag, K.In h ∧ SaysF fa fn fx K
  of := fun _ _ e => ⟨_, He.frG_in, e⟩
  keeps := fun _ _ _ ⟨K, hK, c⟩ k => ⟨K, PySem.W.Frag.In.keeps hK k, c⟩
theorem obsFG_eq {n : Nat} {fa : List He.Fa} {fn : List He.DefD} {fx : List Fx} {g : Addr → Option Obj} {s : Shared} (h : ∀ a, g a = s.heap.get? a) : obsFG n fa fn fx g = (hookF n fa fn fx).obs s := by
  have e : g = s.heap.get? := funext h
  rw [e] <;> rfl
theorem SaysF.d {fa : List He.Fa} {fn : List He.DefD} {fx : List Fx} {K : PySem.W.Frag} (c : SaysF fa fn fx K) : He.SaysD fa fn K := congrArg (fun z : AlF => z.1) c
theorem SaysF.fx {fa : List He.Fa} {fn : List He.DefD} {fx : List Fx} {K : PySem.W.Frag} (c : SaysF fa fn fx K) (i : Nat) {f : Fx} (h : fx[i]? = some f := by rfl) : f.ok K = true := by
  have c1 : (fx.all fun f => f.ok K) = true := congrArg (fun z : AlF => z.2) c
  exact List.all_eq_true.mp c1 f (List.mem_of_getElem? h)
end Tw
open PySem PySem.Spec PyProof.Rows L2 Tw
set_option hygiene false in
local macro_rules | `(tactic| walk_at "s1") => `(tactic| first
  | with_reducible refine m_seq ?_
  | with_reducible refine k_asg ?_
  | with_reducible refine m_asg ?_
  | ((with_reducible refine' k_var ?kv ?_); case kv => walk_at "look")
  | with_reducible refine k_c ?_
  | with_reducible refine k_op ?_
  | with_reducible refine k_I0 ?_
  | ((with_reducible refine k_I ?kv ?_); case kv => walk_at "cond")
  | with_reducible refine k_and1 ?_
  | with_reducible refine k_eqI ?_
  | with_reducible refine k_neI ?_
  | ((with_reducible refine k_eq ?kv ?_); case kv => exact rfl)
  | ((with_reducible refine k_ne ?kv ?_); case kv => exact rfl)
  | with_reducible refine k_isN ?_
  | with_reducible refine k_notN ?_
  | with_reducible refine k_nx ?_
  | with_reducible refine k_rt ?_
  | with_reducible refine m_next ?_
  | with_reducible refine m_bk ?_
  | with_reducible refine m_ct ?_
  | with_reducible refine k_if ?_
  | with_reducible refine k_test ?_
  | with_reducible refine k_tB ?_
  | with_reducible refine k_bl ?_
  | with_reducible refine k_chain ?_
  | with_reducible refine k_chainE ?_
  | with_reducible refine k_not ?_
  | with_reducible refine k_and ?_
  | with_reducible refine k_or ?_
  | with_reducible refine k_andV ?_
  | with_reducible refine k_orV ?_
  | with_reducible refine k_notV ?_
  | with_reducible refine k_ifE ?_
  | with_reducible refine k_ret ?_
  | with_reducible refine k_retN ?_
  | with_reducible refine k_drop ?_
  | with_reducible refine k_cons ?_
  | with_reducible refine k_nil ?_
  | with_reducible refine m_call ?_
  | with_reducible refine m_callS ?_
  | with_reducible refine k_rz ?_
  | with_reducible refine m_tryAs ?_
  | with_reducible refine m_tryOnly ?_
  | with_reducible refine m_tryM ?_
  | with_reducible refine k_cb ?_
  | with_reducible refine k_tup ?_
  | with_reducible refine k_lst ?_
  | ((with_reducible refine' k_aug ?kv ?_); case kv => exact rfl)
  | with_reducible refine k_ipI ?_
  | with_reducible refine k_un ?_
  | with_reducible refine k_U ?_
  | with_reducible refine k_sl ?_
  | with_reducible refine k_part ?_
  | with_reducible refine k_noPart ?_
  | with_reducible refine k_partE ?_
  | with_reducible refine k_bm ?_
  | with_reducible refine k_bm0 ?_
  | with_reducible refine k_isInt ?_
  | with_reducible refine k_isBool ?_
  | with_reducible refine k_min2 ?_
  | with_reducible refine k_max2 ?_
  | with_reducible refine m_gName ?_
  | with_reducible refine m_for ?_
  | with_reducible refine m_rng1 ?_
  | ((with_reducible refine m_rng1n ?kv ?_); case kv => walk_at "arith")
  | ((with_reducible refine m_rng1e ?kv ?_); case kv => walk_at "arith")
  | with_reducible refine m_rng2 ?_
  | ((with_reducible refine m_rng2e ?kv ?_); case kv => walk_at "arith")
  | with_reducible refine m_iL ?_
  | with_reducible refine m_iT ?_
  | with_reducible refine m_lc ?_
  | ((with_reducible refine k_disp ?kv ?_); case kv => (first | decide | (simp only [List.length_cons, List.length_nil]; omega)))
  | with_reducible refine m_rev ?_
  | with_reducible refine m_revL ?_
  | with_reducible refine m_enum ?_
  | with_reducible refine m_zip ?_
  | with_reducible refine m_rng3 ?_
  | with_reducible refine m_gCons ?_
  | with_reducible refine m_gNil ?_
  | with_reducible refine m_gSub ?_
  | with_reducible refine m_par ?_
  | with_reducible refine m_parE ?_
  | with_reducible refine m_wbody ?_
  | with_reducible refine m_lenSet ?_
  | with_reducible refine m_minD ?_
  | ((with_reducible refine' m_callV ?kv ?kf ?_); (case kv => walk_at "look"); (case kf => walk_at "isfn"))
  | with_reducible refine k_yes ?_
  | with_reducible refine k_T ?_
  | with_reducible refine k_F ?_
  | with_reducible refine k_nT ?_
  | with_reducible refine k_nF ?_)
local macro_rules | `(tactic| walk_at "cond") => `(tactic| first | exact ⟨by decide, by decide⟩ | omega | decide | exact ⟨by omega, by omega⟩ | exact ⟨by omega, by omega, by decide⟩ | exact Or.inr (by omega) | exact Or.inr (by decide) | exact Or.inl (by omega) | exact Or.inl (by decide) | assumption)
local macro_rules | `(tactic| walk_at "st") => `(tactic| repeat (walk_at "s1"))
local macro_rules | `(tactic| walk_at "look") => `(tactic| first | exact rfl | (simp only [List.getElem?_set, List.getElem?_cons_zero, List.getElem?_cons_succ]; exact rfl))
local macro_rules | `(tactic| walk_at "if") => `(tactic| first | with_reducible apply k_dec | with_reducible apply k_ndec)
local macro_rules | `(tactic| walk_at "arith") => `(tactic| first | decide | omega | (simp only [List.length_map, List.length_take, List.length_drop, List.length_append, List.length_cons, List.length_nil] at *; first | omega | (split <;> omega) | (split <;> split <;> omega)))
local macro_rules | `(tactic| walk_at "isfn") => `(tactic| assumption)
namespace Tw
structure KFx (K : PySem.W.Frag) : Prop where
  ec_NoBit : ExcC K (He.ga K "NoBit")
  kt_NoBit : PySem.W.kitOne K (.ref (He.ga K "NoBit")) (.type "ValueError") = some true
  k_NoBit_NoBit : PySem.W.kitOne K (.ref (He.ga K "NoBit")) (.ref (He.ga K "NoBit")) = some true
  e_NoBit_NoBit : PySem.W.exmOne K (.ref (He.ga K "NoBit")) (.ref (He.ga K "NoBit")) = some true
  k_NoBit_NoNode : PySem.W.kitOne K (.ref (He.ga K "NoBit")) (.ref (He.ga K "NoNode")) = some false
  e_NoBit_NoNode : PySem.W.exmOne K (.ref (He.ga K "NoBit")) (.ref (He.ga K "NoNode")) = some false
  k_NoBit_NoOctets : PySem.W.kitOne K (.ref (He.ga K "NoBit")) (.ref (He.ga K "NoOctets")) = some false
  e_NoBit_NoOctets : PySem.W.exmOne K (.ref (He.ga K "NoBit")) (.ref (He.ga K "NoOctets")) = some false
  k_NoBit_NoPlace : PySem.W.kitOne K (.ref (He.ga K "NoBit")) (.ref (He.ga K "NoPlace")) = some false
  e_NoBit_NoPlace : PySem.W.exmOne K (.ref (He.ga K "NoBit")) (.ref (He.ga K "NoPlace")) = some false
  k_NoBit_NoSign : PySem.W.kitOne K (.ref (He.ga K "NoBit")) (.ref (He.ga K "NoSign")) = some false
  e_NoBit_NoSign : PySem.W.exmOne K (.ref (He.ga K "NoBit")) (.ref (He.ga K "NoSign")) = some false
  k_NoBit_NoTree : PySem.W.kitOne K (.ref (He.ga K "NoBit")) (.ref (He.ga K "NoTree")) = some false
  e_NoBit_NoTree : PySem.W.exmOne K (.ref (He.ga K "NoBit")) (.ref (He.ga K "NoTree")) = some false
  k_NoBit_NoWord : PySem.W.kitOne K (.ref (He.ga K "NoBit")) (.ref (He.ga K "NoWord")) = some false
  e_NoBit_NoWord : PySem.W.exmOne K (.ref (He.ga K "NoBit")) (.ref (He.ga K "NoWord")) = some false
  k_NoBit_TooMany : PySem.W.kitOne K (.ref (He.ga K "NoBit")) (.ref (He.ga K "TooMany")) = some false
  e_NoBit_TooMany : PySem.W.exmOne K (.ref (He.ga K "NoBit")) (.ref (He.ga K "TooMany")) = some false
  k_NoBit_Twice : PySem.W.kitOne K (.ref (He.ga K "NoBit")) (.ref (He.ga K "Twice")) = some false
  e_NoBit_Twice : PySem.W.exmOne K (.ref (He.ga K "NoBit")) (.ref (He.ga K "Twice")) = some false
  k_NoBit_WoodError : PySem.W.kitOne K (.ref (He.ga K "NoBit")) (.ref (He.ga K "WoodError")) = some true
  e_NoBit_WoodError : PySem.W.exmOne K (.ref (He.ga K "NoBit")) (.ref (He.ga K "WoodError")) = some true
  ec_NoNode : ExcC K (He.ga K "NoNode")
  kt_NoNode : PySem.W.kitOne K (.ref (He.ga K "NoNode")) (.type "ValueError") = some true
  k_NoNode_NoBit : PySem.W.kitOne K (.ref (He.ga K "NoNode")) (.ref (He.ga K "NoBit")) = some false
  e_NoNode_NoBit : PySem.W.exmOne K (.ref (He.ga K "NoNode")) (.ref (He.ga K "NoBit")) = some false
  k_NoNode_NoNode : PySem.W.kitOne K (.ref (He.ga K "NoNode")) (.ref (He.ga K "NoNode")) = some true
  e_NoNode_NoNode : PySem.W.exmOne K (.ref (He.ga K "NoNode")) (.ref (He.ga K "NoNode")) = some true
  k_NoNode_NoOctets : PySem.W.kitOne K (.ref (He.ga K "NoNode")) (.ref (He.ga K "NoOctets")) = some false
  e_NoNode_NoOctets : PySem.W.exmOne K (.ref (He.ga K "NoNode")) (.ref (He.ga K "NoOctets")) = some false
  k_NoNode_NoPlace : PySem.W.kitOne K (.ref (He.ga K "NoNode")) (.ref (He.ga K "NoPlace")) = some false
  e_NoNode_NoPlace : PySem.W.exmOne K (.ref (He.ga K "NoNode")) (.ref (He.ga K "NoPlace")) = some false
  k_NoNode_NoSign : PySem.W.kitOne K (.ref (He.ga K "NoNode")) (.ref (He.ga K "NoSign")) = some false
  e_NoNode_NoSign : PySem.W.exmOne K (.ref (He.ga K "NoNode")) (.ref (He.ga K "NoSign")) = some false
  k_NoNode_NoTree : PySem.W.kitOne K (.ref (He.ga K "NoNode")) (.ref (He.ga K "NoTree")) = some false
  e_NoNode_NoTree : PySem.W.exmOne K (.ref (He.ga K "NoNode")) (.ref (He.ga K "NoTree")) = some false
  k_NoNode_NoWord : PySem.W.kitOne K (.ref (He.ga K "NoNode")) (.ref (He.ga K "NoWord")) = some false
  e_NoNode_NoWord : PySem.W.exmOne K (.ref (He.ga K "NoNode")) (.ref (He.ga K "NoWord")) = some false
  k_NoNode_TooMany : PySem.W.kitOne K (.ref (He.ga K "NoNode")) (.ref (He.ga K "TooMany")) = some false
  e_NoNode_TooMany : PySem.W.exmOne K (.ref (He.ga K "NoNode")) (.ref (He.ga K "TooMany")) = some false
  k_NoNode_Twice : PySem.W.kitOne K (.ref (He.ga K "NoNode")) (.ref (He.ga K "Twice")) = some false
  e_NoNode_Twice : PySem.W.exmOne K (.ref (He.ga K "NoNode")) (.ref (He.ga K "Twice")) = some false
  k_NoNode_WoodError : PySem.W.kitOne K (.ref (He.ga K "NoNode")) (.ref (He.ga K "WoodError")) = some true
  e_NoNode_WoodError : PySem.W.exmOne K (.ref (He.ga K "NoNode")) (.ref (He.ga K "WoodError")) = some true
  ec_NoOctets : ExcC K (He.ga K "NoOctets")
  kt_NoOctets : PySem.W.kitOne K (.ref (He.ga K "NoOctets")) (.type "ValueError") = some true
  k_NoOctets_NoBit : PySem.W.kitOne K (.ref (He.ga K "NoOctets")) (.ref (He.ga K "NoBit")) = some false
  e_NoOctets_NoBit : PySem.W.exmOne K (.ref (He.ga K "NoOctets")) (.ref (He.ga K "NoBit")) = some false
  k_NoOctets_NoNode : PySem.W.kitOne K (.ref (He.ga K "NoOctets")) (.ref (He.ga K "NoNode")) = some false
  e_NoOctets_NoNode : PySem.W.exmOne K (.ref (He.ga K "NoOctets")) (.ref (He.ga K "NoNode")) = some false
  k_NoOctets_NoOctets : PySem.W.kitOne K (.ref (He.ga K "NoOctets")) (.ref (He.ga K "NoOctets")) = some true
  e_NoOctets_NoOctets : PySem.W.exmOne K (.ref (He.ga K "NoOctets")) (.ref (He.ga K "NoOctets")) = some true
  k_NoOctets_NoPlace : PySem.W.kitOne K (.ref (He.ga K "NoOctets")) (.ref (He.ga K "NoPlace")) = some false
  e_NoOctets_NoPlace : PySem.W.exmOne K (.ref (He.ga K "NoOctets")) (.ref (He.ga K "NoPlace")) = some false
  k_NoOctets_NoSign : PySem.W.kitOne K (.ref (He.ga K "NoOctets")) (.ref (He.ga K "NoSign")) = some false
  e_NoOctets_NoSign : PySem.W.exmOne K (.ref (He.ga K "NoOctets")) (.ref (He.ga K "NoSign")) = some false
  k_NoOctets_NoTree : PySem.W.kitOne K (.ref (He.ga K "NoOctets")) (.ref (He.ga K "NoTree")) = some false
  e_NoOctets_NoTree : PySem.W.exmOne K (.ref (He.ga K "NoOctets")) (.ref (He.ga K "NoTree")) = some false
  k_NoOctets_NoWord : PySem.W.kitOne K (.ref (He.ga K "NoOctets")) (.ref (He.ga K "NoWord")) = some false
  e_NoOctets_NoWord : PySem.W.exmOne K (.ref (He.ga K "NoOctets")) (.ref (He.ga K "NoWord")) = some false
  k_NoOctets_TooMany : PySem.W.kitOne K (.ref (He.ga K "NoOctets")) (.ref (He.ga K "TooMany")) = some false
  e_NoOctets_TooMany : PySem.W.exmOne K (.ref (He.ga K "NoOctets")) (.ref (He.ga K "TooMany")) = some false
  k_NoOctets_Twice : PySem.W.kitOne K (.ref (He.ga K "NoOctets")) (.ref (He.ga K "Twice")) = some false
  e_NoOctets_Twice : PySem.W.exmOne K (.ref (He.ga K "NoOctets")) (.ref (He.ga K "Twice")) = some false
  k_NoOctets_WoodError : PySem.W.kitOne K (.ref (He.ga K "NoOctets")) (.ref (He.ga K "WoodError")) = some true
  e_NoOctets_WoodError : PySem.W.exmOne K (.ref (He.ga K "NoOctets")) (.ref (He.ga K "WoodError")) = some true
  ec_NoPlace : ExcC K (He.ga K "NoPlace")
  kt_NoPlace : PySem.W.kitOne K (.ref (He.ga K "NoPlace")) (.type "ValueError") = some true
  k_NoPlace_NoBit : PySem.W.kitOne K (.ref (He.ga K "NoPlace")) (.ref (He.ga K "NoBit")) = some false
  e_NoPlace_NoBit : PySem.W.exmOne K (.ref (He.ga K "NoPlace")) (.ref (He.ga K "NoBit")) = some false
  k_NoPlace_NoNode : PySem.W.kitOne K (.ref (He.ga K "NoPlace")) (.ref (He.ga K "NoNode")) = some false
  e_NoPlace_NoNode : PySem.W.exmOne K (.ref (He.ga K "NoPlace")) (.ref (He.ga K "NoNode")) = some false
  k_NoPlace_NoOctets : PySem.W.kitOne K (.ref (He.ga K "NoPlace")) (.ref (He.ga K "NoOctets")) = some false
  e_NoPlace_NoOctets : PySem.W.exmOne K (.ref (He.ga K "NoPlace")) (.ref (He.ga K "NoOctets")) = some false
  k_NoPlace_NoPlace : PySem.W.kitOne K (.ref (He.ga K "NoPlace")) (.ref (He.ga K "NoPlace")) = some true
  e_NoPlace_NoPlace : PySem.W.exmOne K (.ref (He.ga K "NoPlace")) (.ref (He.ga K "NoPlace")) = some true
  k_NoPlace_NoSign : PySem.W.kitOne K (.ref (He.ga K "NoPlace")) (.ref (He.ga K "NoSign")) = some false
  e_NoPlace_NoSign : PySem.W.exmOne K (.ref (He.ga K "NoPlace")) (.ref (He.ga K "NoSign")) = some false
  k_NoPlace_NoTree : PySem.W.kitOne K (.ref (He.ga K "NoPlace")) (.ref (He.ga K "NoTree")) = some false
  e_NoPlace_NoTree : PySem.W.exmOne K (.ref (He.ga K "NoPlace")) (.ref (He.ga K "NoTree")) = some false
  k_NoPlace_NoWord : PySem.W.kitOne K (.ref (He.ga K "NoPlace")) (.ref (He.ga K "NoWord")) = some false
  e_NoPlace_NoWord : PySem.W.exmOne K (.ref (He.ga K "NoPlace")) (.ref (He.ga K "NoWord")) = some false
  k_NoPlace_TooMany : PySem.W.kitOne K (.ref (He.ga K "NoPlace")) (.ref (He.ga K "TooMany")) = some false
  e_NoPlace_TooMany : PySem.W.exmOne K (.ref (He.ga K "NoPlace")) (.ref (He.ga K "TooMany")) = some false
  k_NoPlace_Twice : PySem.W.kitOne K (.ref (He.ga K "NoPlace")) (.ref (He.ga K "Twice")) = some false
  e_NoPlace_Twice : PySem.W.exmOne K (.ref (He.ga K "NoPlace")) (.ref (He.ga K "Twice")) = some false
  k_NoPlace_WoodError : PySem.W.kitOne K (.ref (He.ga K "NoPlace")) (.ref (He.ga K "WoodError")) = some true
  e_NoPlace_WoodError : PySem.W.exmOne K (.ref (He.ga K "NoPlace")) (.ref (He.ga K "WoodError")) = some true
  ec_NoSign : ExcC K (He.ga K "NoSign")
  kt_NoSign : PySem.W.kitOne K (.ref (He.ga K "NoSign")) (.type "ValueError") = some true
  k_NoSign_NoBit : PySem.W.kitOne K (.ref (He.ga K "NoSign")) (.ref (He.ga K "NoBit")) = some false
  e_NoSign_NoBit : PySem.W.exmOne K (.ref (He.ga K "NoSign")) (.ref (He.ga K "NoBit")) = some false
  k_NoSign_NoNode : PySem.W.kitOne K (.ref (He.ga K "NoSign")) (.ref (He.ga K "NoNode")) = some false
  e_NoSign_NoNode : PySem.W.exmOne K (.ref (He.ga K "NoSign")) (.ref (He.ga K "NoNode")) = some false
  k_NoSign_NoOctets : PySem.W.kitOne K (.ref (He.ga K "NoSign")) (.ref (He.ga K "NoOctets")) = some false
  e_NoSign_NoOctets : PySem.W.exmOne K (.ref (He.ga K "NoSign")) (.ref (He.ga K "NoOctets")) = some false
  k_NoSign_NoPlace : PySem.W.kitOne K (.ref (He.ga K "NoSign")) (.ref (He.ga K "NoPlace")) = some false
  e_NoSign_NoPlace : PySem.W.exmOne K (.ref (He.ga K "NoSign")) (.ref (He.ga K "NoPlace")) = some false
  k_NoSign_NoSign : PySem.W.kitOne K (.ref (He.ga K "NoSign")) (.ref (He.ga K "NoSign")) = some true
  e_NoSign_NoSign : PySem.W.exmOne K (.ref (He.ga K "NoSign")) (.ref (He.ga K "NoSign")) = some true
  k_NoSign_NoTree : PySem.W.kitOne K (.ref (He.ga K "NoSign")) (.ref (He.ga K "NoTree")) = some false
  e_NoSign_NoTree : PySem.W.exmOne K (.ref (He.ga K "NoSign")) (.ref (He.ga K "NoTree")) = some false
  k_NoSign_NoWord : PySem.W.kitOne K (.ref (He.ga K "NoSign")) (.ref (He.ga K "NoWord")) = some false
  e_NoSign_NoWord : PySem.W.exmOne K (.ref (He.ga K "NoSign")) (.ref (He.ga K "NoWord")) = some false
  k_NoSign_TooMany : PySem.W.kitOne K (.ref (He.ga K "NoSign")) (.ref (He.ga K "TooMany")) = some false
  e_NoSign_TooMany : PySem.W.exmOne K (.ref (He.ga K "NoSign")) (.ref (He.ga K "TooMany")) = some false
  k_NoSign_Twice : PySem.W.kitOne K (.ref (He.ga K "NoSign")) (.ref (He.ga K "Twice")) = some false
  e_NoSign_Twice : PySem.W.exmOne K (.ref (He.ga K "NoSign")) (.ref (He.ga K "Twice")) = some false
  k_NoSign_WoodError : PySem.W.kitOne K (.ref (He.ga K "NoSign")) (.ref (He.ga K "WoodError")) = some true
  e_NoSign_WoodError : PySem.W.exmOne K (.ref (He.ga K "NoSign")) (.ref (He.ga K "WoodError")) = some true
  ec_NoTree : ExcC K (He.ga K "NoTree")
  kt_NoTree : PySem.W.kitOne K (.ref (He.ga K "NoTree")) (.type "ValueError") = some true
  k_NoTree_NoBit : PySem.W.kitOne K (.ref (He.ga K "NoTree")) (.ref (He.ga K "NoBit")) = some false
  e_NoTree_NoBit : PySem.W.exmOne K (.ref (He.ga K "NoTree")) (.ref (He.ga K "NoBit")) = some false
  k_NoTree_NoNode : PySem.W.kitOne K (.ref (He.ga K "NoTree")) (.ref (He.ga K "NoNode")) = some false
  e_NoTree_NoNode : PySem.W.exmOne K (.ref (He.ga K "NoTree")) (.ref (He.ga K "NoNode")) = some false
  k_NoTree_NoOctets : PySem.W.kitOne K (.ref (He.ga K "NoTree")) (.ref (He.ga K "NoOctets")) = some false
  e_NoTree_NoOctets : PySem.W.exmOne K (.ref (He.ga K "NoTree")) (.ref (He.ga K "NoOctets")) = some false
  k_NoTree_NoPlace : PySem.W.kitOne K (.ref (He.ga K "NoTree")) (.ref (He.ga K "NoPlace")) = some false
  e_NoTree_NoPlace : PySem.W.exmOne K (.ref (He.ga K "NoTree")) (.ref (He.ga K "NoPlace")) = some false
  k_NoTree_NoSign : PySem.W.kitOne K (.ref (He.ga K "NoTree")) (.ref (He.ga K "NoSign")) = some false
  e_NoTree_NoSign : PySem.W.exmOne K (.ref (He.ga K "NoTree")) (.ref (He.ga K "NoSign")) = some false
  k_NoTree_NoTree : PySem.W.kitOne K (.ref (He.ga K "NoTree")) (.ref (He.ga K "NoTree")) = some true
  e_NoTree_NoTree : PySem.W.exmOne K (.ref (He.ga K "NoTree")) (.ref (He.ga K "NoTree")) = some true
  k_NoTree_NoWord : PySem.W.kitOne K (.ref (He.ga K "NoTree")) (.ref (He.ga K "NoWord")) = some false
  e_NoTree_NoWord : PySem.W.exmOne K (.ref (He.ga K "NoTree")) (.ref (He.ga K "NoWord")) = some false
  k_NoTree_TooMany : PySem.W.kitOne K (.ref (He.ga K "NoTree")) (.ref (He.ga K "TooMany")) = some false
  e_NoTree_TooMany : PySem.W.exmOne K (.ref (He.ga K "NoTree")) (.ref (He.ga K "TooMany")) = some false
  k_NoTree_Twice : PySem.W.kitOne K (.ref (He.ga K "NoTree")) (.ref (He.ga K "Twice")) = some false
  e_NoTree_Twice : PySem.W.exmOne K (.ref (He.ga K "NoTree")) (.ref (He.ga K "Twice")) = some false
  k_NoTree_WoodError : PySem.W.kitOne K (.ref (He.ga K "NoTree")) (.ref (He.ga K "WoodError")) = some true
  e_NoTree_WoodError : PySem.W.exmOne K (.ref (He.ga K "NoTree")) (.ref (He.ga K "WoodError")) = some true
  ec_NoWord : ExcC K (He.ga K "NoWord")
  kt_NoWord : PySem.W.kitOne K (.ref (He.ga K "NoWord")) (.type "ValueError") = some true
  k_NoWord_NoBit : PySem.W.kitOne K (.ref (He.ga K "NoWord")) (.ref (He.ga K "NoBit")) = some false
  e_NoWord_NoBit : PySem.W.exmOne K (.ref (He.ga K "NoWord")) (.ref (He.ga K "NoBit")) = some false
  k_NoWord_NoNode : PySem.W.kitOne K (.ref (He.ga K "NoWord")) (.ref (He.ga K "NoNode")) = some false
  e_NoWord_NoNode : PySem.W.exmOne K (.ref (He.ga K "NoWord")) (.ref (He.ga K "NoNode")) = some false
  k_NoWord_NoOctets : PySem.W.kitOne K (.ref (He.ga K "NoWord")) (.ref (He.ga K "NoOctets")) = some false
  e_NoWord_NoOctets : PySem.W.exmOne K (.ref (He.ga K "NoWord")) (.ref (He.ga K "NoOctets")) = some false
  k_NoWord_NoPlace : PySem.W.kitOne K (.ref (He.ga K "NoWord")) (.ref (He.ga K "NoPlace")) = some false
  e_NoWord_NoPlace : PySem.W.exmOne K (.ref (He.ga K "NoWord")) (.ref (He.ga K "NoPlace")) = some false
  k_NoWord_NoSign : PySem.W.kitOne K (.ref (He.ga K "NoWord")) (.ref (He.ga K "NoSign")) = some false
  e_NoWord_NoSign : PySem.W.exmOne K (.ref (He.ga K "NoWord")) (.ref (He.ga K "NoSign")) = some false
  k_NoWord_NoTree : PySem.W.kitOne K (.ref (He.ga K "NoWord")) (.ref (He.ga K "NoTree")) = some false
  e_NoWord_NoTree : PySem.W.exmOne K (.ref (He.ga K "NoWord")) (.ref (He.ga K "NoTree")) = some false
  k_NoWord_NoWord : PySem.W.kitOne K (.ref (He.ga K "NoWord")) (.ref (He.ga K "NoWord")) = some true
  e_NoWord_NoWord : PySem.W.exmOne K (.ref (He.ga K "NoWord")) (.ref (He.ga K "NoWord")) = some true
  k_NoWord_TooMany : PySem.W.kitOne K (.ref (He.ga K "NoWord")) (.ref (He.ga K "TooMany")) = some false
  e_NoWord_TooMany : PySem.W.exmOne K (.ref (He.ga K "NoWord")) (.ref (He.ga K "TooMany")) = some false
  k_NoWord_Twice : PySem.W.kitOne K (.ref (He.ga K "NoWord")) (.ref (He.ga K "Twice")) = some false
  e_NoWord_Twice : PySem.W.exmOne K (.ref (He.ga K "NoWord")) (.ref (He.ga K "Twice")) = some false
  k_NoWord_WoodError : PySem.W.kitOne K (.ref (He.ga K "NoWord")) (.ref (He.ga K "WoodError")) = some true
  e_NoWord_WoodError : PySem.W.exmOne K (.ref (He.ga K "NoWord")) (.ref (He.ga K "WoodError")) = some true
  ec_TooMany : ExcC K (He.ga K "TooMany")
  kt_TooMany : PySem.W.kitOne K (.ref (He.ga K "TooMany")) (.type "ValueError") = some true
  k_TooMany_NoBit : PySem.W.kitOne K (.ref (He.ga K "TooMany")) (.ref (He.ga K "NoBit")) = some false
  e_TooMany_NoBit : PySem.W.exmOne K (.ref (He.ga K "TooMany")) (.ref (He.ga K "NoBit")) = some false
  k_TooMany_NoNode : PySem.W.kitOne K (.ref (He.ga K "TooMany")) (.ref (He.ga K "NoNode")) = some false
  e_TooMany_NoNode : PySem.W.exmOne K (.ref (He.ga K "TooMany")) (.ref (He.ga K "NoNode")) = some false
  k_TooMany_NoOctets : PySem.W.kitOne K (.ref (He.ga K "TooMany")) (.ref (He.ga K "NoOctets")) = some false
  e_TooMany_NoOctets : PySem.W.exmOne K (.ref (He.ga K "TooMany")) (.ref (He.ga K "NoOctets")) = some false
  k_TooMany_NoPlace : PySem.W.kitOne K (.ref (He.ga K "TooMany")) (.ref (He.ga K "NoPlace")) = some false
  e_TooMany_NoPlace : PySem.W.exmOne K (.ref (He.ga K "TooMany")) (.ref (He.ga K "NoPlace")) = some false
  k_TooMany_NoSign : PySem.W.kitOne K (.ref (He.ga K "TooMany")) (.ref (He.ga K "NoSign")) = some false
  e_TooMany_NoSign : PySem.W.exmOne K (.ref (He.ga K "TooMany")) (.ref (He.ga K "NoSign")) = some false
  k_TooMany_NoTree : PySem.W.kitOne K (.ref (He.ga K "TooMany")) (.ref (He.ga K "NoTree")) = some false
  e_TooMany_NoTree : PySem.W.exmOne K (.ref (He.ga K "TooMany")) (.ref (He.ga K "NoTree")) = some false
  k_TooMany_NoWord : PySem.W.kitOne K (.ref (He.ga K "TooMany")) (.ref (He.ga K "NoWord")) = some false
  e_TooMany_NoWord : PySem.W.exmOne K (.ref (He.ga K "TooMany")) (.ref (He.ga K "NoWord")) = some false
  k_TooMany_TooMany : PySem.W.kitOne K (.ref (He.ga K "TooMany")) (.ref (He.ga K "TooMany")) = some true
  e_TooMany_TooMany : PySem.W.exmOne K (.ref (He.ga K "TooMany")) (.ref (He.ga K "TooMany")) = some true
  k_TooMany_Twice : PySem.W.kitOne K (.ref (He.ga K "TooMany")) (.ref (He.ga K "Twice")) = some false
  e_TooMany_Twice : PySem.W.exmOne K (.ref (He.ga K "TooMany")) (.ref (He.ga K "Twice")) = some false
  k_TooMany_WoodError : PySem.W.kitOne K (.ref (He.ga K "TooMany")) (.ref (He.ga K "WoodError")) = some true
  e_TooMany_WoodError : PySem.W.exmOne K (.ref (He.ga K "TooMany")) (.ref (He.ga K "WoodError")) = some true
  ec_Twice : ExcC K (He.ga K "Twice")
  kt_Twice : PySem.W.kitOne K (.ref (He.ga K "Twice")) (.type "ValueError") = some true
  k_Twice_NoBit : PySem.W.kitOne K (.ref (He.ga K "Twice")) (.ref (He.ga K "NoBit")) = some false
  e_Twice_NoBit : PySem.W.exmOne K (.ref (He.ga K "Twice")) (.ref (He.ga K "NoBit")) = some false
  k_Twice_NoNode : PySem.W.kitOne K (.ref (He.ga K "Twice")) (.ref (He.ga K "NoNode")) = some false
  e_Twice_NoNode : PySem.W.exmOne K (.ref (He.ga K "Twice")) (.ref (He.ga K "NoNode")) = some false
  k_Twice_NoOctets : PySem.W.kitOne K (.ref (He.ga K "Twice")) (.ref (He.ga K "NoOctets")) = some false
  e_Twice_NoOctets : PySem.W.exmOne K (.ref (He.ga K "Twice")) (.ref (He.ga K "NoOctets")) = some false
  k_Twice_NoPlace : PySem.W.kitOne K (.ref (He.ga K "Twice")) (.ref (He.ga K "NoPlace")) = some false
  e_Twice_NoPlace : PySem.W.exmOne K (.ref (He.ga K "Twice")) (.ref (He.ga K "NoPlace")) = some false
  k_Twice_NoSign : PySem.W.kitOne K (.ref (He.ga K "Twice")) (.ref (He.ga K "NoSign")) = some false
  e_Twice_NoSign : PySem.W.exmOne K (.ref (He.ga K "Twice")) (.ref (He.ga K "NoSign")) = some false
  k_Twice_NoTree : PySem.W.kitOne K (.ref (He.ga K "Twice")) (.ref (He.ga K "NoTree")) = some false
  e_Twice_NoTree : PySem.W.exmOne K (.ref (He.ga K "Twice")) (.ref (He.ga K "NoTree")) = some false
  k_Twice_NoWord : PySem.W.kitOne K (.ref (He.ga K "Twice")) (.ref (He.ga K "NoWord")) = some false
  e_Twice_NoWord : PySem.W.exmOne K (.ref (He.ga K "Twice")) (.ref (He.ga K "NoWord")) = some false
  k_Twice_TooMany : PySem.W.kitOne K (.ref (He.ga K "Twice")) (.ref (He.ga K "TooMany")) = some false
  e_Twice_TooMany : PySem.W.exmOne K (.ref (He.ga K "Twice")) (.ref (He.ga K "TooMany")) = some false
  k_Twice_Twice : PySem.W.kitOne K (.ref (He.ga K "Twice")) (.ref (He.ga K "Twice")) = some true
  e_Twice_Twice : PySem.W.exmOne K (.ref (He.ga K "Twice")) (.ref (He.ga K "Twice")) = some true
  k_Twice_WoodError : PySem.W.kitOne K (.ref (He.ga K "Twice")) (.ref (He.ga K "WoodError")) = some true
  e_Twice_WoodError : PySem.W.exmOne K (.ref (He.ga K "Twice")) (.ref (He.ga K "WoodError")) = some true
  ec_WoodError : ExcC K (He.ga K "WoodError")
  kt_WoodError : PySem.W.kitOne K (.ref (He.ga K "WoodError")) (.type "ValueError") = some true
  k_WoodError_NoBit : PySem.W.kitOne K (.ref (He.ga K "WoodError")) (.ref (He.ga K "NoBit")) = some false
  e_WoodError_NoBit : PySem.W.exmOne K (.ref (He.ga K "WoodError")) (.ref (He.ga K "NoBit")) = some false
  k_WoodError_NoNode : PySem.W.kitOne K (.ref (He.ga K "WoodError")) (.ref (He.ga K "NoNode")) = some false
  e_WoodError_NoNode : PySem.W.exmOne K (.ref (He.ga K "WoodError")) (.ref (He.ga K "NoNode")) = some false
  k_WoodError_NoOctets : PySem.W.kitOne K (.ref (He.ga K "WoodError")) (.ref (He.ga K "NoOctets")) = some false
  e_WoodError_NoOctets : PySem.W.exmOne K (.ref (He.ga K "WoodError")) (.ref (He.ga K "NoOctets")) = some false
  k_WoodError_NoPlace : PySem.W.kitOne K (.ref (He.ga K "WoodError")) (.ref (He.ga K "NoPlace")) = some false
  e_WoodError_NoPlace : PySem.W.exmOne K (.ref (He.ga K "WoodError")) (.ref (He.ga K "NoPlace")) = some false
  k_WoodError_NoSign : PySem.W.kitOne K (.ref (He.ga K "WoodError")) (.ref (He.ga K "NoSign")) = some false
  e_WoodError_NoSign : PySem.W.exmOne K (.ref (He.ga K "WoodError")) (.ref (He.ga K "NoSign")) = some false
  k_WoodError_NoTree : PySem.W.kitOne K (.ref (He.ga K "WoodError")) (.ref (He.ga K "NoTree")) = some false
  e_WoodError_NoTree : PySem.W.exmOne K (.ref (He.ga K "WoodError")) (.ref (He.ga K "NoTree")) = some false
  k_WoodError_NoWord : PySem.W.kitOne K (.ref (He.ga K "WoodError")) (.ref (He.ga K "NoWord")) = some false
  e_WoodError_NoWord : PySem.W.exmOne K (.ref (He.ga K "WoodError")) (.ref (He.ga K "NoWord")) = some false
  k_WoodError_TooMany : PySem.W.kitOne K (.ref (He.ga K "WoodError")) (.ref (He.ga K "TooMany")) = some false
  e_WoodError_TooMany : PySem.W.exmOne K (.ref (He.ga K "WoodError")) (.ref (He.ga K "TooMany")) = some false
  k_WoodError_Twice : PySem.W.kitOne K (.ref (He.ga K "WoodError")) (.ref (He.ga K "Twice")) = some false
  e_WoodError_Twice : PySem.W.exmOne K (.ref (He.ga K "WoodError")) (.ref (He.ga K "Twice")) = some false
  k_WoodError_WoodError : PySem.W.kitOne K (.ref (He.ga K "WoodError")) (.ref (He.ga K "WoodError")) = some true
  e_WoodError_WoodError : PySem.W.exmOne K (.ref (He.ga K "WoodError")) (.ref (He.ga K "WoodError")) = some true

/-- _law_cell_at(script, k) -/
def sp_law_cell_at (K : PySem.W.Frag) : Sp := fun vs H Q _ => ∃ (a : Addr) (ns : List Int) (k : Int), vs = [.ref a, .int k] ∧ SqL K H a (ns.map V.int) ∧ 0 ≤ k ∧ ∀ c : Int, c = ns.getD k.toNat 0 → Q (.int c) H
theorem len_law_cell_at (K : PySem.W.Frag) : ∀ vs H Q E, sp_law_cell_at K vs H Q E → vs.length = 2 := by
  rintro vs H Q E ⟨x, y, z, rfl, _⟩; rfl
def t_law_cell_at (K : PySem.W.Frag) : TS :=
  (tSeq (tIfS (tTest (tOp rLt (tVar 1) (tCB (rLen K) (tCons (tVar 0) tNil))))
  (tRet (tOp (rIxL K) (tVar 0) (tVar 1)))
  tNext)
  (tRet (tC (.int 0))))
abbrev n_law_cell_at : List Str := ["_law_script", "_law_k"]

theorem rd_law_cell_at (K : PySem.W.Frag) (vs : List V) (H : Hp) (Q : VK) (E : XK) (h : sp_law_cell_at K vs H Q E) : t_law_cell_at K { nx := fun _ H' => Q .non H', rt := Q } (start n_law_cell_at vs) H := by
  obtain ⟨a, ns, k, rfl, hS, hk, q⟩ := h
  unfold t_law_cell_at
  walk_at "st"
  refine k_lenL hS ?_
  walk_at "st"
  rw [List.length_map]
  walk_at "if" <;> intro c
  · walk_at "st"
    have hlt : k.toNat < ns.length := by omega
    refine k_ixL hS (at_int hk (mapint (List.getElem?_eq_getElem hlt))) ?_
    walk_at "st"
    exact q _ (by rw [List.getD_eq_getElem?_getD, List.getElem?_eq_getElem hlt]; rfl)
  · walk_at "st"
    exact q _ (by rw [List.getD_eq_getElem?_getD, List.getElem?_eq_none (by omega)]; rfl)
theorem call_cell_at {K : PySem.W.Frag} {H : Hp} {Q : VK} {E : XK} {a : Addr} {ns : List Int} {k : Int} (hS : SqL K H a (ns.map V.int)) (hk : 0 ≤ k) (q : ∀ c : Int, c = ns.getD k.toNat 0 → Q (.int c) H) : sp_law_cell_at K [.ref a, .int k] H Q E :=
  ⟨a, ns, k, rfl, hS, hk, q⟩

/-- each depth behind the first is one of its place; a is the depth ahead -/
def DeepT (a : Int) : List Int → Prop
  | [] => True
  | d :: ds => 1 ≤ d ∧ d ≤ a + 1 ∧ DeepT d ds
/-- the depths of a tree -/
def Deep : List Int → Prop
  | [] => False
  | d :: ds => d = 0 ∧ DeepT 0 ds
/-- the last of a and what follows -/
def lastD (a : Int) : List Int → Int
  | [] => a
  | d :: ds => lastD d ds
theorem lastD_snoc (a : Int) : ∀ (ds : List Int) (x : Int), lastD a (ds ++ [x]) = x
  | [], _ => rfl
  | d :: ds, x => lastD_snoc d ds x
theorem deepT_snoc : ∀ {a : Int} {ds : List Int} {x : Int}, DeepT a ds → 1 ≤ x → x ≤ lastD a ds + 1 → DeepT a (ds ++ [x])
  | _, [], _, _, h1, h2 => ⟨h1, h2, trivial⟩
  | _, _ :: _, _, ⟨a1, a2, a3⟩, h1, h2 => ⟨a1, a2, deepT_snoc a3 h1 h2⟩
theorem lastD_nonneg : ∀ {a : Int} {ds : List Int}, 0 ≤ a → DeepT a ds → 0 ≤ lastD a ds
  | _, [], h, _ => h
  | _, d :: ds, _, ⟨a1, _, a3⟩ => (lastD_nonneg (a := d) (ds := ds) (by omega) a3 : 0 ≤ lastD d ds)
theorem lastD_get : ∀ (a : Int) (ds : List Int), (a :: ds)[ds.length]? = some (lastD a ds)
  | _, [] => rfl
  | a, d :: ds => by
    rw [show (d :: ds).length = ds.length + 1 from rfl, List.getElem?_cons_succ]
    exact lastD_get d ds
theorem deepT_get : ∀ {ds : List Int} {a : Int}, DeepT a ds → ∀ {i : Nat} {x y : Int}, (a :: ds)[i]? = some x → ds[i]? = some y → 1 ≤ y ∧ y ≤ x + 1
  | [], _, _, _, _, _, _, h => by simp at h
  | d :: ds, a, ⟨a1, a2, a3⟩, 0, x, y, h1, h2 => by
    simp only [List.getElem?_cons_zero, Option.some.injEq] at h1 h2
    subst h1 h2; exact ⟨a1, a2⟩
  | d :: ds, a, ⟨a1, a2, a3⟩, i + 1, x, y, h1, h2 => by
    rw [List.getElem?_cons_succ] at h1 h2
    exact deepT_get a3 h1 h2
theorem Deep.cons {ds : List Int} (h : Deep ds) : ∃ r, ds = 0 :: r ∧ DeepT 0 r := by
  cases ds with
  | nil => exact h.elim
  | cons d r => obtain ⟨rfl, h⟩ := h; exact ⟨r, rfl, h⟩
/-- the brackets behind the one of a node of depth a -/
def brkT (a : Int) : List Int → List Int
  | [] => List.replicate (a + 1).toNat 0
  | d :: ds => List.replicate (a + 1 - d).toNat 0 ++ 1 :: brkT d ds
/-- the brackets of depths -/
def brk : List Int → List Int
  | [] => []
  | d :: ds => 1 :: brkT d ds
theorem brkT_len : ∀ {a : Int} {ds : List Int}, 0 ≤ a → DeepT a ds → ((brkT a ds).length : Int) = a + 1 + 2 * ds.length
  | a, [], h, _ => by simp only [brkT, List.length_replicate, List.length_nil]; omega
  | a, d :: ds, h, ⟨a1, a2, a3⟩ => by
    have := brkT_len (by omega) a3
    simp only [brkT, List.length_append, List.length_replicate, List.length_cons]; omega
theorem brk_len {ds : List Int} (h : Deep ds) : (brk ds).length = 2 * ds.length := by
  obtain ⟨r, rfl, h2⟩ := h.cons
  have := brkT_len (by decide) h2
  simp only [brk, List.length_cons]; omega
theorem at_lastD (r : List Int) : atI (((0 : Int) :: r).map V.int) (-1) = some (.int (lastD 0 r)) := by
  unfold atI ixN
  rw [List.length_map, List.length_cons, if_neg (by decide), if_pos (by omega)]
  show ((((0 : Int) :: r).map V.int))[_]? = _
  rw [show (-1 + ((r.length + 1 : Nat) : Int)).toNat = r.length by omega]
  exact mapint (lastD_get 0 r)
/-- 1 + k % n, k = 0, 1, .. -/
theorem deepT_saw {n : Int} (hn : 0 < n) : ∀ m : Nat, DeepT 0 ((List.range m).map fun k : Nat => 1 + (k : Int) % n) ∧ (0 < m → lastD 0 ((List.range m).map fun k : Nat => 1 + (k : Int) % n) = 1 + ((m : Int) - 1) % n)
  | 0 => ⟨trivial, fun h => by omega⟩
  | m + 1 => by
    obtain ⟨h1, h2⟩ := deepT_saw hn m
    rw [List.range_succ, List.map_append]
    refine ⟨deepT_snoc h1 (by have := Int.emod_nonneg (m : Int) (show n ≠ 0 by omega); show 1 ≤ 1 + (m : Int) % n; omega) ?_, fun _ => ?_⟩
    · show 1 + (m : Int) % n ≤ _
      rcases Nat.eq_zero_or_pos m with rfl | hm
      · simp [lastD]
      · rw [h2 hm]
        have e := Int.emod_add_mul_ediv ((m : Int) - 1) n
        have p := Int.emod_nonneg ((m : Int) - 1) (show n ≠ 0 by omega)
        have l := Int.emod_lt_of_pos ((m : Int) - 1) hn
        have e2 : (m : Int) = (((m : Int) - 1) % n + 1) + n * (((m : Int) - 1) / n) := by omega
        have e3 : (m : Int) % n = (((m : Int) - 1) % n + 1) % n := by
          have := Int.add_mul_emod_self_left ((((m : Int) - 1) % n + 1)) n (((m : Int) - 1) / n)
          rw [← e2] at this; exact this
        rw [e3]
        by_cases h : ((m : Int) - 1) % n + 1 < n
        · rw [Int.emod_eq_of_lt (by omega) h]; omega
        · rw [show ((m : Int) - 1) % n + 1 = n by omega, Int.emod_self]; omega
    · show lastD 0 (_ ++ [1 + (m : Int) % n]) = _
      rw [lastD_snoc]
      congr 2; omega

/-- what is laid ahead of the last closing brackets -/
def brkF (a : Int) : List Int → List Int
  | [] => []
  | d :: ds => List.replicate (a + 1 - d).toNat 0 ++ 1 :: brkF d ds
theorem brkF_all : ∀ (a : Int) (ds : List Int), brkT a ds = brkF a ds ++ List.replicate (lastD a ds + 1).toNat 0
  | a, [] => rfl
  | a, d :: ds => by
    show _ ++ 1 :: brkT d ds = (_ ++ 1 :: brkF d ds) ++ List.replicate (lastD d ds + 1).toNat 0
    rw [brkF_all d ds]; simp
theorem brkF_snoc : ∀ (a : Int) (ds : List Int) (x : Int), brkF a (ds ++ [x]) = brkF a ds ++ List.replicate (lastD a ds + 1 - x).toNat 0 ++ [1]
  | a, [], x => by simp [brkF, lastD]
  | a, d :: ds, x => by
    show _ ++ 1 :: brkF d (ds ++ [x]) = (_ ++ 1 :: brkF d ds) ++ List.replicate (lastD d ds + 1 - x).toNat 0 ++ [1]
    rw [brkF_snoc d ds x]; simp
theorem brkF_le : ∀ {a : Int} {ds : List Int}, 0 ≤ a → DeepT a ds → ((brkF a ds).length : Int) ≤ a + 2 * ds.length
  | _, [], h, _ => by simp only [brkF, List.length_nil]; omega
  | a, d :: ds, h, ⟨a1, a2, a3⟩ => by
    have := brkF_le (by omega) a3
    simp only [brkF, List.length_append, List.length_replicate, List.length_cons]; omega
theorem deepT_take : ∀ {a : Int} {ds : List Int} (n : Nat), DeepT a ds → DeepT a (ds.take n)
  | _, [], n, _ => by rw [List.take_nil]; trivial
  | _, _ :: _, 0, _ => trivial
  | _, _ :: _, n + 1, ⟨a1, a2, a3⟩ => ⟨a1, a2, deepT_take n a3⟩
theorem lastD_take {x : Int} (ds : List Int) : ∀ {a : Int} {i : Nat}, (a :: ds)[i]? = some x → lastD a (ds.take i) = x := by
  induction ds with
  | nil =>
    intro a i h
    cases i with
    | zero => simpa [lastD] using h
    | succ i => simp at h
  | cons d ds ih =>
    intro a i h
    cases i with
    | zero => simpa [lastD] using h
    | succ i =>
      rw [List.getElem?_cons_succ] at h
      exact ih h
theorem lastD_le : ∀ {a : Int} {ds : List Int}, DeepT a ds → lastD a ds ≤ a + ds.length
  | _, [], _ => by simp [lastD]
  | a, d :: ds, ⟨a1, a2, a3⟩ => by
    have := lastD_le a3
    simp only [lastD, List.length_cons]; omega
/-- brackets_of(depths) -/
def sp_brackets_of (K : PySem.W.Frag) : Sp := fun vs H Q E => ∃ (a : Addr) (ds : List Int), vs = [.ref a] ∧ SqL K H a (ds.map V.int) ∧ ds.length ≤ 100000 ∧
  (2048 < ds.length → E (.ref (He.ga K "TooMany")) none H) ∧
  (ds.length ≤ 2048 → ¬ Deep ds → ∀ H', Same H H' → E (.ref (He.ga K "NoTree")) none H') ∧
  (ds.length ≤ 2048 → Deep ds → ∀ p H', H p = none → Same H H' → H' p = some (.lst ((brk ds).map V.int)) → Q (.ref p) H')
theorem len_brackets_of (K : PySem.W.Frag) : ∀ vs H Q E, sp_brackets_of K vs H Q E → vs.length = 1 := by
  rintro vs H Q E ⟨a, ds, rfl, _⟩; rfl
def t_brackets_of (K : PySem.W.Frag) (E : XK) : TS :=
  (tSeq (tIfS (tTest (tOp rGtI (tOp rTimes (tC (.int 2)) (tCB (rLen K) (tCons (tVar 0) tNil))) (tC (.int 4096))))
  (tRz (fun cls d _ H => E cls d H) (He.ga K "TooMany"))
  tNext)
  (tSeq (tIfS (tOr (tTest (tOp rEq (tCB (rLen K) (tCons (tVar 0) tNil)) (tC (.int 0)))) (tTest (tOp rNe (tOp (rIxL K) (tVar 0) (tC (.int 0))) (tC (.int 0)))))
  (tRz (fun cls d _ H => E cls d H) (He.ga K "NoTree"))
  tNext)
  (tSeq (tAsg (tLst (tCons (tC (.int 1)) tNil)) (gName 1))
  (tSeq (tFor (iZip K (tCons (tVar 0) (tCons (tSl (rSlL K) (tVar 0) (tPart (tC (.int 1))) tNoPart) tNil))) (gTup K 2 (gCons (gName 2) (gCons (gName 3) gNil)))
  (tSeq (tIfS (tOr (tTest (tOp rLt (tVar 3) (tC (.int 1)))) (tTest (tOp rGtI (tVar 3) (tOp rPlus (tVar 2) (tC (.int 1))))))
  (tRz (fun cls d _ H => E cls d H) (He.ga K "NoTree"))
  tNext)
  (tSeq (tDrop (tBM K "list" rExtend (tVar 1) (tCons (tOp rRep (tLst (tCons (tC (.int 0)) tNil)) (tOp rMinus (tOp rPlus (tVar 2) (tC (.int 1))) (tVar 3))) tNil)))
  (tDrop (tBM K "list" rAppend (tVar 1) (tCons (tC (.int 1)) tNil))))))
  (tSeq (tDrop (tBM K "list" rExtend (tVar 1) (tCons (tOp rRep (tLst (tCons (tC (.int 0)) tNil)) (tOp rPlus (tOp (rIxL K) (tVar 0) (tUn rNeg (tC (.int 1)))) (tC (.int 1)))) tNil)))
  (tRet (tVar 1)))))))
abbrev n_brackets_of : List Str := ["depths", "bits", "ahead", "deep"]

theorem rd_brackets_of (K : PySem.W.Frag) (vs : List V) (H : Hp) (Q : VK) (E : XK) (h : sp_brackets_of K vs H Q E) : t_brackets_of K E { nx := fun _ H' => Q .non H', rt := Q } (start n_brackets_of vs) H := by
  obtain ⟨a, ds, rfl, hS, hl0, q1, q2, q⟩ := h
  unfold t_brackets_of
  walk_at "st"
  refine k_lenL hS ?_
  walk_at "st"
  rw [List.length_map]
  walk_at "if" <;> intro c0
  · walk_at "st"
    exact q1 (by omega)
  have hl : ds.length ≤ 2048 := by omega
  walk_at "st"
  refine k_lenL hS ?_
  walk_at "st"
  rw [List.length_map]
  walk_at "if" <;> intro c1
  · walk_at "st"
    refine q2 hl (fun z => ?_) H (Same.refl H)
    obtain ⟨r, rfl, _⟩ := z.cons
    rw [List.length_cons] at c1; omega
  obtain ⟨d0, r, rfl⟩ : ∃ d0 r, ds = d0 :: r := by
    cases ds with
    | nil => exact absurd rfl c1
    | cons x xs => exact ⟨x, xs, rfl⟩
  walk_at "st"
  refine k_ixL hS (x := .int d0) (at_int (by decide) rfl) ?_
  walk_at "st"
  walk_at "if" <;> intro c2
  · walk_at "st"
    refine q2 hl (fun z => c2 z.1) H (Same.refl H)
  subst c2
  have hrl : r.length ≤ 2047 := by rw [List.length_cons] at hl; omega
  walk_at "st"
  intro p hp
  have s0 := same_new (o := .lst [.int 1]) hp
  have e0 := upd_same (H := H) (a := p) (o := .lst [.int 1])
  generalize upd H p (.lst [.int 1]) = H1 at s0 e0 ⊢
  walk_at "st"
  refine k_slL (s0.seq hS) fun p2 hp2 => ?_
  have ec : cutV (((0 : Int) :: r).map V.int) (some 1) none = r.map V.int := by simpa using cutDrop (((0 : Int) :: r).map V.int) 1
  rw [ec]
  have s1 := same_new (o := .lst (r.map V.int)) hp2
  have e1 := upd_same (H := H1) (a := p2) (o := .lst (r.map V.int))
  have np : p2 ≠ p := Ne.symm (ne_of_none e0 hp2)
  generalize upd H1 p2 (.lst (r.map V.int)) = H2 at s1 e1 ⊢
  have s02 := s0.trans s1
  walk_at "st"
  refine m_zipE (s02.seq hS) (.of e1) ?_
  refine loop_walk (walk_zip (n := r.length) (by simp)) (fun i σ H' => ∃ x y, σ = [some (.ref a), some (.ref p), x, y] ∧ i ≤ r.length ∧ Same H H' ∧ H' p2 = some (.lst (r.map V.int)) ∧ H' p = some (.lst ((1 :: brkF 0 (r.take i)).map V.int)) ∧ DeepT 0 (r.take i)) ⟨none, none, rfl, Nat.zero_le _, s02, e1, ?_, ?_⟩ (fun i σ H' ⟨_, _, _, _, s, e, _⟩ => ⟨s.seq hS, .of e⟩) ?_ ?_
  · rw [List.take_zero]; exact s1.get e0
  · rw [List.take_zero]; trivial
  · rintro i v σ H3 H4 hi ⟨y, z, rfl, _, s, e2, e, hD⟩ ⟨T, x, w, rfl, hT, rfl, ex, ew⟩
    obtain ⟨dp, hdp, rfl⟩ := of_mapint ew
    obtain ⟨ah, hah, rfl⟩ := of_mapint ex
    have sT := same_new (o := .tup [.int ah, .int dp]) hT
    have eT := upd_same (H := H3) (a := T) (o := .tup [.int ah, .int dp])
    generalize upd H3 T (.tup [.int ah, .int dp]) = H5 at sT eT ⊢
    have sH5 := s.trans sT
    refine m_gTup (.of eT) rfl ?_
    have hla := lastD_take r hah
    have hub := lastD_le hD
    have hnn := lastD_nonneg (by decide) hD
    rw [hla] at hub hnn
    rw [List.length_take] at hub
    walk_at "st"
    have bad : ¬ (1 ≤ dp ∧ dp ≤ ah + 1) → ¬ Deep (0 :: r) := fun c z => c (deepT_get z.2 hah hdp)
    walk_at "if" <;> intro c3
    · walk_at "st"
      exact q2 hl (bad fun z => by omega) _ sH5
    walk_at "st"
    walk_at "if" <;> intro c4
    · walk_at "st"
      exact q2 hl (bad fun z => by omega) _ sH5
    walk_at "st"
    refine k_tyL (.of (sT.get e)) ?_
    walk_at "st"
    intro p3 hp3
    walk_at "st"
    rw [show ah + 1 - dp = (((ah + 1 - dp).toNat : Nat) : Int) by omega]
    refine k_rep (xs := [.int 0]) upd_same (by simp only [List.length_cons, List.length_nil]; omega) (by omega) fun p4 hp4 => ?_
    rw [rep_one]
    have s4 := (same_new (o := .lst [.int 0]) hp3).trans (same_new (o := .lst (List.replicate (ah + 1 - dp).toNat (V.int 0))) hp4)
    have e4 := upd_same (H := upd H5 p3 (.lst [.int 0])) (a := p4) (o := .lst (List.replicate (ah + 1 - dp).toNat (V.int 0)))
    generalize upd (upd H5 p3 (.lst [.int 0])) p4 (.lst (List.replicate (ah + 1 - dp).toNat (V.int 0))) = H6 at s4 e4 ⊢
    walk_at "st"
    have hfl := brkF_le (by decide) hD
    rw [List.length_take] at hfl
    have e6 := s4.get (sT.get e)
    refine k_extend e6 e4 (by rw [List.length_map, List.length_replicate, List.length_cons]; omega) ?_
    have s7 : Same H (upd H6 p (.lst ((1 :: brkF 0 (r.take i)).map V.int ++ List.replicate (ah + 1 - dp).toNat (V.int 0)))) := Same.mut (sH5.trans s4) hp ⟨_, e6⟩
    have e7 := upd_same (H := H6) (a := p) (o := .lst ((1 :: brkF 0 (r.take i)).map V.int ++ List.replicate (ah + 1 - dp).toNat (V.int 0)))
    have e72 : upd H6 p (.lst ((1 :: brkF 0 (r.take i)).map V.int ++ List.replicate (ah + 1 - dp).toNat (V.int 0))) p2 = some (.lst (r.map V.int)) := by rw [upd_ne np]; exact s4.get (sT.get e2)
    generalize upd H6 p (.lst ((1 :: brkF 0 (r.take i)).map V.int ++ List.replicate (ah + 1 - dp).toNat (V.int 0))) = H7 at s7 e7 e72 ⊢
    walk_at "st"
    refine k_tyL (.of e7) ?_
    walk_at "st"
    refine k_app e7 (by rw [List.length_append, List.length_map, List.length_replicate, List.length_cons]; omega) ?_
    refine ⟨_, _, rfl, by omega, Same.mut s7 hp ⟨_, e7⟩, by rw [upd_ne np]; exact e72, ?_, ?_⟩
    · rw [upd_same, List.take_add_one, hdp]
      show _ = some (HO.lst ((1 :: brkF 0 (r.take i ++ [dp])).map V.int))
      rw [brkF_snoc, hla]
      simp [List.map_replicate]
    · rw [List.take_add_one, hdp]
      exact deepT_snoc hD (by omega) (by rw [hla]; omega)
  rintro σ H3 ⟨y, z, rfl, _, s, e2, e, hD⟩
  rw [List.take_length] at e hD
  have hnn := lastD_nonneg (by decide) hD
  have hub := lastD_le hD
  have hfl := brkF_le (by decide) hD
  walk_at "st"
  refine k_tyL (.of e) ?_
  walk_at "st"
  intro p3 hp3
  walk_at "st"
  have s3 := same_new (o := .lst [.int 0]) hp3
  refine k_ixL ((s.trans s3).seq hS) (at_lastD r) ?_
  walk_at "st"
  rw [show lastD 0 r + 1 = (((lastD 0 r + 1).toNat : Nat) : Int) by omega]
  refine k_rep (xs := [.int 0]) upd_same (by simp only [List.length_cons, List.length_nil]; omega) (by omega) fun p4 hp4 => ?_
  rw [rep_one]
  have s4 := s3.trans (same_new (o := .lst (List.replicate (lastD 0 r + 1).toNat (V.int 0))) hp4)
  have e4 := upd_same (H := upd H3 p3 (.lst [.int 0])) (a := p4) (o := .lst (List.replicate (lastD 0 r + 1).toNat (V.int 0)))
  generalize upd (upd H3 p3 (.lst [.int 0])) p4 (.lst (List.replicate (lastD 0 r + 1).toNat (V.int 0))) = H6 at s4 e4 ⊢
  walk_at "st"
  refine k_extend (s4.get e) e4 (by rw [List.length_map, List.length_replicate, List.length_cons]; omega) ?_
  walk_at "st"
  refine q hl ⟨rfl, hD⟩ p _ hp (Same.mut (s.trans s4) hp ⟨_, s4.get e⟩) ?_
  rw [upd_same]
  show _ = some (HO.lst ((1 :: brkT 0 r).map V.int))
  rw [brkF_all]
  simp [List.map_replicate]

theorem deepT_of (ds : List Int) : ∀ (a : Int), (∀ (i : Nat) (x y : Int), (a :: ds)[i]? = some x → ds[i]? = some y → 1 ≤ y ∧ y ≤ x + 1) → DeepT a ds := by
  induction ds with
  | nil => intro a h; trivial
  | cons d ds ih =>
    intro a h
    obtain ⟨h1, h2⟩ := h 0 a d rfl rfl
    refine ⟨h1, h2, ih d fun i x y hx hy => h (i + 1) x y ?_ ?_⟩
    · rw [List.getElem?_cons_succ]; exact hx
    · rw [List.getElem?_cons_succ]; exact hy
/-- what is to be told -/
def tl (n : Int) : List V := [.int n, .bl true, .bl true, .bl false]
open Classical in
noncomputable def codeD (ds : List Int) : Int := if 2048 < ds.length then 1 else if Deep ds then 0 else 2
theorem codeD_many {ds : List Int} (h : 2048 < ds.length) : codeD ds = 1 := if_pos h
theorem codeD_deep {ds : List Int} (h : ¬ 2048 < ds.length) (d : Deep ds) : codeD ds = 0 := (if_neg h).trans (if_pos d)
theorem codeD_bad {ds : List Int} (h : ¬ 2048 < ds.length) (d : ¬ Deep ds) : codeD ds = 2 := (if_neg h).trans (if_neg d)
theorem dp_tl {K : PySem.W.Frag} {H : Hp} {a : Addr} {n : Int} (h : H a = some (.lst (tl n))) : Dp K H (.ref a) (.list [.int n, .bool true, .bool true, .bool false]) := .lst (.of h) (.cons (.int n) (.cons (.bl true) (.cons (.bl true) (.cons (.bl false) .nil))))
theorem laid_tl (n : Int) : laid 64 (.list [.int n, .bool true, .bool true, .bool false]) := laid_list (n := 63) fun d hd => by
  simp only [List.mem_cons, List.not_mem_nil, or_false] at hd
  rcases hd with rfl | rfl | rfl | rfl
  · exact laid_int _
  · exact laid_bool _
  · exact laid_bool _
  · exact laid_bool _
theorem eqv_tl (n : Int) : PyData.eqv (.list [.int n, .bool true, .bool true, .bool false]) (.list [.int n, .bool true, .bool true, .bool false]) = true := by
  simp [PyData.eqv, PyData.eqvAll]
theorem k_neTl {K : PySem.W.Frag} {H : Hp} {Q : VK} {a b : Addr} {n : Int} (h1 : H a = some (.lst (tl n))) (h2 : H b = some (.lst (tl n))) (q : Q (.bl false) H) : rNeD K (.ref a) (.ref b) H Q :=
  k_neD (dp_tl h1) (dp_tl h2) (laid_tl n) (laid_tl n) (by rw [eqv_tl]; exact q)
--#base
/-- _law_depths(script) -/
def sp_law_depths (K : PySem.W.Frag) : Sp := fun vs H Q _ => ∃ (a : Addr) (ns : List Int), vs = [.ref a] ∧ SqL K H a (ns.map V.int) ∧ ∀ (ds : List Int) p H', Deep ds → ds.length ≤ 2050 → H p = none → Same H H' → H' p = some (.lst (ds.map V.int)) → Q (.ref p) H'
theorem len_law_depths (K : PySem.W.Frag) : ∀ vs H Q E, sp_law_depths K vs H Q E → vs.length = 1 := by
  rintro vs H Q E ⟨a, ns, rfl, _⟩; rfl
def t_law_depths (K : PySem.W.Frag) : TS :=
  (tSeq (tAsg (tLst (tCons (tC (.int 0)) tNil)) (gName 1))
  (tSeq (tFor (iList K (tSl (rSlL K) (tVar 0) tNoPart (tPart (tC (.int 63))))) (gName 2)
  (tSeq (tAsg (tOp rMod (tOp rTimes (tVar 2) (tC (.int 48271))) (tC (.int 2147483647))) (gName 3))
  (tFor (iRng1 (tCons (tOp rPlus (tC (.int 1)) (tOp rMod (tVar 3) (tC (.int 4)))) tNil)) (gName 4)
  (tSeq (tAsg (tOp rPlus (tOp (rIxL K) (tVar 1) (tUn rNeg (tC (.int 1)))) (tC (.int 1))) (gName 5))
  (Evl.tCut (tIfS (tTest (tOp rEq (tOp rMod (tOp rDiv (tVar 3) (tC (.int 4))) (tC (.int 2))) (tC (.int 0))))
  (tAsg (tOp rPlus (tC (.int 1)) (tOp rMod (tOp rMod (tOp rTimes (tOp rTimes (tVar 3) (tOp rPlus (tOp rTimes (tC (.int 2)) (tVar 4)) (tC (.int 3)))) (tC (.int 69621))) (tC (.int 2147483629))) (tOp rPlus (tOp (rIxL K) (tVar 1) (tUn rNeg (tC (.int 1)))) (tC (.int 1))))) (gName 5))
  tNext)
  (tDrop (tBM K "list" rAppend (tVar 1) (tCons (tVar 5) tNil))))))))
  (Evl.tCut (tIfS (tTest (tOp rEq (tOp rMod (tCall (sp_law_cell_at K) [] E0 (tCons (tVar 0) (tCons (tC (.int 0)) tNil))) (tC (.int 8))) (tC (.int 3))))
  (tAsg (tOp rCat (tLst (tCons (tC (.int 0)) tNil)) (tLc (iRng1 (tCons (tOp rPlus (tC (.int 2046)) (tOp rMod (tCall (sp_law_cell_at K) [] E0 (tCons (tVar 0) (tCons (tC (.int 2)) tNil))) (tC (.int 4)))) tNil)) (gName 4) tYes (tOp rPlus (tC (.int 1)) (tOp rMod (tVar 4) (tOp rPlus (tC (.int 1)) (tOp rMod (tCall (sp_law_cell_at K) [] E0 (tCons (tVar 0) (tCons (tC (.int 1)) tNil))) (tC (.int 7)))))) [4])) (gName 1))
  tNext)
  (tRet (tVar 1)))))
abbrev n_law_depths : List Str := ["_law_script", "_law_depths_here", "_law_cell", "_law_number", "_law_k", "_law_deep"]

theorem rd_law_depths (K : PySem.W.Frag) (vs : List V) (H : Hp) (Q : VK) (E : XK) (h : sp_law_depths K vs H Q E) : t_law_depths K { nx := fun _ H' => Q .non H', rt := Q } (start n_law_depths vs) H := by
  obtain ⟨a, ns, rfl, hS, q⟩ := h
  unfold t_law_depths
  walk_at "st"
  intro p hp
  have s0 := same_new (o := .lst [.int 0]) hp
  have e0 := upd_same (H := H) (a := p) (o := .lst [.int 0])
  generalize upd H p (.lst [.int 0]) = H1 at s0 e0 ⊢
  walk_at "st"
  refine k_slL (s0.seq hS) fun p2 hp2 => ?_
  rw [show cutV (ns.map V.int) none (some 63) = (ns.take 63).map V.int by rw [show (63 : Int) = ((63 : Nat) : Int) from rfl, cutTake, List.map_take]]
  have s2 := same_new (o := .lst ((ns.take 63).map V.int)) hp2
  have e2 := upd_same (H := H1) (a := p2) (o := .lst ((ns.take 63).map V.int))
  have np : p2 ≠ p := Ne.symm (ne_of_none e0 hp2)
  generalize upd H1 p2 (.lst ((ns.take 63).map V.int)) = H2 at s2 e2 ⊢
  have s02 := s0.trans s2
  walk_at "st"
  refine m_iLe (.of e2) ?_
  refine loop_ints (ns := ns.take 63) (fun i σ' H' => ∃ (v2 v3 v4 v5 : Option V) (r : List Int), Same H H' ∧ H' p2 = some (.lst ((ns.take 63).map V.int)) ∧ H' p = some (.lst ((0 :: r).map V.int)) ∧ DeepT 0 r ∧ r.length ≤ 4 * i ∧ i ≤ 63 ∧ σ' = [some (.ref a), some (.ref p), v2, v3, v4, v5]) ⟨none, none, none, none, [], s02, e2, s2.get e0, trivial, by simp, by omega, rfl⟩ (fun i σ' H' ⟨_, _, _, _, _, _, e, _⟩ => .of e) (fun i n σ' H' hn ⟨v2, v3, v4, v5, r, s, e3, e, hD, hl, hi, es⟩ => ?_) (fun σ' H' ⟨v2, v3, v4, v5, r, s, e3, e, hD, hl, hi, es⟩ => ?_)
  · subst es
    have hi2 : i < 63 := by
      have := (List.getElem?_eq_some_iff.mp hn).1
      rw [List.length_take] at this; omega
    walk_at "st"
    generalize hm : n * 48271 % 2147483647 = m
    have hm1 : 0 ≤ m ∧ m < 2147483647 := by omega
    have hcnt : (1 + m % 4).toNat ≤ 4 := by omega
    generalize (1 + m % 4).toNat = cnt at hcnt ⊢
    refine loop_range0 (fun k σ' H3 => ∃ (v4 v5 : Option V) (t : List Int), Same H H3 ∧ H3 p2 = some (.lst ((ns.take 63).map V.int)) ∧ H3 p = some (.lst ((0 :: t).map V.int)) ∧ DeepT 0 t ∧ t.length = r.length + k ∧ σ' = [some (.ref a), some (.ref p), some (.int n), some (.int m), v4, v5]) ⟨v4, v5, r, s, e3, e, hD, rfl, rfl⟩ (fun k σ' H3 hk ⟨v4, v5, t, s3, e5, e4, hD4, hl4, es⟩ => ?_) (fun σ' H3 ⟨v4, v5, t, s3, e5, e4, hD4, hl4, es⟩ => ?_)
    · subst es
      have hn4 := lastD_nonneg (by decide) hD4
      walk_at "st"
      refine k_ixL (.of e4) (at_lastD t) ?_
      walk_at "st"
      refine m_cut (fun σ' H'' => H3 = H'' ∧ ∃ d : Int, 1 ≤ d ∧ d ≤ lastD 0 t + 1 ∧ σ' = [some (.ref a), some (.ref p), some (.int n), some (.int m), some (.int (k : Int)), some (.int d)]) ?_ ?_
      · walk_at "st"
        walk_at "if" <;> intro c
        · walk_at "st"
          refine k_ixL (.of e4) (at_lastD t) ?_
          walk_at "st"
          have hx1 := Int.emod_nonneg (m * (2 * (k : Int) + 3) * 69621 % 2147483629) (show lastD 0 t + 1 ≠ 0 by omega)
          have hx2 := Int.emod_lt_of_pos (m * (2 * (k : Int) + 3) * 69621 % 2147483629) (show 0 < lastD 0 t + 1 by omega)
          generalize m * (2 * (k : Int) + 3) * 69621 % 2147483629 % (lastD 0 t + 1) = xx at hx1 hx2 ⊢
          exact ⟨rfl, 1 + xx, by omega, by omega, rfl⟩
        · walk_at "st"
          exact ⟨rfl, _, by omega, by omega, rfl⟩
      rintro σ' H'' ⟨rfl, d, d4, d5, rfl⟩
      walk_at "st"
      refine k_tyL (.of e4) ?_
      walk_at "st"
      refine k_app e4 (by rw [List.length_map, List.length_cons]; omega) ?_
      walk_at "st"
      refine ⟨_, _, t ++ [d], Same.mut s3 hp ⟨_, e4⟩, by rw [upd_ne np]; exact e5, ?_, deepT_snoc hD4 d4 d5, by rw [List.length_append, List.length_singleton]; omega, rfl⟩
      rw [upd_same, ← List.cons_append, List.map_append]; rfl
    subst es
    exact ⟨_, _, _, _, t, s3, e5, e4, hD4, by omega, by omega, rfl⟩
  subst es
  rw [List.length_take] at hl
  refine m_cut (fun σ' H'' => ∃ (p : Addr) (ds : List Int) (σ2 : List (Option V)), Deep ds ∧ ds.length ≤ 2050 ∧ H p = none ∧ Same H H'' ∧ H'' p = some (.lst (ds.map V.int)) ∧ σ' = some (.ref a) :: some (.ref p) :: σ2) ?_ ?_
  · walk_at "st"
    refine ⟨a, ns, 0, rfl, s.seq hS, by decide, fun c0 _ => ?_⟩
    walk_at "st"
    walk_at "if" <;> intro cc
    · walk_at "st"
      intro p5 hp5
      have s5 := s.trans (same_new (o := .lst [.int 0]) hp5)
      have e5 := upd_same (H := H') (a := p5) (o := .lst [.int 0])
      generalize upd H' p5 (.lst [.int 0]) = H5 at s5 e5 ⊢
      walk_at "st"
      refine ⟨a, ns, 2, rfl, s5.seq hS, by decide, fun c2 _ => ?_⟩
      walk_at "st"
      refine comp_rangeV (n := (2046 + c2 % 4).toNat) (f := fun k => .int (1 + (k : Int) % (1 + ns.getD 1 0 % 7))) (by omega) (fun k H6 Q2 hk s6 q6 => ?_) (fun p6 H6 hp6 s6 e6 => ?_)
      · walk_at "st"
        refine ⟨a, ns, 1, rfl, (s5.trans s6).seq hS, by decide, fun c1 hc1 => ?_⟩
        rw [show (1 : Int).toNat = 1 from rfl] at hc1
        subst hc1
        walk_at "st"
        exact q6 _ (Same.refl _)
      refine k_cat (s6.get e5) e6 (by rw [List.length_map, List.length_range]; simp only [List.length_cons, List.length_nil]; omega) fun p7 hp7 => ?_
      have s7 := s5.trans s6
      refine ⟨p7, 0 :: (List.range (2046 + c2 % 4).toNat).map fun k : Nat => 1 + (k : Int) % (1 + ns.getD 1 0 % 7), _, ⟨rfl, (deepT_saw (by omega) _).1⟩, by rw [List.length_cons, List.length_map, List.length_range]; omega, s7.gone _ hp7, s7.trans (same_new hp7), ?_, rfl⟩
      rw [upd_same, List.map_cons, List.map_map]; rfl
    · walk_at "st"
      exact ⟨p, 0 :: r, _, ⟨rfl, hD⟩, by rw [List.length_cons]; omega, hp, s, e, rfl⟩
  rintro σ' H'' ⟨p, ds, σ2, hD, hl, hp, s, e, rfl⟩
  walk_at "st"
  exact q ds p H'' hD hl hp s e
--#base
/-- _law_spoilt(depths, cell) -/
def sp_law_spoilt (K : PySem.W.Frag) : Sp := fun vs H Q _ => ∃ (a : Addr) (ds : List Int) (c : Int), vs = [.ref a, .int c] ∧ H a = some (.lst (ds.map V.int)) ∧ ds.length ≤ 3000 ∧ ∀ (es : List Int) p H', es.length ≤ ds.length + 1 → H p = none → Same H H' → H' p = some (.lst (es.map V.int)) → Q (.ref p) H'
theorem len_law_spoilt (K : PySem.W.Frag) : ∀ vs H Q E, sp_law_spoilt K vs H Q E → vs.length = 2 := by
  rintro vs H Q E ⟨a, ns, c, rfl, _⟩; rfl
def t_law_spoilt (K : PySem.W.Frag) : TS :=
  (tSeq (tAsg (tOp rMod (tVar 1) (tC (.int 1000000000000000000000000000000000000000000000000000000000000))) (gName 2))
  (tSeq (tAsg (tCB (rListOf K) (tCons (tVar 0) tNil)) (gName 3))
  (tSeq (tAsg (tOp rMod (tOp rDiv (tVar 2) (tC (.int 7))) (tOp rPlus (tCB (rLen K) (tCons (tVar 3) tNil)) (tC (.int 1)))) (gName 4))
  (tSeq (tIfS (tTest (tOp rEq (tOp rMod (tVar 2) (tC (.int 7))) (tC (.int 0))))
  (tRet (tVar 3))
  tNext)
  (tSeq (tIfS (tAnd (tTest (tOp rEq (tOp rMod (tVar 2) (tC (.int 7))) (tC (.int 1)))) (tTest (tOp rLt (tVar 4) (tCB (rLen K) (tCons (tVar 3) tNil)))))
  (tRet (tOp rCat (tSl (rSlL K) (tVar 3) tNoPart (tPart (tVar 4))) (tSl (rSlL K) (tVar 3) (tPart (tOp rPlus (tVar 4) (tC (.int 1)))) tNoPart)))
  tNext)
  (tSeq (tAsg (tVar 4) (gName 5))
  (Evl.tCut (tIfS (tAnd (tTest (tOp rEq (tOp rMod (tVar 2) (tC (.int 7))) (tC (.int 2)))) (tTest (tOp rGtI (tVar 4) (tC (.int 0)))))
  (tAsg (tOp rPlus (tOp (rIxL K) (tVar 3) (tOp rMinus (tVar 4) (tC (.int 1)))) (tC (.int 2))) (gName 5))
  tNext)
  (Evl.tCut (tIfS (tTest (tOp rEq (tOp rMod (tVar 2) (tC (.int 7))) (tC (.int 3))))
  (tAsg (tC (.int 0)) (gName 5))
  tNext)
  (Evl.tCut (tIfS (tTest (tOp rEq (tOp rMod (tVar 2) (tC (.int 7))) (tC (.int 4))))
  (tAsg (tOp rMinus (tC (.int (-1))) (tOp rMod (tOp rDiv (tVar 2) (tC (.int 7))) (tC (.int 1000000000000000000000000000000000000000000000000000000000000)))) (gName 5))
  tNext)
  (Evl.tCut (tIfS (tTest (tOp rEq (tOp rMod (tVar 2) (tC (.int 7))) (tC (.int 5))))
  (tAsg (tOp rMod (tOp rDiv (tVar 2) (tC (.int 7))) (tC (.int 1000000000000000000000000000000000000000000000000000000000000))) (gName 5))
  tNext)
  (tRet (tOp rCat (tOp rCat (tSl (rSlL K) (tVar 3) tNoPart (tPart (tVar 4))) (tLst (tCons (tVar 5) tNil))) (tSl (rSlL K) (tVar 3) (tPart (tVar 4)) tNoPart)))))))))))))
abbrev n_law_spoilt : List Str := ["_law_depths_here", "_law_cell", "_law_number", "_law_some", "_law_at", "_law_deep"]

theorem rd_law_spoilt (K : PySem.W.Frag) (vs : List V) (H : Hp) (Q : VK) (E : XK) (h : sp_law_spoilt K vs H Q E) : t_law_spoilt K { nx := fun _ H' => Q .non H', rt := Q } (start n_law_spoilt vs) H := by
  obtain ⟨a, ds, c, rfl, ha, hl, q⟩ := h
  unfold t_law_spoilt
  walk_at "st"
  generalize c % 1000000000000000000000000000000000000000000000000000000000000 = m
  refine k_listL (.of ha) fun p hp => ?_
  have s0 := same_new (o := .lst (ds.map V.int)) hp
  have e0 := upd_same (H := H) (a := p) (o := .lst (ds.map V.int))
  generalize upd H p (.lst (ds.map V.int)) = H1 at s0 e0 ⊢
  walk_at "st"
  refine k_lenL (.of e0) ?_
  walk_at "st"
  rw [List.length_map]
  have h1 := Int.emod_nonneg (m / 7) (show (ds.length : Int) + 1 ≠ 0 by omega)
  have h2 := Int.emod_lt_of_pos (m / 7) (show (0 : Int) < (ds.length : Int) + 1 by omega)
  obtain ⟨k, hk⟩ := Int.eq_ofNat_of_zero_le h1
  rw [hk] at h2 ⊢
  clear hk h1
  walk_at "if" <;> intro c0
  · walk_at "st"
    exact q ds p _ (by omega) hp s0 e0
  walk_at "st"
  walk_at "if" <;> intro c1
  · walk_at "st"
    refine k_lenL (.of e0) ?_
    walk_at "st"
    rw [List.length_map]
    walk_at "if" <;> intro c2
    · walk_at "st"
      refine k_slL (.of e0) fun p1 hp1 => ?_
      rw [cutTake, ← List.map_take]
      have s1 := same_new (o := .lst ((ds.take k).map V.int)) hp1
      have e1 := upd_same (H := H1) (a := p1) (o := .lst ((ds.take k).map V.int))
      generalize upd H1 p1 (.lst ((ds.take k).map V.int)) = H2 at s1 e1 ⊢
      walk_at "st"
      refine k_slL (.of (s1.get e0)) fun p2 hp2 => ?_
      rw [show (k : Int) + 1 = ((k + 1 : Nat) : Int) by omega, cutDrop, ← List.map_drop]
      refine k_cat ((same_new hp2).get e1) upd_same (by rw [List.length_map, List.length_map, List.length_take, List.length_drop]; omega) fun p3 hp3 => ?_
      have s3 := (s0.trans s1).trans (same_new (o := .lst ((ds.drop (k + 1)).map V.int)) hp2)
      exact q (ds.take k ++ ds.drop (k + 1)) p3 _ (by rw [List.length_append, List.length_take, List.length_drop]; omega) (s3.gone _ hp3) (s3.trans (same_new hp3)) (by rw [upd_same, List.map_append])
    walk_at "st"
    refine m_cut (fun σ' H'' => H1 = H'' ∧ ∃ d : Int, σ' = [some (.ref a), some (.int c), some (.int m), some (.ref p), some (.int (k : Int)), some (.int d)]) ?_ ?_
    · walk_at "st"
      walk_at "if" <;> intro _
      · walk_at "st"
        walk_at "if" <;> intro c3
        · walk_at "st"
          have hk1 : k - 1 < ds.length := by omega
          refine k_ixL (.of e0) (at_int (by omega) (by rw [show ((k : Int) - 1).toNat = k - 1 by omega]; exact mapint (List.getElem?_eq_getElem hk1))) ?_
          walk_at "st"
          exact ⟨rfl, _, rfl⟩
        · walk_at "st"
          exact ⟨rfl, _, rfl⟩
      · walk_at "st"
        exact ⟨rfl, _, rfl⟩
    rintro σ' H'' ⟨rfl, d, rfl⟩
    refine m_cut (fun σ' H'' => H1 = H'' ∧ ∃ d : Int, σ' = [some (.ref a), some (.int c), some (.int m), some (.ref p), some (.int (k : Int)), some (.int d)]) ?_ ?_
    · walk_at "st"
      walk_at "if" <;> intro _
      · walk_at "st"
        exact ⟨rfl, _, rfl⟩
      · walk_at "st"
        exact ⟨rfl, _, rfl⟩
    rintro σ' H'' ⟨rfl, d, rfl⟩
    refine m_cut (fun σ' H'' => H1 = H'' ∧ ∃ d : Int, σ' = [some (.ref a), some (.int c), some (.int m), some (.ref p), some (.int (k : Int)), some (.int d)]) ?_ ?_
    · walk_at "st"
      walk_at "if" <;> intro _
      · walk_at "st"
        exact ⟨rfl, _, rfl⟩
      · walk_at "st"
        exact ⟨rfl, _, rfl⟩
    rintro σ' H'' ⟨rfl, d, rfl⟩
    refine m_cut (fun σ' H'' => H1 = H'' ∧ ∃ d : Int, σ' = [some (.ref a), some (.int c), some (.int m), some (.ref p), some (.int (k : Int)), some (.int d)]) ?_ ?_
    · walk_at "st"
      walk_at "if" <;> intro _
      · walk_at "st"
        exact ⟨rfl, _, rfl⟩
      · walk_at "st"
        exact ⟨rfl, _, rfl⟩
    rintro σ' H'' ⟨rfl, d, rfl⟩
    walk_at "st"
    refine k_slL (.of e0) fun p1 hp1 => ?_
    rw [cutTake, ← List.map_take]
    have s1 := same_new (o := .lst ((ds.take k).map V.int)) hp1
    have e1 := upd_same (H := H1) (a := p1) (o := .lst ((ds.take k).map V.int))
    generalize upd H1 p1 (.lst ((ds.take k).map V.int)) = H2 at s1 e1 ⊢
    walk_at "st"
    intro p2 hp2
    refine k_cat ((same_new hp2).get e1) upd_same (by rw [List.length_map, List.length_take]; simp only [List.length_cons, List.length_nil]; omega) fun p3 hp3 => ?_
    have s3 := (s0.trans s1).trans ((same_new (o := .lst [.int d]) hp2).trans (same_new (o := .lst ((ds.take k).map V.int ++ [.int d])) hp3))
    have e3 := upd_same (H := upd H2 p2 (.lst [.int d])) (a := p3) (o := .lst ((ds.take k).map V.int ++ [.int d]))
    have e03 := ((s1.trans (same_new (o := .lst [.int d]) hp2)).trans (same_new (o := .lst ((ds.take k).map V.int ++ [.int d])) hp3)).get e0
    generalize upd (upd H2 p2 (.lst [.int d])) p3 (.lst ((ds.take k).map V.int ++ [.int d])) = H3 at s3 e3 e03 ⊢
    walk_at "st"
    refine k_slL (.of e03) fun p4 hp4 => ?_
    rw [cutDrop, ← List.map_drop]
    refine k_cat ((same_new hp4).get e3) upd_same (by rw [List.length_append, List.length_map, List.length_map, List.length_take, List.length_drop]; simp only [List.length_cons, List.length_nil]; omega) fun p5 hp5 => ?_
    have s5 := s3.trans (same_new (o := .lst ((ds.drop k).map V.int)) hp4)
    exact q (ds.take k ++ [d] ++ ds.drop k) p5 _ (by rw [List.length_append, List.length_append, List.length_take, List.length_drop, List.length_singleton]; omega) (s5.gone _ hp5) (s5.trans (same_new hp5)) (by rw [upd_same, List.map_append, List.map_append]; rfl)
  · walk_at "st"
    refine m_cut (fun σ' H'' => H1 = H'' ∧ ∃ d : Int, σ' = [some (.ref a), some (.int c), some (.int m), some (.ref p), some (.int (k : Int)), some (.int d)]) ?_ ?_
    · walk_at "st"
      walk_at "if" <;> intro _
      · walk_at "st"
        walk_at "if" <;> intro c3
        · walk_at "st"
          have hk1 : k - 1 < ds.length := by omega
          refine k_ixL (.of e0) (at_int (by omega) (by rw [show ((k : Int) - 1).toNat = k - 1 by omega]; exact mapint (List.getElem?_eq_getElem hk1))) ?_
          walk_at "st"
          exact ⟨rfl, _, rfl⟩
        · walk_at "st"
          exact ⟨rfl, _, rfl⟩
      · walk_at "st"
        exact ⟨rfl, _, rfl⟩
    rintro σ' H'' ⟨rfl, d, rfl⟩
    refine m_cut (fun σ' H'' => H1 = H'' ∧ ∃ d : Int, σ' = [some (.ref a), some (.int c), some (.int m), some (.ref p), some (.int (k : Int)), some (.int d)]) ?_ ?_
    · walk_at "st"
      walk_at "if" <;> intro _
      · walk_at "st"
        exact ⟨rfl, _, rfl⟩
      · walk_at "st"
        exact ⟨rfl, _, rfl⟩
    rintro σ' H'' ⟨rfl, d, rfl⟩
    refine m_cut (fun σ' H'' => H1 = H'' ∧ ∃ d : Int, σ' = [some (.ref a), some (.int c), some (.int m), some (.ref p), some (.int (k : Int)), some (.int d)]) ?_ ?_
    · walk_at "st"
      walk_at "if" <;> intro _
      · walk_at "st"
        exact ⟨rfl, _, rfl⟩
      · walk_at "st"
        exact ⟨rfl, _, rfl⟩
    rintro σ' H'' ⟨rfl, d, rfl⟩
    refine m_cut (fun σ' H'' => H1 = H'' ∧ ∃ d : Int, σ' = [some (.ref a), some (.int c), some (.int m), some (.ref p), some (.int (k : Int)), some (.int d)]) ?_ ?_
    · walk_at "st"
      walk_at "if" <;> intro _
      · walk_at "st"
        exact ⟨rfl, _, rfl⟩
      · walk_at "st"
        exact ⟨rfl, _, rfl⟩
    rintro σ' H'' ⟨rfl, d, rfl⟩
    walk_at "st"
    refine k_slL (.of e0) fun p1 hp1 => ?_
    rw [cutTake, ← List.map_take]
    have s1 := same_new (o := .lst ((ds.take k).map V.int)) hp1
    have e1 := upd_same (H := H1) (a := p1) (o := .lst ((ds.take k).map V.int))
    generalize upd H1 p1 (.lst ((ds.take k).map V.int)) = H2 at s1 e1 ⊢
    walk_at "st"
    intro p2 hp2
    refine k_cat ((same_new hp2).get e1) upd_same (by rw [List.length_map, List.length_take]; simp only [List.length_cons, List.length_nil]; omega) fun p3 hp3 => ?_
    have s3 := (s0.trans s1).trans ((same_new (o := .lst [.int d]) hp2).trans (same_new (o := .lst ((ds.take k).map V.int ++ [.int d])) hp3))
    have e3 := upd_same (H := upd H2 p2 (.lst [.int d])) (a := p3) (o := .lst ((ds.take k).map V.int ++ [.int d]))
    have e03 := ((s1.trans (same_new (o := .lst [.int d]) hp2)).trans (same_new (o := .lst ((ds.take k).map V.int ++ [.int d])) hp3)).get e0
    generalize upd (upd H2 p2 (.lst [.int d])) p3 (.lst ((ds.take k).map V.int ++ [.int d])) = H3 at s3 e3 e03 ⊢
    walk_at "st"
    refine k_slL (.of e03) fun p4 hp4 => ?_
    rw [cutDrop, ← List.map_drop]
    refine k_cat ((same_new hp4).get e3) upd_same (by rw [List.length_append, List.length_map, List.length_map, List.length_take, List.length_drop]; simp only [List.length_cons, List.length_nil]; omega) fun p5 hp5 => ?_
    have s5 := s3.trans (same_new (o := .lst ((ds.drop k).map V.int)) hp4)
    exact q (ds.take k ++ [d] ++ ds.drop k) p5 _ (by rw [List.length_append, List.length_append, List.length_take, List.length_drop, List.length_singleton]; omega) (s5.gone _ hp5) (s5.trans (same_new hp5)) (by rw [upd_same, List.map_append, List.map_append]; rfl)
/-- _law_due(depths) -/
def sp_law_due (K : PySem.W.Frag) : Sp := fun vs H Q _ => ∃ (a : Addr) (ds : List Int), vs = [.ref a] ∧ SqL K H a (ds.map V.int) ∧ ds.length ≤ 3100 ∧ ∀ p H', Same H H' → H' p = some (.lst (tl (codeD ds))) → Q (.ref p) H'
theorem len_law_due (K : PySem.W.Frag) : ∀ vs H Q E, sp_law_due K vs H Q E → vs.length = 1 := by
  rintro vs H Q E ⟨a, ns, rfl, _⟩; rfl
def t_law_due (K : PySem.W.Frag) : TS :=
  (tSeq (tIfS (tTest (tOp rGtI (tCB (rLen K) (tCons (tVar 0) tNil)) (tC (.int 2048))))
  (tRet (tLst (tCons (tC (.int 1)) (tCons (tC (.bl true)) (tCons (tC (.bl true)) (tCons (tC (.bl false)) tNil))))))
  tNext)
  (tSeq (tIfS (tOr (tTest (tOp rEq (tCB (rLen K) (tCons (tVar 0) tNil)) (tC (.int 0)))) (tTest (tOp rNe (tOp (rIxL K) (tVar 0) (tC (.int 0))) (tC (.int 0)))))
  (tRet (tLst (tCons (tC (.int 2)) (tCons (tC (.bl true)) (tCons (tC (.bl true)) (tCons (tC (.bl false)) tNil))))))
  tNext)
  (tSeq (tFor (iRng2 (tCons (tC (.int 1)) (tCons (tCB (rLen K) (tCons (tVar 0) tNil)) tNil))) (gName 1)
  (tIfS (tOr (tTest (tOp rLt (tOp (rIxL K) (tVar 0) (tVar 1)) (tC (.int 1)))) (tTest (tOp rGtI (tOp (rIxL K) (tVar 0) (tVar 1)) (tOp rPlus (tOp (rIxL K) (tVar 0) (tOp rMinus (tVar 1) (tC (.int 1)))) (tC (.int 1))))))
  (tRet (tLst (tCons (tC (.int 2)) (tCons (tC (.bl true)) (tCons (tC (.bl true)) (tCons (tC (.bl false)) tNil))))))
  tNext))
  (tRet (tLst (tCons (tC (.int 0)) (tCons (tC (.bl true)) (tCons (tC (.bl true)) (tCons (tC (.bl false)) tNil)))))))))
abbrev n_law_due : List Str := ["_law_depths_here", "_law_k"]

theorem rd_law_due (K : PySem.W.Frag) (vs : List V) (H : Hp) (Q : VK) (E : XK) (h : sp_law_due K vs H Q E) : t_law_due K { nx := fun _ H' => Q .non H', rt := Q } (start n_law_due vs) H := by
  obtain ⟨a, ds, rfl, hS, hl, q⟩ := h
  unfold t_law_due
  walk_at "st"
  refine k_lenL hS ?_
  walk_at "st"
  rw [List.length_map]
  walk_at "if" <;> intro c0
  · walk_at "st"
    intro p hp
    exact q p _ (same_new hp) (by rw [codeD_many (by omega)]; exact upd_same)
  have h0 : ¬ 2048 < ds.length := by omega
  have bad : ¬ Deep ds → ∀ H1 p, Same H H1 → H1 p = none → Q (.ref p) (upd H1 p (.lst [.int 2, .bl true, .bl true, .bl false])) := fun nd H1 p s hp => q p _ (s.trans (same_new hp)) (by rw [codeD_bad h0 nd]; exact upd_same)
  walk_at "st"
  refine k_lenL hS ?_
  walk_at "st"
  rw [List.length_map]
  walk_at "if" <;> intro c1
  · walk_at "st"
    intro p hp
    refine bad (fun z => ?_) _ p (Same.refl _) hp
    obtain ⟨r, rfl, _⟩ := z.cons
    rw [List.length_cons] at c1; omega
  obtain ⟨d0, r, rfl⟩ : ∃ d0 r, ds = d0 :: r := by
    cases ds with
    | nil => exact absurd rfl c1
    | cons x xs => exact ⟨x, xs, rfl⟩
  walk_at "st"
  refine k_ixL hS (x := .int d0) (at_int (by decide) rfl) ?_
  walk_at "st"
  walk_at "if" <;> intro c2
  · walk_at "st"
    intro p hp
    exact bad (fun z => c2 z.1) _ p (Same.refl _) hp
  subst c2
  walk_at "st"
  refine k_lenL hS ?_
  walk_at "st"
  rw [List.length_map, List.length_cons, show (((r.length + 1 : Nat) : Int) - 1).toNat = r.length by omega]
  refine loop_range (lo := 1) (n := r.length) (fun i σ' H' => ∃ y, H = H' ∧ i ≤ r.length ∧ (∀ (j : Nat) (x y : Int), j < i → ((0 : Int) :: r)[j]? = some x → r[j]? = some y → 1 ≤ y ∧ y ≤ x + 1) ∧ σ' = [some (.ref a), y]) ⟨none, rfl, Nat.zero_le _, fun j x y h => by omega, rfl⟩ ?_ ?_
  · rintro i σ' H' hi ⟨y, rfl, _, hb, rfl⟩
    obtain ⟨x, hx⟩ : ∃ x, ((0 : Int) :: r)[i]? = some x := ⟨_, List.getElem?_eq_getElem (by rw [List.length_cons]; omega)⟩
    obtain ⟨z, hz⟩ : ∃ z, r[i]? = some z := ⟨_, List.getElem?_eq_getElem hi⟩
    have hz2 : ((0 : Int) :: r)[i + 1]? = some z := by rw [List.getElem?_cons_succ]; exact hz
    rw [show (1 : Int) + (i : Int) = ((i + 1 : Nat) : Int) by omega]
    walk_at "st"
    refine k_ixL hS (at_nat (mapint hz2)) ?_
    walk_at "st"
    walk_at "if" <;> intro c3
    · walk_at "st"
      intro p hp
      exact bad (fun w => by have := deepT_get w.2 hx hz; omega) _ p (Same.refl _) hp
    walk_at "st"
    refine k_ixL hS (at_nat (mapint hz2)) ?_
    walk_at "st"
    refine k_ixL hS (at_int (by omega) (by rw [show (((i + 1 : Nat) : Int) - 1).toNat = i by omega]; exact mapint hx)) ?_
    walk_at "st"
    walk_at "if" <;> intro c4
    · walk_at "st"
      intro p hp
      exact bad (fun w => by have := deepT_get w.2 hx hz; omega) _ p (Same.refl _) hp
    walk_at "st"
    refine ⟨_, rfl, by omega, fun j x' y' hj hx' hy' => ?_, rfl⟩
    rcases Nat.lt_or_ge j i with w | w
    · exact hb j x' y' w hx' hy'
    · obtain rfl : j = i := by omega
      rw [hx] at hx'; rw [hz] at hy'
      cases hx'; cases hy'; omega
  · rintro σ' H' ⟨y, rfl, _, hb, rfl⟩
    walk_at "st"
    intro p hp
    refine q p _ (same_new hp) ?_
    rw [codeD_deep h0 ⟨rfl, deepT_of r 0 fun i x y hx hy => hb i x y (List.getElem?_eq_some_iff.mp hy).1 hx hy⟩]; exact upd_same
--#base
/-- _law_told(depths) -/
def sp_law_told (K : PySem.W.Frag) : Sp := fun vs H Q _ => ∃ (a : Addr) (ds : List Int), vs = [.ref a] ∧ SqL K H a (ds.map V.int) ∧ ds.length ≤ 3100 ∧ ∀ p H', Same H H' → H' p = some (.lst (tl (codeD ds))) → Q (.ref p) H'
theorem len_law_told (K : PySem.W.Frag) : ∀ vs H Q E, sp_law_told K vs H Q E → vs.length = 1 := by
  rintro vs H Q E ⟨a, ns, rfl, _⟩; rfl
def t_law_told (K : PySem.W.Frag) : TS :=
  (tSeq (tAsg (tLst tNil) (gName 1))
  (tSeq (tAsg (tLst (tCons (tC (.int 0)) (tCons (tC (.bl true)) (tCons (tC (.bl true)) (tCons (tC (.bl false)) tNil))))) (gName 2))
  (tSeq (tTryM K (fun W => (tAsg (tCallS (sp_brackets_of K) (WE W) (tCons (tVar 0) tNil)) (gName 1))) [(.ref (He.ga K "TooMany"), 3, fun a cls d => (tSeq (tAsg (tCB (rIsXT K cls d a) (tCons (tVar 3) (tCons (tTup (tCons (tC (.ref (He.ga K "NoTree"))) (tCons (tC (.ref (He.ga K "NoBit"))) (tCons (tC (.ref (He.ga K "NoPlace"))) (tCons (tC (.ref (He.ga K "NoNode"))) (tCons (tC (.ref (He.ga K "NoSign"))) (tCons (tC (.ref (He.ga K "NoWord"))) (tCons (tC (.ref (He.ga K "Twice"))) (tCons (tC (.ref (He.ga K "NoOctets"))) tNil))))))))) tNil))) (gName 4))
  (tAsg (tLst (tCons (tC (.int 1)) (tCons (tCB (rIsX K cls d a) (tCons (tVar 3) (tCons (tC (.ref (He.ga K "WoodError"))) tNil))) (tCons (tCB (rIsX K cls d a) (tCons (tVar 3) (tCons (tC (.ty "ValueError")) tNil))) (tCons (tVar 4) tNil))))) (gName 2)))), (.ref (He.ga K "NoTree"), 3, fun a cls d => (tSeq (tAsg (tCB (rIsXT K cls d a) (tCons (tVar 3) (tCons (tTup (tCons (tC (.ref (He.ga K "TooMany"))) (tCons (tC (.ref (He.ga K "NoBit"))) (tCons (tC (.ref (He.ga K "NoPlace"))) (tCons (tC (.ref (He.ga K "NoNode"))) (tCons (tC (.ref (He.ga K "NoSign"))) (tCons (tC (.ref (He.ga K "NoWord"))) (tCons (tC (.ref (He.ga K "Twice"))) (tCons (tC (.ref (He.ga K "NoOctets"))) tNil))))))))) tNil))) (gName 4))
  (tAsg (tLst (tCons (tC (.int 2)) (tCons (tCB (rIsX K cls d a) (tCons (tVar 3) (tCons (tC (.ref (He.ga K "WoodError"))) tNil))) (tCons (tCB (rIsX K cls d a) (tCons (tVar 3) (tCons (tC (.ty "ValueError")) tNil))) (tCons (tVar 4) tNil))))) (gName 2))))] (fun _ _ _ _ => False))
  (tSeq (tIfS (tAnd (tTest (tOp rEq (tOp (rIxL K) (tVar 2) (tC (.int 0))) (tC (.int 0)))) (tOr (tNot (tB (tCB rIsB (tCons (tVar 1) (tCons (tC (.ty "list")) tNil))))) (tTest (tOp rNe (tCB (rLen K) (tCons (tVar 1) tNil)) (tOp rTimes (tC (.int 2)) (tCB (rLen K) (tCons (tVar 0) tNil)))))))
  (tRet (tLst tNil))
  tNext)
  (tRet (tVar 2))))))
abbrev n_law_told : List Str := ["_law_depths_here", "_law_found", "_law_told_here", "e", "_law_others"]

theorem rd_law_told (K : PySem.W.Frag) (F : KFx K) (vs : List V) (H : Hp) (Q : VK) (E : XK) (h : sp_law_told K vs H Q E) : t_law_told K { nx := fun _ H' => Q .non H', rt := Q } (start n_law_told vs) H := by
  obtain ⟨a, ds, rfl, hS, hl, q⟩ := h
  unfold t_law_told
  walk_at "st"
  intro p hp
  have s0 := same_new (o := .lst []) hp
  generalize upd H p (.lst []) = H0 at s0 ⊢
  walk_at "st"
  intro p1 hp1
  have s1 := s0.trans (same_new (o := .lst [.int 0, .bl true, .bl true, .bl false]) hp1)
  have e1 := upd_same (H := H0) (a := p1) (o := .lst [.int 0, .bl true, .bl true, .bl false])
  generalize upd H0 p1 (.lst [.int 0, .bl true, .bl true, .bl false]) = H1 at s1 e1 ⊢
  walk_at "st"
  refine ⟨a, ds, rfl, s1.seq hS, by omega, fun hm => ?_, fun hm nd H2 s2 => ?_, fun hm hD p2 H2 hp2 s2 e2 => ?_⟩
  · refine m_caughtM F.e_TooMany_TooMany fun x hx => ?_
    walk_at "st"
    intro t ht
    walk_at "st"
    refine k_isXT [He.ga K "NoTree", He.ga K "NoBit", He.ga K "NoPlace", He.ga K "NoNode", He.ga K "NoSign", He.ga K "NoWord", He.ga K "Twice", He.ga K "NoOctets"] upd_same F.ec_TooMany (kitAny_no _ fun u hu => ?_) ?_
    · simp only [List.map_cons, List.map_nil, List.mem_cons, List.not_mem_nil, or_false] at hu
      rcases hu with rfl | rfl | rfl | rfl | rfl | rfl | rfl | rfl
      · exact F.k_TooMany_NoTree
      · exact F.k_TooMany_NoBit
      · exact F.k_TooMany_NoPlace
      · exact F.k_TooMany_NoNode
      · exact F.k_TooMany_NoSign
      · exact F.k_TooMany_NoWord
      · exact F.k_TooMany_Twice
      · exact F.k_TooMany_NoOctets
    have s3 := s1.trans (same_new (o := .tup (([He.ga K "NoTree", He.ga K "NoBit", He.ga K "NoPlace", He.ga K "NoNode", He.ga K "NoSign", He.ga K "NoWord", He.ga K "Twice", He.ga K "NoOctets"] : List Addr).map V.ref)) ht)
    walk_at "st"
    refine k_isX F.ec_TooMany F.k_TooMany_WoodError ?_
    walk_at "st"
    refine k_isXty F.ec_TooMany F.kt_TooMany ?_
    walk_at "st"
    intro p4 hp4
    walk_at "st"
    refine k_ixL (.of upd_same) (x := .int 1) (at_int (by decide) rfl) ?_
    walk_at "st"
    refine k_decF (by decide) ?_
    walk_at "st"
    exact q p4 _ (s3.trans (same_new hp4)) (by rw [codeD_many hm]; exact upd_same)
  · refine m_nextM F.e_NoTree_TooMany ?_
    refine m_caughtM F.e_NoTree_NoTree fun x hx => ?_
    walk_at "st"
    intro t ht
    walk_at "st"
    refine k_isXT [He.ga K "TooMany", He.ga K "NoBit", He.ga K "NoPlace", He.ga K "NoNode", He.ga K "NoSign", He.ga K "NoWord", He.ga K "Twice", He.ga K "NoOctets"] upd_same F.ec_NoTree (kitAny_no _ fun u hu => ?_) ?_
    · simp only [List.map_cons, List.map_nil, List.mem_cons, List.not_mem_nil, or_false] at hu
      rcases hu with rfl | rfl | rfl | rfl | rfl | rfl | rfl | rfl
      · exact F.k_NoTree_TooMany
      · exact F.k_NoTree_NoBit
      · exact F.k_NoTree_NoPlace
      · exact F.k_NoTree_NoNode
      · exact F.k_NoTree_NoSign
      · exact F.k_NoTree_NoWord
      · exact F.k_NoTree_Twice
      · exact F.k_NoTree_NoOctets
    have s3 := (s1.trans s2).trans (same_new (o := .tup (([He.ga K "TooMany", He.ga K "NoBit", He.ga K "NoPlace", He.ga K "NoNode", He.ga K "NoSign", He.ga K "NoWord", He.ga K "Twice", He.ga K "NoOctets"] : List Addr).map V.ref)) ht)
    walk_at "st"
    refine k_isX F.ec_NoTree F.k_NoTree_WoodError ?_
    walk_at "st"
    refine k_isXty F.ec_NoTree F.kt_NoTree ?_
    walk_at "st"
    intro p4 hp4
    walk_at "st"
    refine k_ixL (.of upd_same) (x := .int 2) (at_int (by decide) rfl) ?_
    walk_at "st"
    refine k_decF (by decide) ?_
    walk_at "st"
    exact q p4 _ (s3.trans (same_new hp4)) (by rw [codeD_bad (by omega) nd]; exact upd_same)
  · have s3 := s1.trans s2
    walk_at "st"
    refine k_ixL (.of (s2.get e1)) (x := .int 0) (at_int (by decide) rfl) ?_
    walk_at "st"
    refine k_decT rfl ?_
    walk_at "st"
    refine k_isList e2 ?_
    walk_at "st"
    refine k_lenL (.of e2) ?_
    walk_at "st"
    refine k_lenL (s3.seq hS) ?_
    walk_at "st"
    rw [List.length_map, List.length_map, brk_len hD]
    refine k_ndecT (by push_cast; rfl) ?_
    walk_at "st"
    exact q p1 _ s3 (by rw [codeD_deep (by omega) hD]; exact s2.get e1)
--#base
/-- law(script) -/
def sp_law (K : PySem.W.Frag) : Sp := fun vs H Q _ => ∃ (a : Addr) (ns : List Int), vs = [.ref a] ∧ SqL K H a (ns.map V.int) ∧ ns.length ≤ 63 ∧ ∀ H', Q (.bl true) H'
theorem len_law (K : PySem.W.Frag) : ∀ vs H Q E, sp_law K vs H Q E → vs.length = 1 := by
  rintro vs H Q E ⟨x, y, rfl, _⟩; rfl

/-- all are rows of numbers -/
def IntRows (H : Hp) (xs : List V) : Prop := ∀ x ∈ xs, ∃ (p : Addr) (bs : List Int), x = .ref p ∧ H p = some (.lst (bs.map V.int)) ∧ bs.length ≤ 3000
def t_law (K : PySem.W.Frag) : TS :=
  (tSeq (tAsg (tCall (sp_law_depths K) [] E0 (tCons (tVar 0) tNil)) (gName 1))
  (tSeq (tAsg (tCall (sp_law_spoilt K) [] E0 (tCons (tVar 1) (tCons (tCall (sp_law_cell_at K) [] E0 (tCons (tVar 0) (tCons (tC (.int 3)) tNil))) tNil))) (gName 2))
  (tSeq (tAsg (tCall (sp_law_spoilt K) [] E0 (tCons (tVar 2) (tCons (tCall (sp_law_cell_at K) [] E0 (tCons (tVar 0) (tCons (tC (.int 4)) tNil))) tNil))) (gName 2))
  (Evl.tCut (tIfS (tTest (tOp rEq (tOp rMod (tCall (sp_law_cell_at K) [] E0 (tCons (tVar 0) (tCons (tC (.int 5)) tNil))) (tC (.int 9))) (tC (.int 4))))
  (tAsg (tLst tNil) (gName 2))
  tNext)
  (tSeq (tFor (iList K (tLst (tCons (tVar 2) (tCons (tVar 1) (tCons (tVar 2) tNil))))) (gName 3)
  (tSeq (tAsg (tCB (rListOf K) (tCons (tVar 3) tNil)) (gName 4))
  (tIfS (tOr (tTest (tOp (rNeD K) (tCall (sp_law_told K) [] E0 (tCons (tVar 4) tNil)) (tCall (sp_law_due K) [] E0 (tCons (tVar 3) tNil)))) (tTest (tOp (rNeD K) (tVar 4) (tVar 3))))
  (tRet (tC (.bl false)))
  tNext)))
  (tRet (tC (.bl true))))))))
abbrev n_law : List Str := ["_law_script", "_law_depths_here", "_law_some", "_law_one", "_law_handed"]

theorem rd_law (K : PySem.W.Frag) (F : KFx K) (vs : List V) (H : Hp) (Q : VK) (E : XK) (h : sp_law K vs H Q E) : t_law K { nx := fun _ H' => Q .non H', rt := Q } (start n_law vs) H := by
  obtain ⟨a, ns, rfl, hS, hl, q⟩ := h
  unfold t_law
  walk_at "st"
  refine ⟨a, ns, rfl, hS, fun ds p H1 hD hd hp s1 e1 => ?_⟩
  walk_at "st"
  refine ⟨a, ns, 3, rfl, s1.seq hS, by decide, fun c3 _ => ?_⟩
  walk_at "st"
  refine ⟨p, ds, c3, rfl, e1, by omega, fun es p2 H2 he hp2 s2 e2 => ?_⟩
  walk_at "st"
  refine ⟨a, ns, 4, rfl, (s1.trans s2).seq hS, by decide, fun c4 _ => ?_⟩
  walk_at "st"
  refine ⟨p2, es, c4, rfl, e2, by omega, fun fs p3 H3 hf hp3 s3 e3 => ?_⟩
  have s13 := (s1.trans s2).trans s3
  have e13 := (s2.trans s3).get e1
  refine m_cut (fun σ' H'' => ∃ (p3 : Addr) (fs : List Int) (σ2 : List (Option V)), Same H3 H'' ∧ fs.length ≤ 3000 ∧ H'' p3 = some (.lst (fs.map V.int)) ∧ σ' = [some (.ref a), some (.ref p), some (.ref p3), none, none]) ?_ ?_
  · walk_at "st"
    refine ⟨a, ns, 5, rfl, s13.seq hS, by decide, fun c5 _ => ?_⟩
    walk_at "st"
    walk_at "if" <;> intro _
    · walk_at "st"
      intro p4 hp4
      exact ⟨p4, [], [], same_new hp4, by simp, upd_same, rfl⟩
    · walk_at "st"
      exact ⟨p3, fs, [], Same.refl _, by omega, e3, rfl⟩
  rintro σ' H'' ⟨p3, fs, _, s4, hf4, e4, rfl⟩
  walk_at "st"
  intro l hl5
  have s5 := same_new (o := .lst [.ref p3, .ref p, .ref p3]) hl5
  have e5 := upd_same (H := H'') (a := l) (o := .lst [.ref p3, .ref p, .ref p3])
  generalize upd H'' l (.lst [.ref p3, .ref p, .ref p3]) = H5 at s5 e5 ⊢
  have hR : IntRows H5 [.ref p3, .ref p, .ref p3] := fun x hx => by
    simp only [List.mem_cons, List.not_mem_nil, or_false] at hx
    rcases hx with rfl | rfl | rfl
    · exact ⟨p3, fs, rfl, s5.get e4, hf4⟩
    · exact ⟨p, ds, rfl, (s4.trans s5).get e13, by omega⟩
    · exact ⟨p3, fs, rfl, s5.get e4, hf4⟩
  generalize ([.ref p3, .ref p, .ref p3] : List V) = xs at e5 hR
  walk_at "st"
  refine m_iLe (.of e5) ?_
  refine loop_list (xs := xs) (fun i σ' H' => ∃ (y z : Option V), Same H5 H' ∧ σ' = [some (.ref a), some (.ref p), some (.ref p3), y, z]) ⟨none, none, Same.refl _, rfl⟩ (fun i σ' H' _ ⟨_, _, s, _⟩ => .of (s.get e5)) (fun i x σ' H' hx ⟨_, _, s, es⟩ => ?_) (fun σ' H' ⟨_, _, s, es⟩ => ?_)
  · subst es
    obtain ⟨r, cs, rfl, er, hcs⟩ := hR x (List.mem_of_getElem? hx)
    have er1 := s.get er
    walk_at "st"
    refine k_listL (.of er1) fun h6 hh6 => ?_
    have s6 := same_new (o := .lst (cs.map V.int)) hh6
    have e6 := upd_same (H := H') (a := h6) (o := .lst (cs.map V.int))
    generalize upd H' h6 (.lst (cs.map V.int)) = H6 at s6 e6 ⊢
    walk_at "st"
    refine ⟨h6, cs, rfl, .of e6, by omega, fun p7 H7 s7 e7 => ?_⟩
    walk_at "st"
    refine ⟨r, cs, rfl, .of (s7.get (s6.get er1)), by omega, fun p8 H8 s8 e8 => ?_⟩
    refine k_neTl (s8.get e7) e8 ?_
    walk_at "st"
    refine k_neL (ns := cs) (ms := cs) (.of ((s7.trans s8).get e6)) (.of ((s7.trans s8).get (s6.get er1))) ?_
    walk_at "st"
    refine k_ndecT rfl ?_
    walk_at "st"
    exact ⟨_, _, s.trans (s6.trans (s7.trans s8)), rfl⟩
  subst es
  walk_at "st"
  exact q _

end Tw
namespace Tw
open PySem PySem.Spec PyProof.Rows L2
/-! the text -/
def topS (i : Nat) : Stmt := PySem.Challenge.pw_thinwood_k41_depths_refused.main.body.getD i (.Pass ⟨0, 0, 0, 0⟩)
abbrev s_brackets_of : Stmt := topS 13
theorem sc_brackets_of : FnScope n_brackets_of ["depths"] (defScope s_brackets_of) := ⟨rfl, rfl, rfl, by decide +kernel, rfl, by decide +kernel, by decide +kernel⟩

abbrev s_law_cell_at : Stmt := topS 15
theorem sc_law_cell_at : FnScope n_law_cell_at ["_law_script", "_law_k"] (defScope s_law_cell_at) := ⟨rfl, rfl, rfl, by decide +kernel, rfl, by decide +kernel, by decide +kernel⟩

abbrev s_law_depths : Stmt := topS 16
theorem sc_law_depths : FnScope n_law_depths ["_law_script"] (defScope s_law_depths) := ⟨rfl, rfl, rfl, by decide +kernel, rfl, by decide +kernel, by decide +kernel⟩

abbrev s_law_spoilt : Stmt := topS 17
theorem sc_law_spoilt : FnScope n_law_spoilt ["_law_depths_here", "_law_cell"] (defScope s_law_spoilt) := ⟨rfl, rfl, rfl, by decide +kernel, rfl, by decide +kernel, by decide +kernel⟩

abbrev s_law_due : Stmt := topS 18
theorem sc_law_due : FnScope n_law_due ["_law_depths_here"] (defScope s_law_due) := ⟨rfl, rfl, rfl, by decide +kernel, rfl, by decide +kernel, by decide +kernel⟩

abbrev s_law_told : Stmt := topS 19
theorem sc_law_told : FnScope n_law_told ["_law_depths_here"] (defScope s_law_told) := ⟨rfl, rfl, rfl, by decide +kernel, rfl, by decide +kernel, by decide +kernel⟩

abbrev s_law : Stmt := topS 20
theorem sc_law : FnScope n_law ["_law_script"] (defScope s_law) := ⟨rfl, rfl, rfl, by decide +kernel, rfl, by decide +kernel, by decide +kernel⟩

structure Tx (P : Program) (w : World) (K : PySem.W.Frag) (mg : Str → Option Value) (base : Heap) : Prop where
  d_brackets_of : ∃ fd, FunD K "brackets_of" "brackets_of" (defArgs s_brackets_of) (defBody s_brackets_of) (defScope s_brackets_of) [] [] (He.ga K "brackets_of") fd
  g_brackets_of : mg "brackets_of" = some (.ref (He.ga K "brackets_of"))
  d_law_cell_at : ∃ fd, FunD K "_law_cell_at" "_law_cell_at" (defArgs s_law_cell_at) (defBody s_law_cell_at) (defScope s_law_cell_at) [] [] (He.ga K "_law_cell_at") fd
  g_law_cell_at : mg "_law_cell_at" = some (.ref (He.ga K "_law_cell_at"))
  d_law_depths : ∃ fd, FunD K "_law_depths" "_law_depths" (defArgs s_law_depths) (defBody s_law_depths) (defScope s_law_depths) [] [] (He.ga K "_law_depths") fd
  g_law_depths : mg "_law_depths" = some (.ref (He.ga K "_law_depths"))
  d_law_spoilt : ∃ fd, FunD K "_law_spoilt" "_law_spoilt" (defArgs s_law_spoilt) (defBody s_law_spoilt) (defScope s_law_spoilt) [] [] (He.ga K "_law_spoilt") fd
  g_law_spoilt : mg "_law_spoilt" = some (.ref (He.ga K "_law_spoilt"))
  d_law_due : ∃ fd, FunD K "_law_due" "_law_due" (defArgs s_law_due) (defBody s_law_due) (defScope s_law_due) [] [] (He.ga K "_law_due") fd
  g_law_due : mg "_law_due" = some (.ref (He.ga K "_law_due"))
  d_law_told : ∃ fd, FunD K "_law_told" "_law_told" (defArgs s_law_told) (defBody s_law_told) (defScope s_law_told) [] [] (He.ga K "_law_told") fd
  g_law_told : mg "_law_told" = some (.ref (He.ga K "_law_told"))
  d_law : ∃ fd, FunD K "law" "law" (defArgs s_law) (defBody s_law) (defScope s_law) [] [] (He.ga K "law") fd
  g_law : mg "law" = some (.ref (He.ga K "law"))
  b_ValueError : mg "ValueError" = none
  b_isinstance : mg "isinstance" = none
  b_len : mg "len" = none
  b_list : mg "list" = none
  b_range : mg "range" = none
  b_zip : mg "zip" = none
  x_NoBit : ExF K mg "NoBit"
  x_NoNode : ExF K mg "NoNode"
  x_NoOctets : ExF K mg "NoOctets"
  x_NoPlace : ExF K mg "NoPlace"
  x_NoSign : ExF K mg "NoSign"
  x_NoTree : ExF K mg "NoTree"
  x_NoWord : ExF K mg "NoWord"
  x_TooMany : ExF K mg "TooMany"
  x_Twice : ExF K mg "Twice"
  x_WoodError : ExF K mg "WoodError"
  g_NoBit : mg "NoBit" = some (.ref (He.ga K "NoBit"))
  g_NoNode : mg "NoNode" = some (.ref (He.ga K "NoNode"))
  g_NoOctets : mg "NoOctets" = some (.ref (He.ga K "NoOctets"))
  g_NoPlace : mg "NoPlace" = some (.ref (He.ga K "NoPlace"))
  g_NoSign : mg "NoSign" = some (.ref (He.ga K "NoSign"))
  g_NoTree : mg "NoTree" = some (.ref (He.ga K "NoTree"))
  g_NoWord : mg "NoWord" = some (.ref (He.ga K "NoWord"))
  g_TooMany : mg "TooMany" = some (.ref (He.ga K "TooMany"))
  g_Twice : mg "Twice" = some (.ref (He.ga K "Twice"))
  g_WoodError : mg "WoodError" = some (.ref (He.ga K "WoodError"))
  fx : KFx K
  i_MOST : ∃ t, mg "MOST" = some (.int 4096 t)
section
variable {P : Program} {w : World} {K : PySem.W.Frag} {mg : Str → Option Value} {base : Heap}
theorem ok_brackets_of (T : Tx P w K mg base) : Okf P w K mg base (L2.CX P w) 2 "brackets_of" ["depths"] (sp_brackets_of K) := by
  obtain ⟨fd, FD⟩ := T.d_brackets_of
  refine ⟨⟨fd, FunD.look FD, FD.bindsN fun _ _ _ _ _ _ us hl => match us, hl with | [_], _ => rfl, ?_⟩, FD.kp, T.g_brackets_of⟩
  refine FunD.ok (CX := (L2.CX P w)) FD sc_brackets_of (len_brackets_of K) (fun cdv A outer s H vs Q E hr h => ⟨t_brackets_of K E, ?_, rd_brackets_of K vs H Q E h⟩)
  exact (pss_cons (ps_if (pt_cmpR op_gt (pe_op op_mul pe_int (pe_callB call_lenK (by rfl) T.b_len (by decide +kernel) (pa_cons (pv 0) pa_nil))) (pe_gint T.i_MOST (by rfl)) (nomark _))
  (pss_one (ps_rz T.x_TooMany (takes_of rfl rfl rfl rfl)))
  pss_nil)
  (pss_cons (ps_if (PW.pt (pw_or (pt_cmpR op_eq (pe_callB call_lenK (by rfl) T.b_len (by decide +kernel) (pa_cons (pv 0) pa_nil)) pe_int (nomark _)) (pw_or1 (pt_cmpR op_ne (pe_ix ix_list (pv 0) pe_int (fun _ _ => rfl)) pe_int (nomark _)))))
  (pss_one (ps_rz T.x_NoTree (takes_of rfl rfl rfl rfl)))
  pss_nil)
  (pss_cons (ps_set (i := 1) sc_brackets_of.nd rfl (.inl rfl) (pe_lst (pa_cons pe_int pa_nil)))
  (pss_cons (ps_for (passes_of rfl) rfl (pi_zip (by rfl) T.b_zip (pa_cons (pv 0) (pa_cons (pe_slice sl_list (pv 0) (po_some pe_int) po_none) pa_nil))) (pg_tup rfl (pgs_cons (pg_name (i := 2) sc_brackets_of.nd rfl (.inl rfl)) (pgs_cons (pg_name (i := 3) sc_brackets_of.nd rfl (.inl rfl)) pgs_nil)))
  (pss_cons (ps_if (PW.pt (pw_or (pt_cmpR op_lt (pv 3) pe_int (nomark _)) (pw_or1 (pt_cmpR op_gt (pv 3) (pe_op op_add (pv 2) pe_int) (nomark _)))))
  (pss_one (ps_rz T.x_NoTree (takes_of rfl rfl rfl rfl)))
  pss_nil)
  (pss_cons (ps_expr (pe_bm PySem.F.plainAttrs_list PySem.F.slot_list_extend PySem.F.type_list_extend mt_extend (pv 1) (pa_cons (pe_op op_rep (pe_lst (pa_cons pe_int pa_nil)) (pe_op op_sub (pe_op op_add (pv 2) pe_int) (pv 3))) pa_nil)))
  (pss_one (ps_expr (pe_bm PySem.F.plainAttrs_list PySem.F.slot_list_append PySem.F.type_list_append mt_append (pv 1) (pa_cons pe_int pa_nil)))))))
  (pss_cons (ps_expr (pe_bm PySem.F.plainAttrs_list PySem.F.slot_list_extend PySem.F.type_list_extend mt_extend (pv 1) (pa_cons (pe_op op_rep (pe_lst (pa_cons pe_int pa_nil)) (pe_op op_add (pe_ix ix_list (pv 0) (pe_un un_neg pe_int) (fun _ _ => rfl)) pe_int)) pa_nil)))
  (pss_one (ps_ret (pv 1))))))))

theorem ok_law_cell_at (T : Tx P w K mg base) : Okf P w K mg base CX0 1 "_law_cell_at" ["_law_script", "_law_k"] (sp_law_cell_at K) := by
  obtain ⟨fd, FD⟩ := T.d_law_cell_at
  refine ⟨⟨fd, FunD.look FD, FD.bindsN fun _ _ _ _ _ _ us hl => match us, hl with | [_, _], _ => rfl, ?_⟩, FD.kp, T.g_law_cell_at⟩
  refine FunD.ok (CX := CX0) FD sc_law_cell_at (len_law_cell_at K) (fun cdv A outer s H vs Q E hr h => ⟨t_law_cell_at K, PSs.nox ?_, rd_law_cell_at K vs H Q E h⟩)
  exact (pss_cons (ps_if (pt_cmpR op_lt (pv 1) (pe_callB call_lenK (by rfl) T.b_len (by decide +kernel) (pa_cons (pv 0) pa_nil)) (nomark _))
  (pss_one (ps_ret (pe_ix ix_list (pv 0) (pv 1) (fun _ _ => rfl))))
  pss_nil)
  (pss_one (ps_ret pe_int)))

theorem ok_law_depths (T : Tx P w K mg base) (o_law_cell_at : Okf P w K mg base CX0 1 "_law_cell_at" ["_law_script", "_law_k"] (sp_law_cell_at K)) : Okf P w K mg base CX0 2 "_law_depths" ["_law_script"] (sp_law_depths K) := by
  obtain ⟨fd, FD⟩ := T.d_law_depths
  refine ⟨⟨fd, FunD.look FD, FD.bindsN fun _ _ _ _ _ _ us hl => match us, hl with | [_], _ => rfl, ?_⟩, FD.kp, T.g_law_depths⟩
  refine FunD.ok (CX := CX0) FD sc_law_depths (len_law_depths K) (fun cdv A outer s H vs Q E hr h => ⟨t_law_depths K, PSs.nox ?_, rd_law_depths K vs H Q E h⟩)
  exact (pss_cons (ps_set (i := 1) sc_law_depths.nd rfl (.inl rfl) (pe_lst (pa_cons pe_int pa_nil)))
  (pss_cons (ps_for PassesOwn.never rfl (pi_list (pe_slice sl_list (pv 0) po_none (po_some pe_int))) (pg_name (i := 2) sc_law_depths.nd rfl (.inl rfl))
  (pss_cons (ps_set (i := 3) sc_law_depths.nd rfl (.inl rfl) (pe_op op_mod (pe_op op_mul (pv 2) pe_int) pe_int))
  (pss_one (ps_for PassesOwn.never rfl (pi_range1 (by rfl) T.b_range (pa_cons (pe_op op_add pe_int (pe_op op_mod (pv 3) pe_int)) pa_nil)) (pg_name (i := 4) sc_law_depths.nd rfl (.inl rfl))
  (pss_cons (ps_set (i := 5) sc_law_depths.nd rfl (.inl rfl) (pe_op op_add (pe_ix ix_list (pv 1) (pe_un un_neg pe_int) (fun _ _ => rfl)) pe_int))
  (Evl.pss_cut (ps_if (pt_cmpR op_eq (pe_op op_mod (pe_op op_fdiv (pv 3) pe_int) pe_int) pe_int (nomark _))
  (pss_one (ps_set (i := 5) sc_law_depths.nd rfl (.inl rfl) (pe_op op_add pe_int (pe_op op_mod (pe_op op_mod (pe_op op_mul (pe_op op_mul (pv 3) (pe_op op_add (pe_op op_mul pe_int (pv 4)) pe_int)) pe_int) pe_int) (pe_op op_add (pe_ix ix_list (pv 1) (pe_un un_neg pe_int) (fun _ _ => rfl)) pe_int)))))
  pss_nil)
  (pss_one (ps_expr (pe_bm PySem.F.plainAttrs_list PySem.F.slot_list_append PySem.F.type_list_append mt_append (pv 1) (pa_cons (pv 5) pa_nil))))))))))
  (Evl.pss_cut (ps_if (pt_cmpR op_eq (pe_op op_mod (pe_callF o_law_cell_at hr (by decide) (by rfl) pass0 (pa_cons (pv 0) (pa_cons pe_int pa_nil))) pe_int) pe_int (nomark _))
  (pss_one (ps_set (i := 1) sc_law_depths.nd rfl (.inl rfl) (pe_op op_cat (pe_lst (pa_cons pe_int pa_nil)) (pe_lc (own := [("_law_k", 4)]) (g := (gName 4)) (tt := tYes) rfl sc_law_depths.nd (pi_range1 (by rfl) T.b_range (pa_cons (pe_op op_add pe_int (pe_op op_mod (pe_callF o_law_cell_at hr (by decide) (by rfl) pass0 (pa_cons (pv 0) (pa_cons pe_int pa_nil))) pe_int)) pa_nil)) (blkOk_by (N := ["_law_script", "_law_depths_here", "_law_cell", "_law_number", "_law_k", "_law_deep"]) (sc := defScope s_law_depths) (own := [("_law_k", 4)]) (by decide +kernel)) (fun _ _ _ _ _ => (pg_name (i := 4) sc_law_depths.nd rfl (.inl rfl))) (fun _ _ _ _ _ => pts_nil) (fun _ _ _ _ _ => (pe_op op_add pe_int (pe_op op_mod (pv 4) (pe_op op_add pe_int (pe_op op_mod (pe_callF o_law_cell_at hr (by decide) (by rfl) pass0 (pa_cons (pv 0) (pa_cons pe_int pa_nil))) pe_int)))))))))
  pss_nil)
  (pss_one (ps_ret (pv 1))))))

theorem ok_law_spoilt (T : Tx P w K mg base) : Okf P w K mg base CX0 1 "_law_spoilt" ["_law_depths_here", "_law_cell"] (sp_law_spoilt K) := by
  obtain ⟨fd, FD⟩ := T.d_law_spoilt
  refine ⟨⟨fd, FunD.look FD, FD.bindsN fun _ _ _ _ _ _ us hl => match us, hl with | [_, _], _ => rfl, ?_⟩, FD.kp, T.g_law_spoilt⟩
  refine FunD.ok (CX := CX0) FD sc_law_spoilt (len_law_spoilt K) (fun cdv A outer s H vs Q E hr h => ⟨t_law_spoilt K, PSs.nox ?_, rd_law_spoilt K vs H Q E h⟩)
  exact (pss_cons (ps_set (i := 2) sc_law_spoilt.nd rfl (.inl rfl) (pe_op op_mod (pv 1) (pe_cst (pe_op op_pow pe_int pe_int) fun _ _ _ h => ⟨_, _, rfl, rfl, ⟨by decide, by decide, by decide⟩, h⟩)))
  (pss_cons (ps_set (i := 3) sc_law_spoilt.nd rfl (.inl rfl) (pe_callTy call_listK (by rfl) T.b_list (by decide +kernel) (pa_cons (pv 0) pa_nil)))
  (pss_cons (ps_set (i := 4) sc_law_spoilt.nd rfl (.inl rfl) (pe_op op_mod (pe_op op_fdiv (pv 2) pe_int) (pe_op op_add (pe_callB call_lenK (by rfl) T.b_len (by decide +kernel) (pa_cons (pv 3) pa_nil)) pe_int)))
  (pss_cons (ps_if (pt_cmpR op_eq (pe_op op_mod (pv 2) pe_int) pe_int (nomark _))
  (pss_one (ps_ret (pv 3)))
  pss_nil)
  (pss_cons (ps_if (PW.pt (pw_and (pt_cmpR op_eq (pe_op op_mod (pv 2) pe_int) pe_int (nomark _)) (pw_and1 (pt_cmpR op_lt (pv 4) (pe_callB call_lenK (by rfl) T.b_len (by decide +kernel) (pa_cons (pv 3) pa_nil)) (nomark _)))))
  (pss_one (ps_ret (pe_op op_cat (pe_slice sl_list (pv 3) po_none (po_some (pv 4))) (pe_slice sl_list (pv 3) (po_some (pe_op op_add (pv 4) pe_int)) po_none))))
  pss_nil)
  (pss_cons (ps_set (i := 5) sc_law_spoilt.nd rfl (.inl rfl) (pv 4))
  (Evl.pss_cut (ps_if (PW.pt (pw_and (pt_cmpR op_eq (pe_op op_mod (pv 2) pe_int) pe_int (nomark _)) (pw_and1 (pt_cmpR op_gt (pv 4) pe_int (nomark _)))))
  (pss_one (ps_set (i := 5) sc_law_spoilt.nd rfl (.inl rfl) (pe_op op_add (pe_ix ix_list (pv 3) (pe_op op_sub (pv 4) pe_int) (fun _ _ => rfl)) pe_int)))
  pss_nil)
  (Evl.pss_cut (ps_if (pt_cmpR op_eq (pe_op op_mod (pv 2) pe_int) pe_int (nomark _))
  (pss_one (ps_set (i := 5) sc_law_spoilt.nd rfl (.inl rfl) pe_int))
  pss_nil)
  (Evl.pss_cut (ps_if (pt_cmpR op_eq (pe_op op_mod (pv 2) pe_int) pe_int (nomark _))
  (pss_one (ps_set (i := 5) sc_law_spoilt.nd rfl (.inl rfl) (pe_op op_sub (pe_cst (pe_op op_sub pe_int pe_int) fun _ _ _ h => ⟨_, _, rfl, rfl, h⟩) (pe_op op_mod (pe_op op_fdiv (pv 2) pe_int) (pe_cst (pe_op op_pow pe_int pe_int) fun _ _ _ h => ⟨_, _, rfl, rfl, ⟨by decide, by decide, by decide⟩, h⟩)))))
  pss_nil)
  (Evl.pss_cut (ps_if (pt_cmpR op_eq (pe_op op_mod (pv 2) pe_int) pe_int (nomark _))
  (pss_one (ps_set (i := 5) sc_law_spoilt.nd rfl (.inl rfl) (pe_op op_mod (pe_op op_fdiv (pv 2) pe_int) (pe_cst (pe_op op_pow pe_int pe_int) fun _ _ _ h => ⟨_, _, rfl, rfl, ⟨by decide, by decide, by decide⟩, h⟩))))
  pss_nil)
  (pss_one (ps_ret (pe_op op_cat (pe_op op_cat (pe_slice sl_list (pv 3) po_none (po_some (pv 4))) (pe_lst (pa_cons (pv 5) pa_nil))) (pe_slice sl_list (pv 3) (po_some (pv 4)) po_none))))))))))))))

theorem ok_law_due (T : Tx P w K mg base) : Okf P w K mg base CX0 1 "_law_due" ["_law_depths_here"] (sp_law_due K) := by
  obtain ⟨fd, FD⟩ := T.d_law_due
  refine ⟨⟨fd, FunD.look FD, FD.bindsN fun _ _ _ _ _ _ us hl => match us, hl with | [_], _ => rfl, ?_⟩, FD.kp, T.g_law_due⟩
  refine FunD.ok (CX := CX0) FD sc_law_due (len_law_due K) (fun cdv A outer s H vs Q E hr h => ⟨t_law_due K, PSs.nox ?_, rd_law_due K vs H Q E h⟩)
  exact (pss_cons (ps_if (pt_cmpR op_gt (pe_callB call_lenK (by rfl) T.b_len (by decide +kernel) (pa_cons (pv 0) pa_nil)) pe_int (nomark _))
  (pss_one (ps_ret (pe_lst (pa_cons pe_int (pa_cons pe_bl (pa_cons pe_bl (pa_cons pe_bl pa_nil)))))))
  pss_nil)
  (pss_cons (ps_if (PW.pt (pw_or (pt_cmpR op_eq (pe_callB call_lenK (by rfl) T.b_len (by decide +kernel) (pa_cons (pv 0) pa_nil)) pe_int (nomark _)) (pw_or1 (pt_cmpR op_ne (pe_ix ix_list (pv 0) pe_int (fun _ _ => rfl)) pe_int (nomark _)))))
  (pss_one (ps_ret (pe_lst (pa_cons pe_int (pa_cons pe_bl (pa_cons pe_bl (pa_cons pe_bl pa_nil)))))))
  pss_nil)
  (pss_cons (ps_for PassesOwn.never rfl (pi_range2 (by rfl) T.b_range (pa_cons pe_int (pa_cons (pe_callB call_lenK (by rfl) T.b_len (by decide +kernel) (pa_cons (pv 0) pa_nil)) pa_nil))) (pg_name (i := 1) sc_law_due.nd rfl (.inl rfl))
  (pss_one (ps_if (PW.pt (pw_or (pt_cmpR op_lt (pe_ix ix_list (pv 0) (pv 1) (fun _ _ => rfl)) pe_int (nomark _)) (pw_or1 (pt_cmpR op_gt (pe_ix ix_list (pv 0) (pv 1) (fun _ _ => rfl)) (pe_op op_add (pe_ix ix_list (pv 0) (pe_op op_sub (pv 1) pe_int) (fun _ _ => rfl)) pe_int) (nomark _)))))
  (pss_one (ps_ret (pe_lst (pa_cons pe_int (pa_cons pe_bl (pa_cons pe_bl (pa_cons pe_bl pa_nil)))))))
  pss_nil)))
  (pss_one (ps_ret (pe_lst (pa_cons pe_int (pa_cons pe_bl (pa_cons pe_bl (pa_cons pe_bl pa_nil))))))))))

theorem ok_law_told (T : Tx P w K mg base) (o_brackets_of : Okf P w K mg base (L2.CX P w) 2 "brackets_of" ["depths"] (sp_brackets_of K)) : Okf P w K mg base CX0 3 "_law_told" ["_law_depths_here"] (sp_law_told K) := by
  obtain ⟨fd, FD⟩ := T.d_law_told
  refine ⟨⟨fd, FunD.look FD, FD.bindsN fun _ _ _ _ _ _ us hl => match us, hl with | [_], _ => rfl, ?_⟩, FD.kp, T.g_law_told⟩
  refine FunD.ok (CX := CX0) FD sc_law_told (len_law_told K) (fun cdv A outer s H vs Q E hr h => ⟨t_law_told K, PSs.nox ?_, rd_law_told K T.fx vs H Q E h⟩)
  exact (pss_cons (ps_set (i := 1) sc_law_told.nd rfl (.inl rfl) (pe_lst pa_nil))
  (pss_cons (ps_set (i := 2) sc_law_told.nd rfl (.inl rfl) (pe_lst (pa_cons pe_int (pa_cons pe_bl (pa_cons pe_bl (pa_cons pe_bl pa_nil))))))
  (pss_cons (ps_tryManyA (tb := fun W => (tAsg (tCallS (sp_brackets_of K) (WE W) (tCons (tVar 0) tNil)) (gName 1))) (l := [(.ref (He.ga K "TooMany"), 3, fun a cls d => (tSeq (tAsg (tCB (rIsXT K cls d a) (tCons (tVar 3) (tCons (tTup (tCons (tC (.ref (He.ga K "NoTree"))) (tCons (tC (.ref (He.ga K "NoBit"))) (tCons (tC (.ref (He.ga K "NoPlace"))) (tCons (tC (.ref (He.ga K "NoNode"))) (tCons (tC (.ref (He.ga K "NoSign"))) (tCons (tC (.ref (He.ga K "NoWord"))) (tCons (tC (.ref (He.ga K "Twice"))) (tCons (tC (.ref (He.ga K "NoOctets"))) tNil))))))))) tNil))) (gName 4))
  (tAsg (tLst (tCons (tC (.int 1)) (tCons (tCB (rIsX K cls d a) (tCons (tVar 3) (tCons (tC (.ref (He.ga K "WoodError"))) tNil))) (tCons (tCB (rIsX K cls d a) (tCons (tVar 3) (tCons (tC (.ty "ValueError")) tNil))) (tCons (tVar 4) tNil))))) (gName 2)))), (.ref (He.ga K "NoTree"), 3, fun a cls d => (tSeq (tAsg (tCB (rIsXT K cls d a) (tCons (tVar 3) (tCons (tTup (tCons (tC (.ref (He.ga K "TooMany"))) (tCons (tC (.ref (He.ga K "NoBit"))) (tCons (tC (.ref (He.ga K "NoPlace"))) (tCons (tC (.ref (He.ga K "NoNode"))) (tCons (tC (.ref (He.ga K "NoSign"))) (tCons (tC (.ref (He.ga K "NoWord"))) (tCons (tC (.ref (He.ga K "Twice"))) (tCons (tC (.ref (He.ga K "NoOctets"))) tNil))))))))) tNil))) (gName 4))
  (tAsg (tLst (tCons (tC (.int 2)) (tCons (tCB (rIsX K cls d a) (tCons (tVar 3) (tCons (tC (.ref (He.ga K "WoodError"))) tNil))) (tCons (tCB (rIsX K cls d a) (tCons (tVar 3) (tCons (tC (.ty "ValueError")) tNil))) (tCons (tVar 4) tNil))))) (gName 2))))]) (Wout := (fun _ _ _ _ => False)) rfl rfl sc_law_told.nd takes0 (fun W pn xe tk po => (pss_one (ps_set (i := 1) sc_law_told.nd rfl (.inl rfl) (pe_callFS o_brackets_of hr (by decide) (by rfl) tk (pa_cons (pv 0) pa_nil))))) (HdsA.cons (i := 3) (ts := fun a cls d => (tSeq (tAsg (tCB (rIsXT K cls d a) (tCons (tVar 3) (tCons (tTup (tCons (tC (.ref (He.ga K "NoTree"))) (tCons (tC (.ref (He.ga K "NoBit"))) (tCons (tC (.ref (He.ga K "NoPlace"))) (tCons (tC (.ref (He.ga K "NoNode"))) (tCons (tC (.ref (He.ga K "NoSign"))) (tCons (tC (.ref (He.ga K "NoWord"))) (tCons (tC (.ref (He.ga K "Twice"))) (tCons (tC (.ref (He.ga K "NoOctets"))) tNil))))))))) tNil))) (gName 4))
  (tAsg (tLst (tCons (tC (.int 1)) (tCons (tCB (rIsX K cls d a) (tCons (tVar 3) (tCons (tC (.ref (He.ga K "WoodError"))) tNil))) (tCons (tCB (rIsX K cls d a) (tCons (tVar 3) (tCons (tC (.ty "ValueError")) tNil))) (tCons (tVar 4) tNil))))) (gName 2)))) rfl rfl ⟨rfl, by decide, .inl T.g_TooMany⟩ (fun a oe cls d pn hz hf => (pss_cons (ps_set (i := 4) sc_law_told.nd rfl (.inl rfl) (pe_callB (call_isXT hz hf) (by rfl) T.b_isinstance (by decide +kernel) (pa_cons (pv 3) (pa_cons (pe_tup (pa_cons (pe_glob (by rfl) T.g_NoTree rfl) (pa_cons (pe_glob (by rfl) T.g_NoBit rfl) (pa_cons (pe_glob (by rfl) T.g_NoPlace rfl) (pa_cons (pe_glob (by rfl) T.g_NoNode rfl) (pa_cons (pe_glob (by rfl) T.g_NoSign rfl) (pa_cons (pe_glob (by rfl) T.g_NoWord rfl) (pa_cons (pe_glob (by rfl) T.g_Twice rfl) (pa_cons (pe_glob (by rfl) T.g_NoOctets rfl) pa_nil))))))))) pa_nil))))
  (pss_one (ps_set (i := 2) sc_law_told.nd rfl (.inl rfl) (pe_lst (pa_cons pe_int (pa_cons (pe_callB (call_isX hz hf) (by rfl) T.b_isinstance (by decide +kernel) (pa_cons (pv 3) (pa_cons (pe_glob (by rfl) T.g_WoodError rfl) pa_nil))) (pa_cons (pe_callB (call_isX hz hf) (by rfl) T.b_isinstance (by decide +kernel) (pa_cons (pv 3) (pa_cons (pe_bltn (v := .ty "ValueError") (by rfl) T.b_ValueError (by decide +kernel) rfl) pa_nil))) (pa_cons (pv 4) pa_nil))))))))) (HdsA.cons (i := 3) (ts := fun a cls d => (tSeq (tAsg (tCB (rIsXT K cls d a) (tCons (tVar 3) (tCons (tTup (tCons (tC (.ref (He.ga K "TooMany"))) (tCons (tC (.ref (He.ga K "NoBit"))) (tCons (tC (.ref (He.ga K "NoPlace"))) (tCons (tC (.ref (He.ga K "NoNode"))) (tCons (tC (.ref (He.ga K "NoSign"))) (tCons (tC (.ref (He.ga K "NoWord"))) (tCons (tC (.ref (He.ga K "Twice"))) (tCons (tC (.ref (He.ga K "NoOctets"))) tNil))))))))) tNil))) (gName 4))
  (tAsg (tLst (tCons (tC (.int 2)) (tCons (tCB (rIsX K cls d a) (tCons (tVar 3) (tCons (tC (.ref (He.ga K "WoodError"))) tNil))) (tCons (tCB (rIsX K cls d a) (tCons (tVar 3) (tCons (tC (.ty "ValueError")) tNil))) (tCons (tVar 4) tNil))))) (gName 2)))) rfl rfl ⟨rfl, by decide, .inl T.g_NoTree⟩ (fun a oe cls d pn hz hf => (pss_cons (ps_set (i := 4) sc_law_told.nd rfl (.inl rfl) (pe_callB (call_isXT hz hf) (by rfl) T.b_isinstance (by decide +kernel) (pa_cons (pv 3) (pa_cons (pe_tup (pa_cons (pe_glob (by rfl) T.g_TooMany rfl) (pa_cons (pe_glob (by rfl) T.g_NoBit rfl) (pa_cons (pe_glob (by rfl) T.g_NoPlace rfl) (pa_cons (pe_glob (by rfl) T.g_NoNode rfl) (pa_cons (pe_glob (by rfl) T.g_NoSign rfl) (pa_cons (pe_glob (by rfl) T.g_NoWord rfl) (pa_cons (pe_glob (by rfl) T.g_Twice rfl) (pa_cons (pe_glob (by rfl) T.g_NoOctets rfl) pa_nil))))))))) pa_nil))))
  (pss_one (ps_set (i := 2) sc_law_told.nd rfl (.inl rfl) (pe_lst (pa_cons pe_int (pa_cons (pe_callB (call_isX hz hf) (by rfl) T.b_isinstance (by decide +kernel) (pa_cons (pv 3) (pa_cons (pe_glob (by rfl) T.g_WoodError rfl) pa_nil))) (pa_cons (pe_callB (call_isX hz hf) (by rfl) T.b_isinstance (by decide +kernel) (pa_cons (pv 3) (pa_cons (pe_bltn (v := .ty "ValueError") (by rfl) T.b_ValueError (by decide +kernel) rfl) pa_nil))) (pa_cons (pv 4) pa_nil))))))))) HdsA.nil)))
  (pss_cons (ps_if (PW.pt (pw_and (pt_cmpR op_eq (pe_ix ix_list (pv 2) pe_int (fun _ _ => rfl)) pe_int (nomark _)) (pw_and1 (PW.pt (pw_or (pt_not (pt_val (pe_callB call_isB (by rfl) T.b_isinstance (by decide +kernel) (pa_cons (pv 1) (pa_cons (pe_bltn (v := .ty "list") (by rfl) T.b_list (by decide +kernel) rfl) pa_nil))))) (pw_or1 (pt_cmpR op_ne (pe_callB call_lenK (by rfl) T.b_len (by decide +kernel) (pa_cons (pv 1) pa_nil)) (pe_op op_mul pe_int (pe_callB call_lenK (by rfl) T.b_len (by decide +kernel) (pa_cons (pv 0) pa_nil))) (nomark _))))))))
  (pss_one (ps_ret (pe_lst pa_nil)))
  pss_nil)
  (pss_one (ps_ret (pv 2)))))))

theorem ok_law (T : Tx P w K mg base) (o_law_depths : Okf P w K mg base CX0 2 "_law_depths" ["_law_script"] (sp_law_depths K)) (o_law_spoilt : Okf P w K mg base CX0 1 "_law_spoilt" ["_law_depths_here", "_law_cell"] (sp_law_spoilt K)) (o_law_cell_at : Okf P w K mg base CX0 1 "_law_cell_at" ["_law_script", "_law_k"] (sp_law_cell_at K)) (o_law_told : Okf P w K mg base CX0 3 "_law_told" ["_law_depths_here"] (sp_law_told K)) (o_law_due : Okf P w K mg base CX0 1 "_law_due" ["_law_depths_here"] (sp_law_due K)) : Okf P w K mg base CX0 4 "law" ["_law_script"] (sp_law K) := by
  obtain ⟨fd, FD⟩ := T.d_law
  refine ⟨⟨fd, FunD.look FD, FD.bindsN fun _ _ _ _ _ _ us hl => match us, hl with | [_], _ => rfl, ?_⟩, FD.kp, T.g_law⟩
  refine FunD.ok (CX := CX0) FD sc_law (len_law K) (fun cdv A outer s H vs Q E hr h => ⟨t_law K, PSs.nox ?_, rd_law K T.fx vs H Q E h⟩)
  exact (pss_cons (ps_set (i := 1) sc_law.nd rfl (.inl rfl) (pe_callF o_law_depths hr (by decide) (by rfl) pass0 (pa_cons (pv 0) pa_nil)))
  (pss_cons (ps_set (i := 2) sc_law.nd rfl (.inl rfl) (pe_callF o_law_spoilt hr (by decide) (by rfl) pass0 (pa_cons (pv 1) (pa_cons (pe_callF o_law_cell_at hr (by decide) (by rfl) pass0 (pa_cons (pv 0) (pa_cons pe_int pa_nil))) pa_nil))))
  (pss_cons (ps_set (i := 2) sc_law.nd rfl (.inl rfl) (pe_callF o_law_spoilt hr (by decide) (by rfl) pass0 (pa_cons (pv 2) (pa_cons (pe_callF o_law_cell_at hr (by decide) (by rfl) pass0 (pa_cons (pv 0) (pa_cons pe_int pa_nil))) pa_nil))))
  (Evl.pss_cut (ps_if (pt_cmpR op_eq (pe_op op_mod (pe_callF o_law_cell_at hr (by decide) (by rfl) pass0 (pa_cons (pv 0) (pa_cons pe_int pa_nil))) pe_int) pe_int (nomark _))
  (pss_one (ps_set (i := 2) sc_law.nd rfl (.inl rfl) (pe_lst pa_nil)))
  pss_nil)
  (pss_cons (ps_for PassesOwn.never rfl (pi_list (pe_lst (pa_cons (pv 2) (pa_cons (pv 1) (pa_cons (pv 2) pa_nil))))) (pg_name (i := 3) sc_law.nd rfl (.inl rfl))
  (pss_cons (ps_set (i := 4) sc_law.nd rfl (.inl rfl) (pe_callTy call_listK (by rfl) T.b_list (by decide +kernel) (pa_cons (pv 3) pa_nil)))
  (pss_one (ps_if (PW.pt (pw_or (pt_cmpR (op_neD hr.units) (pe_callF o_law_told hr (by decide) (by rfl) pass0 (pa_cons (pv 4) pa_nil)) (pe_callF o_law_due hr (by decide) (by rfl) pass0 (pa_cons (pv 3) pa_nil)) (nomark _)) (pw_or1 (pt_cmpR (op_neD hr.units) (pv 4) (pv 3) (nomark _)))))
  (pss_one (ps_ret pe_bl))
  pss_nil))))
  (pss_one (ps_ret pe_bl)))))))
end
def dd_brackets_of : He.DefD := ⟨("brackets_of", none), "brackets_of", "brackets_of", defArgs s_brackets_of, defBody s_brackets_of, defScope s_brackets_of, [], []⟩
def dd_law_cell_at : He.DefD := ⟨("_law_cell_at", none), "_law_cell_at", "_law_cell_at", defArgs s_law_cell_at, defBody s_law_cell_at, defScope s_law_cell_at, [], []⟩
def dd_law_depths : He.DefD := ⟨("_law_depths", none), "_law_depths", "_law_depths", defArgs s_law_depths, defBody s_law_depths, defScope s_law_depths, [], []⟩
def dd_law_spoilt : He.DefD := ⟨("_law_spoilt", none), "_law_spoilt", "_law_spoilt", defArgs s_law_spoilt, defBody s_law_spoilt, defScope s_law_spoilt, [], []⟩
def dd_law_due : He.DefD := ⟨("_law_due", none), "_law_due", "_law_due", defArgs s_law_due, defBody s_law_due, defScope s_law_due, [], []⟩
def dd_law_told : He.DefD := ⟨("_law_told", none), "_law_told", "_law_told", defArgs s_law_told, defBody s_law_told, defScope s_law_told, [], []⟩
def dd_law : He.DefD := ⟨("law", none), "law", "law", defArgs s_law, defBody s_law, defScope s_law, [], []⟩
def fnL : List He.DefD := [dd_brackets_of, dd_law_cell_at, dd_law_depths, dd_law_spoilt, dd_law_due, dd_law_told, dd_law]
def fxL : List Fx := [.excC "NoBit", .kitT "NoBit" "ValueError" true, .kit "NoBit" "NoBit" true, .exm "NoBit" "NoBit" true, .kit "NoBit" "NoNode" false, .exm "NoBit" "NoNode" false, .kit "NoBit" "NoOctets" false, .exm "NoBit" "NoOctets" false, .kit "NoBit" "NoPlace" false, .exm "NoBit" "NoPlace" false, .kit "NoBit" "NoSign" false, .exm "NoBit" "NoSign" false, .kit "NoBit" "NoTree" false, .exm "NoBit" "NoTree" false, .kit "NoBit" "NoWord" false, .exm "NoBit" "NoWord" false, .kit "NoBit" "TooMany" false, .exm "NoBit" "TooMany" false, .kit "NoBit" "Twice" false, .exm "NoBit" "Twice" false, .kit "NoBit" "WoodError" true, .exm "NoBit" "WoodError" true, .excC "NoNode", .kitT "NoNode" "ValueError" true, .kit "NoNode" "NoBit" false, .exm "NoNode" "NoBit" false, .kit "NoNode" "NoNode" true, .exm "NoNode" "NoNode" true, .kit "NoNode" "NoOctets" false, .exm "NoNode" "NoOctets" false, .kit "NoNode" "NoPlace" false, .exm "NoNode" "NoPlace" false, .kit "NoNode" "NoSign" false, .exm "NoNode" "NoSign" false, .kit "NoNode" "NoTree" false, .exm "NoNode" "NoTree" false, .kit "NoNode" "NoWord" false, .exm "NoNode" "NoWord" false, .kit "NoNode" "TooMany" false, .exm "NoNode" "TooMany" false, .kit "NoNode" "Twice" false, .exm "NoNode" "Twice" false, .kit "NoNode" "WoodError" true, .exm "NoNode" "WoodError" true, .excC "NoOctets", .kitT "NoOctets" "ValueError" true, .kit "NoOctets" "NoBit" false, .exm "NoOctets" "NoBit" false, .kit "NoOctets" "NoNode" false, .exm "NoOctets" "NoNode" false, .kit "NoOctets" "NoOctets" true, .exm "NoOctets" "NoOctets" true, .kit "NoOctets" "NoPlace" false, .exm "NoOctets" "NoPlace" false, .kit "NoOctets" "NoSign" false, .exm "NoOctets" "NoSign" false, .kit "NoOctets" "NoTree" false, .exm "NoOctets" "NoTree" false, .kit "NoOctets" "NoWord" false, .exm "NoOctets" "NoWord" false, .kit "NoOctets" "TooMany" false, .exm "NoOctets" "TooMany" false, .kit "NoOctets" "Twice" false, .exm "NoOctets" "Twice" false, .kit "NoOctets" "WoodError" true, .exm "NoOctets" "WoodError" true, .excC "NoPlace", .kitT "NoPlace" "ValueError" true, .kit "NoPlace" "NoBit" false, .exm "NoPlace" "NoBit" false, .kit "NoPlace" "NoNode" false, .exm "NoPlace" "NoNode" false, .kit "NoPlace" "NoOctets" false, .exm "NoPlace" "NoOctets" false, .kit "NoPlace" "NoPlace" true, .exm "NoPlace" "NoPlace" true, .kit "NoPlace" "NoSign" false, .exm "NoPlace" "NoSign" false, .kit "NoPlace" "NoTree" false, .exm "NoPlace" "NoTree" false, .kit "NoPlace" "NoWord" false, .exm "NoPlace" "NoWord" false, .kit "NoPlace" "TooMany" false, .exm "NoPlace" "TooMany" false, .kit "NoPlace" "Twice" false, .exm "NoPlace" "Twice" false, .kit "NoPlace" "WoodError" true, .exm "NoPlace" "WoodError" true, .excC "NoSign", .kitT "NoSign" "ValueError" true, .kit "NoSign" "NoBit" false, .exm "NoSign" "NoBit" false, .kit "NoSign" "NoNode" false, .exm "NoSign" "NoNode" false, .kit "NoSign" "NoOctets" false, .exm "NoSign" "NoOctets" false, .kit "NoSign" "NoPlace" false, .exm "NoSign" "NoPlace" false, .kit "NoSign" "NoSign" true, .exm "NoSign" "NoSign" true, .kit "NoSign" "NoTree" false, .exm "NoSign" "NoTree" false, .kit "NoSign" "NoWord" false, .exm "NoSign" "NoWord" false, .kit "NoSign" "TooMany" false, .exm "NoSign" "TooMany" false, .kit "NoSign" "Twice" false, .exm "NoSign" "Twice" false, .kit "NoSign" "WoodError" true, .exm "NoSign" "WoodError" true, .excC "NoTree", .kitT "NoTree" "ValueError" true, .kit "NoTree" "NoBit" false, .exm "NoTree" "NoBit" false, .kit "NoTree" "NoNode" false, .exm "NoTree" "NoNode" false, .kit "NoTree" "NoOctets" false, .exm "NoTree" "NoOctets" false, .kit "NoTree" "NoPlace" false, .exm "NoTree" "NoPlace" false, .kit "NoTree" "NoSign" false, .exm "NoTree" "NoSign" false, .kit "NoTree" "NoTree" true, .exm "NoTree" "NoTree" true, .kit "NoTree" "NoWord" false, .exm "NoTree" "NoWord" false, .kit "NoTree" "TooMany" false, .exm "NoTree" "TooMany" false, .kit "NoTree" "Twice" false, .exm "NoTree" "Twice" false, .kit "NoTree" "WoodError" true, .exm "NoTree" "WoodError" true, .excC "NoWord", .kitT "NoWord" "ValueError" true, .kit "NoWord" "NoBit" false, .exm "NoWord" "NoBit" false, .kit "NoWord" "NoNode" false, .exm "NoWord" "NoNode" false, .kit "NoWord" "NoOctets" false, .exm "NoWord" "NoOctets" false, .kit "NoWord" "NoPlace" false, .exm "NoWord" "NoPlace" false, .kit "NoWord" "NoSign" false, .exm "NoWord" "NoSign" false, .kit "NoWord" "NoTree" false, .exm "NoWord" "NoTree" false, .kit "NoWord" "NoWord" true, .exm "NoWord" "NoWord" true, .kit "NoWord" "TooMany" false, .exm "NoWord" "TooMany" false, .kit "NoWord" "Twice" false, .exm "NoWord" "Twice" false, .kit "NoWord" "WoodError" true, .exm "NoWord" "WoodError" true, .excC "TooMany", .kitT "TooMany" "ValueError" true, .kit "TooMany" "NoBit" false, .exm "TooMany" "NoBit" false, .kit "TooMany" "NoNode" false, .exm "TooMany" "NoNode" false, .kit "TooMany" "NoOctets" false, .exm "TooMany" "NoOctets" false, .kit "TooMany" "NoPlace" false, .exm "TooMany" "NoPlace" false, .kit "TooMany" "NoSign" false, .exm "TooMany" "NoSign" false, .kit "TooMany" "NoTree" false, .exm "TooMany" "NoTree" false, .kit "TooMany" "NoWord" false, .exm "TooMany" "NoWord" false, .kit "TooMany" "TooMany" true, .exm "TooMany" "TooMany" true, .kit "TooMany" "Twice" false, .exm "TooMany" "Twice" false, .kit "TooMany" "WoodError" true, .exm "TooMany" "WoodError" true, .excC "Twice", .kitT "Twice" "ValueError" true, .kit "Twice" "NoBit" false, .exm "Twice" "NoBit" false, .kit "Twice" "NoNode" false, .exm "Twice" "NoNode" false, .kit "Twice" "NoOctets" false, .exm "Twice" "NoOctets" false, .kit "Twice" "NoPlace" false, .exm "Twice" "NoPlace" false, .kit "Twice" "NoSign" false, .exm "Twice" "NoSign" false, .kit "Twice" "NoTree" false, .exm "Twice" "NoTree" false, .kit "Twice" "NoWord" false, .exm "Twice" "NoWord" false, .kit "Twice" "TooMany" false, .exm "Twice" "TooMany" false, .kit "Twice" "Twice" true, .exm "Twice" "Twice" true, .kit "Twice" "WoodError" true, .exm "Twice" "WoodError" true, .excC "WoodError", .kitT "WoodError" "ValueError" true, .kit "WoodError" "NoBit" false, .exm "WoodError" "NoBit" false, .kit "WoodError" "NoNode" false, .exm "WoodError" "NoNode" false, .kit "WoodError" "NoOctets" false, .exm "WoodError" "NoOctets" false, .kit "WoodError" "NoPlace" false, .exm "WoodError" "NoPlace" false, .kit "WoodError" "NoSign" false, .exm "WoodError" "NoSign" false, .kit "WoodError" "NoTree" false, .exm "WoodError" "NoTree" false, .kit "WoodError" "NoWord" false, .exm "WoodError" "NoWord" false, .kit "WoodError" "TooMany" false, .exm "WoodError" "TooMany" false, .kit "WoodError" "Twice" false, .exm "WoodError" "Twice" false, .kit "WoodError" "WoodError" true, .exm "WoodError" "WoodError" true]
def faL : List He.Fa := [.glo "brackets_of", .glo "_law_cell_at", .glo "_law_depths", .glo "_law_spoilt", .glo "_law_due", .glo "_law_told", .glo "law", .free "ValueError", .free "isinstance", .free "len", .free "list", .free "range", .free "zip", .int "MOST" 4096, .exc "NoBit", .exc "NoNode", .exc "NoOctets", .exc "NoPlace", .exc "NoSign", .exc "NoTree", .exc "NoWord", .exc "TooMany", .exc "Twice", .exc "WoodError", .glo "NoBit", .glo "NoNode", .glo "NoOctets", .glo "NoPlace", .glo "NoSign", .glo "NoTree", .glo "NoWord", .glo "TooMany", .glo "Twice", .glo "WoodError"]
abbrev R : PySem.W.OpenRow := PySem.W.OpenLaw.row PySem.Challenge.rw_thinwood_k41_depths_refused
abbrev hk : PySem.W.Hook := hookF 4 faL fnL fxL
def ob (s : PySem.W.SharedT) : AlF := obsFG 4 faL fnL fxL (HandSHeadRun.getT s)
theorem ob_eq (s : PySem.W.SharedT) : ob s = hk.obs s.abs := obsFG_eq (HandSHeadRun.getT_eq s)
def looseL : List PySem.Str := (["WoodError", "TooMany", "NoBit", "NoPlace", "NoNode", "NoTree", "NoSign", "NoWord", "Twice", "NoOctets", "MOST", "brackets_of", "_law_cell_at", "_law_depths", "_law_spoilt", "_law_due", "_law_told"] : List PySem.Str)
theorem run (w : World) : HandSHeadRun.RunEq R (PySem.W.view R.prog [20]) hk ob 20000 looseL w := by
  intro os
  kernel_rfl
theorem tx_of {P : Program} {w : World} {K : PySem.W.Frag} {h : Heap} {mg : Str → Option Value} (X : K.In h) (G : h.Ns mainGlobals mg) (c2 : SaysF faL fnL fxL K) (base : Heap) : Tx P w K mg base :=
  have c := SaysF.d c2
  {
  d_brackets_of := c.def_ 0 (d := dd_brackets_of) rfl
  g_brackets_of := He.glo_ok X G (c.fact 0 (f := .glo "brackets_of") rfl)
  d_law_cell_at := c.def_ 1 (d := dd_law_cell_at) rfl
  g_law_cell_at := He.glo_ok X G (c.fact 1 (f := .glo "_law_cell_at") rfl)
  d_law_depths := c.def_ 2 (d := dd_law_depths) rfl
  g_law_depths := He.glo_ok X G (c.fact 2 (f := .glo "_law_depths") rfl)
  d_law_spoilt := c.def_ 3 (d := dd_law_spoilt) rfl
  g_law_spoilt := He.glo_ok X G (c.fact 3 (f := .glo "_law_spoilt") rfl)
  d_law_due := c.def_ 4 (d := dd_law_due) rfl
  g_law_due := He.glo_ok X G (c.fact 4 (f := .glo "_law_due") rfl)
  d_law_told := c.def_ 5 (d := dd_law_told) rfl
  g_law_told := He.glo_ok X G (c.fact 5 (f := .glo "_law_told") rfl)
  d_law := c.def_ 6 (d := dd_law) rfl
  g_law := He.glo_ok X G (c.fact 6 (f := .glo "law") rfl)
  b_ValueError := He.free_ok X G (c.fact 7 (f := .free "ValueError") rfl)
  b_isinstance := He.free_ok X G (c.fact 8 (f := .free "isinstance") rfl)
  b_len := He.free_ok X G (c.fact 9 (f := .free "len") rfl)
  b_list := He.free_ok X G (c.fact 10 (f := .free "list") rfl)
  b_range := He.free_ok X G (c.fact 11 (f := .free "range") rfl)
  b_zip := He.free_ok X G (c.fact 12 (f := .free "zip") rfl)
  i_MOST := He.int_ok X G (c.fact 13 (f := .int "MOST" 4096) rfl)
  x_NoBit := (fun q => ⟨He.glo_ok X G (c.fact 24 (f := .glo "NoBit") rfl), q.1, q.2.1, q.2.2.1, q.2.2.2⟩) (He.exc_ok (c.fact 14 (f := .exc "NoBit") rfl))
  g_NoBit := He.glo_ok X G (c.fact 24 (f := .glo "NoBit") rfl)
  x_NoNode := (fun q => ⟨He.glo_ok X G (c.fact 25 (f := .glo "NoNode") rfl), q.1, q.2.1, q.2.2.1, q.2.2.2⟩) (He.exc_ok (c.fact 15 (f := .exc "NoNode") rfl))
  g_NoNode := He.glo_ok X G (c.fact 25 (f := .glo "NoNode") rfl)
  x_NoOctets := (fun q => ⟨He.glo_ok X G (c.fact 26 (f := .glo "NoOctets") rfl), q.1, q.2.1, q.2.2.1, q.2.2.2⟩) (He.exc_ok (c.fact 16 (f := .exc "NoOctets") rfl))
  g_NoOctets := He.glo_ok X G (c.fact 26 (f := .glo "NoOctets") rfl)
  x_NoPlace := (fun q => ⟨He.glo_ok X G (c.fact 27 (f := .glo "NoPlace") rfl), q.1, q.2.1, q.2.2.1, q.2.2.2⟩) (He.exc_ok (c.fact 17 (f := .exc "NoPlace") rfl))
  g_NoPlace := He.glo_ok X G (c.fact 27 (f := .glo "NoPlace") rfl)
  x_NoSign := (fun q => ⟨He.glo_ok X G (c.fact 28 (f := .glo "NoSign") rfl), q.1, q.2.1, q.2.2.1, q.2.2.2⟩) (He.exc_ok (c.fact 18 (f := .exc "NoSign") rfl))
  g_NoSign := He.glo_ok X G (c.fact 28 (f := .glo "NoSign") rfl)
  x_NoTree := (fun q => ⟨He.glo_ok X G (c.fact 29 (f := .glo "NoTree") rfl), q.1, q.2.1, q.2.2.1, q.2.2.2⟩) (He.exc_ok (c.fact 19 (f := .exc "NoTree") rfl))
  g_NoTree := He.glo_ok X G (c.fact 29 (f := .glo "NoTree") rfl)
  x_NoWord := (fun q => ⟨He.glo_ok X G (c.fact 30 (f := .glo "NoWord") rfl), q.1, q.2.1, q.2.2.1, q.2.2.2⟩) (He.exc_ok (c.fact 20 (f := .exc "NoWord") rfl))
  g_NoWord := He.glo_ok X G (c.fact 30 (f := .glo "NoWord") rfl)
  x_TooMany := (fun q => ⟨He.glo_ok X G (c.fact 31 (f := .glo "TooMany") rfl), q.1, q.2.1, q.2.2.1, q.2.2.2⟩) (He.exc_ok (c.fact 21 (f := .exc "TooMany") rfl))
  g_TooMany := He.glo_ok X G (c.fact 31 (f := .glo "TooMany") rfl)
  x_Twice := (fun q => ⟨He.glo_ok X G (c.fact 32 (f := .glo "Twice") rfl), q.1, q.2.1, q.2.2.1, q.2.2.2⟩) (He.exc_ok (c.fact 22 (f := .exc "Twice") rfl))
  g_Twice := He.glo_ok X G (c.fact 32 (f := .glo "Twice") rfl)
  x_WoodError := (fun q => ⟨He.glo_ok X G (c.fact 33 (f := .glo "WoodError") rfl), q.1, q.2.1, q.2.2.1, q.2.2.2⟩) (He.exc_ok (c.fact 23 (f := .exc "WoodError") rfl))
  g_WoodError := He.glo_ok X G (c.fact 33 (f := .glo "WoodError") rfl)
  fx := {
    ec_NoBit := Fx.excC_ok (SaysF.fx c2 0 (f := .excC "NoBit") rfl)
    kt_NoBit := Fx.kitT_ok (SaysF.fx c2 1 (f := .kitT "NoBit" "ValueError" true) rfl)
    k_NoBit_NoBit := Fx.kit_ok (SaysF.fx c2 2 (f := .kit "NoBit" "NoBit" true) rfl)
    e_NoBit_NoBit := Fx.exm_ok (SaysF.fx c2 3 (f := .exm "NoBit" "NoBit" true) rfl)
    k_NoBit_NoNode := Fx.kit_ok (SaysF.fx c2 4 (f := .kit "NoBit" "NoNode" false) rfl)
    e_NoBit_NoNode := Fx.exm_ok (SaysF.fx c2 5 (f := .exm "NoBit" "NoNode" false) rfl)
    k_NoBit_NoOctets := Fx.kit_ok (SaysF.fx c2 6 (f := .kit "NoBit" "NoOctets" false) rfl)
    e_NoBit_NoOctets := Fx.exm_ok (SaysF.fx c2 7 (f := .exm "NoBit" "NoOctets" false) rfl)
    k_NoBit_NoPlace := Fx.kit_ok (SaysF.fx c2 8 (f := .kit "NoBit" "NoPlace" false) rfl)
    e_NoBit_NoPlace := Fx.exm_ok (SaysF.fx c2 9 (f := .exm "NoBit" "NoPlace" false) rfl)
    k_NoBit_NoSign := Fx.kit_ok (SaysF.fx c2 10 (f := .kit "NoBit" "NoSign" false) rfl)
    e_NoBit_NoSign := Fx.exm_ok (SaysF.fx c2 11 (f := .exm "NoBit" "NoSign" false) rfl)
    k_NoBit_NoTree := Fx.kit_ok (SaysF.fx c2 12 (f := .kit "NoBit" "NoTree" false) rfl)
    e_NoBit_NoTree := Fx.exm_ok (SaysF.fx c2 13 (f := .exm "NoBit" "NoTree" false) rfl)
    k_NoBit_NoWord := Fx.kit_ok (SaysF.fx c2 14 (f := .kit "NoBit" "NoWord" false) rfl)
    e_NoBit_NoWord := Fx.exm_ok (SaysF.fx c2 15 (f := .exm "NoBit" "NoWord" false) rfl)
    k_NoBit_TooMany := Fx.kit_ok (SaysF.fx c2 16 (f := .kit "NoBit" "TooMany" false) rfl)
    e_NoBit_TooMany := Fx.exm_ok (SaysF.fx c2 17 (f := .exm "NoBit" "TooMany" false) rfl)
    k_NoBit_Twice := Fx.kit_ok (SaysF.fx c2 18 (f := .kit "NoBit" "Twice" false) rfl)
    e_NoBit_Twice := Fx.exm_ok (SaysF.fx c2 19 (f := .exm "NoBit" "Twice" false) rfl)
    k_NoBit_WoodError := Fx.kit_ok (SaysF.fx c2 20 (f := .kit "NoBit" "WoodError" true) rfl)
    e_NoBit_WoodError := Fx.exm_ok (SaysF.fx c2 21 (f := .exm "NoBit" "WoodError" true) rfl)
    ec_NoNode := Fx.excC_ok (SaysF.fx c2 22 (f := .excC "NoNode") rfl)
    kt_NoNode := Fx.kitT_ok (SaysF.fx c2 23 (f := .kitT "NoNode" "ValueError" true) rfl)
    k_NoNode_NoBit := Fx.kit_ok (SaysF.fx c2 24 (f := .kit "NoNode" "NoBit" false) rfl)
    e_NoNode_NoBit := Fx.exm_ok (SaysF.fx c2 25 (f := .exm "NoNode" "NoBit" false) rfl)
    k_NoNode_NoNode := Fx.kit_ok (SaysF.fx c2 26 (f := .kit "NoNode" "NoNode" true) rfl)
    e_NoNode_NoNode := Fx.exm_ok (SaysF.fx c2 27 (f := .exm "NoNode" "NoNode" true) rfl)
    k_NoNode_NoOctets := Fx.kit_ok (SaysF.fx c2 28 (f := .kit "NoNode" "NoOctets" false) rfl)
    e_NoNode_NoOctets := Fx.exm_ok (SaysF.fx c2 29 (f := .exm "NoNode" "NoOctets" false) rfl)
    k_NoNode_NoPlace := Fx.kit_ok (SaysF.fx c2 30 (f := .kit "NoNode" "NoPlace" false) rfl)
    e_NoNode_NoPlace := Fx.exm_ok (SaysF.fx c2 31 (f := .exm "NoNode" "NoPlace" false) rfl)
    k_NoNode_NoSign := Fx.kit_ok (SaysF.fx c2 32 (f := .kit "NoNode" "NoSign" false) rfl)
    e_NoNode_NoSign := Fx.exm_ok (SaysF.fx c2 33 (f := .exm "NoNode" "NoSign" false) rfl)
    k_NoNode_NoTree := Fx.kit_ok (SaysF.fx c2 34 (f := .kit "NoNode" "NoTree" false) rfl)
    e_NoNode_NoTree := Fx.exm_ok (SaysF.fx c2 35 (f := .exm "NoNode" "NoTree" false) rfl)
    k_NoNode_NoWord := Fx.kit_ok (SaysF.fx c2 36 (f := .kit "NoNode" "NoWord" false) rfl)
    e_NoNode_NoWord := Fx.exm_ok (SaysF.fx c2 37 (f := .exm "NoNode" "NoWord" false) rfl)
    k_NoNode_TooMany := Fx.kit_ok (SaysF.fx c2 38 (f := .kit "NoNode" "TooMany" false) rfl)
    e_NoNode_TooMany := Fx.exm_ok (SaysF.fx c2 39 (f := .exm "NoNode" "TooMany" false) rfl)
    k_NoNode_Twice := Fx.kit_ok (SaysF.fx c2 40 (f := .kit "NoNode" "Twice" false) rfl)
    e_NoNode_Twice := Fx.exm_ok (SaysF.fx c2 41 (f := .exm "NoNode" "Twice" false) rfl)
    k_NoNode_WoodError := Fx.kit_ok (SaysF.fx c2 42 (f := .kit "NoNode" "WoodError" true) rfl)
    e_NoNode_WoodError := Fx.exm_ok (SaysF.fx c2 43 (f := .exm "NoNode" "WoodError" true) rfl)
    ec_NoOctets := Fx.excC_ok (SaysF.fx c2 44 (f := .excC "NoOctets") rfl)
    kt_NoOctets := Fx.kitT_ok (SaysF.fx c2 45 (f := .kitT "NoOctets" "ValueError" true) rfl)
    k_NoOctets_NoBit := Fx.kit_ok (SaysF.fx c2 46 (f := .kit "NoOctets" "NoBit" false) rfl)
    e_NoOctets_NoBit := Fx.exm_ok (SaysF.fx c2 47 (f := .exm "NoOctets" "NoBit" false) rfl)
    k_NoOctets_NoNode := Fx.kit_ok (SaysF.fx c2 48 (f := .kit "NoOctets" "NoNode" false) rfl)
    e_NoOctets_NoNode := Fx.exm_ok (SaysF.fx c2 49 (f := .exm "NoOctets" "NoNode" false) rfl)
    k_NoOctets_NoOctets := Fx.kit_ok (SaysF.fx c2 50 (f := .kit "NoOctets" "NoOctets" true) rfl)
    e_NoOctets_NoOctets := Fx.exm_ok (SaysF.fx c2 51 (f := .exm "NoOctets" "NoOctets" true) rfl)
    k_NoOctets_NoPlace := Fx.kit_ok (SaysF.fx c2 52 (f := .kit "NoOctets" "NoPlace" false) rfl)
    e_NoOctets_NoPlace := Fx.exm_ok (SaysF.fx c2 53 (f := .exm "NoOctets" "NoPlace" false) rfl)
    k_NoOctets_NoSign := Fx.kit_ok (SaysF.fx c2 54 (f := .kit "NoOctets" "NoSign" false) rfl)
    e_NoOctets_NoSign := Fx.exm_ok (SaysF.fx c2 55 (f := .exm "NoOctets" "NoSign" false) rfl)
    k_NoOctets_NoTree := Fx.kit_ok (SaysF.fx c2 56 (f := .kit "NoOctets" "NoTree" false) rfl)
    e_NoOctets_NoTree := Fx.exm_ok (SaysF.fx c2 57 (f := .exm "NoOctets" "NoTree" false) rfl)
    k_NoOctets_NoWord := Fx.kit_ok (SaysF.fx c2 58 (f := .kit "NoOctets" "NoWord" false) rfl)
    e_NoOctets_NoWord := Fx.exm_ok (SaysF.fx c2 59 (f := .exm "NoOctets" "NoWord" false) rfl)
    k_NoOctets_TooMany := Fx.kit_ok (SaysF.fx c2 60 (f := .kit "NoOctets" "TooMany" false) rfl)
    e_NoOctets_TooMany := Fx.exm_ok (SaysF.fx c2 61 (f := .exm "NoOctets" "TooMany" false) rfl)
    k_NoOctets_Twice := Fx.kit_ok (SaysF.fx c2 62 (f := .kit "NoOctets" "Twice" false) rfl)
    e_NoOctets_Twice := Fx.exm_ok (SaysF.fx c2 63 (f := .exm "NoOctets" "Twice" false) rfl)
    k_NoOctets_WoodError := Fx.kit_ok (SaysF.fx c2 64 (f := .kit "NoOctets" "WoodError" true) rfl)
    e_NoOctets_WoodError := Fx.exm_ok (SaysF.fx c2 65 (f := .exm "NoOctets" "WoodError" true) rfl)
    ec_NoPlace := Fx.excC_ok (SaysF.fx c2 66 (f := .excC "NoPlace") rfl)
    kt_NoPlace := Fx.kitT_ok (SaysF.fx c2 67 (f := .kitT "NoPlace" "ValueError" true) rfl)
    k_NoPlace_NoBit := Fx.kit_ok (SaysF.fx c2 68 (f := .kit "NoPlace" "NoBit" false) rfl)
    e_NoPlace_NoBit := Fx.exm_ok (SaysF.fx c2 69 (f := .exm "NoPlace" "NoBit" false) rfl)
    k_NoPlace_NoNode := Fx.kit_ok (SaysF.fx c2 70 (f := .kit "NoPlace" "NoNode" false) rfl)
    e_NoPlace_NoNode := Fx.exm_ok (SaysF.fx c2 71 (f := .exm "NoPlace" "NoNode" false) rfl)
    k_NoPlace_NoOctets := Fx.kit_ok (SaysF.fx c2 72 (f := .kit "NoPlace" "NoOctets" false) rfl)
    e_NoPlace_NoOctets := Fx.exm_ok (SaysF.fx c2 73 (f := .exm "NoPlace" "NoOctets" false) rfl)
    k_NoPlace_NoPlace := Fx.kit_ok (SaysF.fx c2 74 (f := .kit "NoPlace" "NoPlace" true) rfl)
    e_NoPlace_NoPlace := Fx.exm_ok (SaysF.fx c2 75 (f := .exm "NoPlace" "NoPlace" true) rfl)
    k_NoPlace_NoSign := Fx.kit_ok (SaysF.fx c2 76 (f := .kit "NoPlace" "NoSign" false) rfl)
    e_NoPlace_NoSign := Fx.exm_ok (SaysF.fx c2 77 (f := .exm "NoPlace" "NoSign" false) rfl)
    k_NoPlace_NoTree := Fx.kit_ok (SaysF.fx c2 78 (f := .kit "NoPlace" "NoTree" false) rfl)
    e_NoPlace_NoTree := Fx.exm_ok (SaysF.fx c2 79 (f := .exm "NoPlace" "NoTree" false) rfl)
    k_NoPlace_NoWord := Fx.kit_ok (SaysF.fx c2 80 (f := .kit "NoPlace" "NoWord" false) rfl)
    e_NoPlace_NoWord := Fx.exm_ok (SaysF.fx c2 81 (f := .exm "NoPlace" "NoWord" false) rfl)
    k_NoPlace_TooMany := Fx.kit_ok (SaysF.fx c2 82 (f := .kit "NoPlace" "TooMany" false) rfl)
    e_NoPlace_TooMany := Fx.exm_ok (SaysF.fx c2 83 (f := .exm "NoPlace" "TooMany" false) rfl)
    k_NoPlace_Twice := Fx.kit_ok (SaysF.fx c2 84 (f := .kit "NoPlace" "Twice" false) rfl)
    e_NoPlace_Twice := Fx.exm_ok (SaysF.fx c2 85 (f := .exm "NoPlace" "Twice" false) rfl)
    k_NoPlace_WoodError := Fx.kit_ok (SaysF.fx c2 86 (f := .kit "NoPlace" "WoodError" true) rfl)
    e_NoPlace_WoodError := Fx.exm_ok (SaysF.fx c2 87 (f := .exm "NoPlace" "WoodError" true) rfl)
    ec_NoSign := Fx.excC_ok (SaysF.fx c2 88 (f := .excC "NoSign") rfl)
    kt_NoSign := Fx.kitT_ok (SaysF.fx c2 89 (f := .kitT "NoSign" "ValueError" true) rfl)
    k_NoSign_NoBit := Fx.kit_ok (SaysF.fx c2 90 (f := .kit "NoSign" "NoBit" false) rfl)
    e_NoSign_NoBit := Fx.exm_ok (SaysF.fx c2 91 (f := .exm "NoSign" "NoBit" false) rfl)
    k_NoSign_NoNode := Fx.kit_ok (SaysF.fx c2 92 (f := .kit "NoSign" "NoNode" false) rfl)
    e_NoSign_NoNode := Fx.exm_ok (SaysF.fx c2 93 (f := .exm "NoSign" "NoNode" false) rfl)
    k_NoSign_NoOctets := Fx.kit_ok (SaysF.fx c2 94 (f := .kit "NoSign" "NoOctets" false) rfl)
    e_NoSign_NoOctets := Fx.exm_ok (SaysF.fx c2 95 (f := .exm "NoSign" "NoOctets" false) rfl)
    k_NoSign_NoPlace := Fx.kit_ok (SaysF.fx c2 96 (f := .kit "NoSign" "NoPlace" false) rfl)
    e_NoSign_NoPlace := Fx.exm_ok (SaysF.fx c2 97 (f := .exm "NoSign" "NoPlace" false) rfl)
    k_NoSign_NoSign := Fx.kit_ok (SaysF.fx c2 98 (f := .kit "NoSign" "NoSign" true) rfl)
    e_NoSign_NoSign := Fx.exm_ok (SaysF.fx c2 99 (f := .exm "NoSign" "NoSign" true) rfl)
    k_NoSign_NoTree := Fx.kit_ok (SaysF.fx c2 100 (f := .kit "NoSign" "NoTree" false) rfl)
    e_NoSign_NoTree := Fx.exm_ok (SaysF.fx c2 101 (f := .exm "NoSign" "NoTree" false) rfl)
    k_NoSign_NoWord := Fx.kit_ok (SaysF.fx c2 102 (f := .kit "NoSign" "NoWord" false) rfl)
    e_NoSign_NoWord := Fx.exm_ok (SaysF.fx c2 103 (f := .exm "NoSign" "NoWord" false) rfl)
    k_NoSign_TooMany := Fx.kit_ok (SaysF.fx c2 104 (f := .kit "NoSign" "TooMany" false) rfl)
    e_NoSign_TooMany := Fx.exm_ok (SaysF.fx c2 105 (f := .exm "NoSign" "TooMany" false) rfl)
    k_NoSign_Twice := Fx.kit_ok (SaysF.fx c2 106 (f := .kit "NoSign" "Twice" false) rfl)
    e_NoSign_Twice := Fx.exm_ok (SaysF.fx c2 107 (f := .exm "NoSign" "Twice" false) rfl)
    k_NoSign_WoodError := Fx.kit_ok (SaysF.fx c2 108 (f := .kit "NoSign" "WoodError" true) rfl)
    e_NoSign_WoodError := Fx.exm_ok (SaysF.fx c2 109 (f := .exm "NoSign" "WoodError" true) rfl)
    ec_NoTree := Fx.excC_ok (SaysF.fx c2 110 (f := .excC "NoTree") rfl)
    kt_NoTree := Fx.kitT_ok (SaysF.fx c2 111 (f := .kitT "NoTree" "ValueError" true) rfl)
    k_NoTree_NoBit := Fx.kit_ok (SaysF.fx c2 112 (f := .kit "NoTree" "NoBit" false) rfl)
    e_NoTree_NoBit := Fx.exm_ok (SaysF.fx c2 113 (f := .exm "NoTree" "NoBit" false) rfl)
    k_NoTree_NoNode := Fx.kit_ok (SaysF.fx c2 114 (f := .kit "NoTree" "NoNode" false) rfl)
    e_NoTree_NoNode := Fx.exm_ok (SaysF.fx c2 115 (f := .exm "NoTree" "NoNode" false) rfl)
    k_NoTree_NoOctets := Fx.kit_ok (SaysF.fx c2 116 (f := .kit "NoTree" "NoOctets" false) rfl)
    e_NoTree_NoOctets := Fx.exm_ok (SaysF.fx c2 117 (f := .exm "NoTree" "NoOctets" false) rfl)
    k_NoTree_NoPlace := Fx.kit_ok (SaysF.fx c2 118 (f := .kit "NoTree" "NoPlace" false) rfl)
    e_NoTree_NoPlace := Fx.exm_ok (SaysF.fx c2 119 (f := .exm "NoTree" "NoPlace" false) rfl)
    k_NoTree_NoSign := Fx.kit_ok (SaysF.fx c2 120 (f := .kit "NoTree" "NoSign" false) rfl)
    e_NoTree_NoSign := Fx.exm_ok (SaysF.fx c2 121 (f := .exm "NoTree" "NoSign" false) rfl)
    k_NoTree_NoTree := Fx.kit_ok (SaysF.fx c2 122 (f := .kit "NoTree" "NoTree" true) rfl)
    e_NoTree_NoTree := Fx.exm_ok (SaysF.fx c2 123 (f := .exm "NoTree" "NoTree" true) rfl)
    k_NoTree_NoWord := Fx.kit_ok (SaysF.fx c2 124 (f := .kit "NoTree" "NoWord" false) rfl)
    e_NoTree_NoWord := Fx.exm_ok (SaysF.fx c2 125 (f := .exm "NoTree" "NoWord" false) rfl)
    k_NoTree_TooMany := Fx.kit_ok (SaysF.fx c2 126 (f := .kit "NoTree" "TooMany" false) rfl)
    e_NoTree_TooMany := Fx.exm_ok (SaysF.fx c2 127 (f := .exm "NoTree" "TooMany" false) rfl)
    k_NoTree_Twice := Fx.kit_ok (SaysF.fx c2 128 (f := .kit "NoTree" "Twice" false) rfl)
    e_NoTree_Twice := Fx.exm_ok (SaysF.fx c2 129 (f := .exm "NoTree" "Twice" false) rfl)
    k_NoTree_WoodError := Fx.kit_ok (SaysF.fx c2 130 (f := .kit "NoTree" "WoodError" true) rfl)
    e_NoTree_WoodError := Fx.exm_ok (SaysF.fx c2 131 (f := .exm "NoTree" "WoodError" true) rfl)
    ec_NoWord := Fx.excC_ok (SaysF.fx c2 132 (f := .excC "NoWord") rfl)
    kt_NoWord := Fx.kitT_ok (SaysF.fx c2 133 (f := .kitT "NoWord" "ValueError" true) rfl)
    k_NoWord_NoBit := Fx.kit_ok (SaysF.fx c2 134 (f := .kit "NoWord" "NoBit" false) rfl)
    e_NoWord_NoBit := Fx.exm_ok (SaysF.fx c2 135 (f := .exm "NoWord" "NoBit" false) rfl)
    k_NoWord_NoNode := Fx.kit_ok (SaysF.fx c2 136 (f := .kit "NoWord" "NoNode" false) rfl)
    e_NoWord_NoNode := Fx.exm_ok (SaysF.fx c2 137 (f := .exm "NoWord" "NoNode" false) rfl)
    k_NoWord_NoOctets := Fx.kit_ok (SaysF.fx c2 138 (f := .kit "NoWord" "NoOctets" false) rfl)
    e_NoWord_NoOctets := Fx.exm_ok (SaysF.fx c2 139 (f := .exm "NoWord" "NoOctets" false) rfl)
    k_NoWord_NoPlace := Fx.kit_ok (SaysF.fx c2 140 (f := .kit "NoWord" "NoPlace" false) rfl)
    e_NoWord_NoPlace := Fx.exm_ok (SaysF.fx c2 141 (f := .exm "NoWord" "NoPlace" false) rfl)
    k_NoWord_NoSign := Fx.kit_ok (SaysF.fx c2 142 (f := .kit "NoWord" "NoSign" false) rfl)
    e_NoWord_NoSign := Fx.exm_ok (SaysF.fx c2 143 (f := .exm "NoWord" "NoSign" false) rfl)
    k_NoWord_NoTree := Fx.kit_ok (SaysF.fx c2 144 (f := .kit "NoWord" "NoTree" false) rfl)
    e_NoWord_NoTree := Fx.exm_ok (SaysF.fx c2 145 (f := .exm "NoWord" "NoTree" false) rfl)
    k_NoWord_NoWord := Fx.kit_ok (SaysF.fx c2 146 (f := .kit "NoWord" "NoWord" true) rfl)
    e_NoWord_NoWord := Fx.exm_ok (SaysF.fx c2 147 (f := .exm "NoWord" "NoWord" true) rfl)
    k_NoWord_TooMany := Fx.kit_ok (SaysF.fx c2 148 (f := .kit "NoWord" "TooMany" false) rfl)
    e_NoWord_TooMany := Fx.exm_ok (SaysF.fx c2 149 (f := .exm "NoWord" "TooMany" false) rfl)
    k_NoWord_Twice := Fx.kit_ok (SaysF.fx c2 150 (f := .kit "NoWord" "Twice" false) rfl)
    e_NoWord_Twice := Fx.exm_ok (SaysF.fx c2 151 (f := .exm "NoWord" "Twice" false) rfl)
    k_NoWord_WoodError := Fx.kit_ok (SaysF.fx c2 152 (f := .kit "NoWord" "WoodError" true) rfl)
    e_NoWord_WoodError := Fx.exm_ok (SaysF.fx c2 153 (f := .exm "NoWord" "WoodError" true) rfl)
    ec_TooMany := Fx.excC_ok (SaysF.fx c2 154 (f := .excC "TooMany") rfl)
    kt_TooMany := Fx.kitT_ok (SaysF.fx c2 155 (f := .kitT "TooMany" "ValueError" true) rfl)
    k_TooMany_NoBit := Fx.kit_ok (SaysF.fx c2 156 (f := .kit "TooMany" "NoBit" false) rfl)
    e_TooMany_NoBit := Fx.exm_ok (SaysF.fx c2 157 (f := .exm "TooMany" "NoBit" false) rfl)
    k_TooMany_NoNode := Fx.kit_ok (SaysF.fx c2 158 (f := .kit "TooMany" "NoNode" false) rfl)
    e_TooMany_NoNode := Fx.exm_ok (SaysF.fx c2 159 (f := .exm "TooMany" "NoNode" false) rfl)
    k_TooMany_NoOctets := Fx.kit_ok (SaysF.fx c2 160 (f := .kit "TooMany" "NoOctets" false) rfl)
    e_TooMany_NoOctets := Fx.exm_ok (SaysF.fx c2 161 (f := .exm "TooMany" "NoOctets" false) rfl)
    k_TooMany_NoPlace := Fx.kit_ok (SaysF.fx c2 162 (f := .kit "TooMany" "NoPlace" false) rfl)
    e_TooMany_NoPlace := Fx.exm_ok (SaysF.fx c2 163 (f := .exm "TooMany" "NoPlace" false) rfl)
    k_TooMany_NoSign := Fx.kit_ok (SaysF.fx c2 164 (f := .kit "TooMany" "NoSign" false) rfl)
    e_TooMany_NoSign := Fx.exm_ok (SaysF.fx c2 165 (f := .exm "TooMany" "NoSign" false) rfl)
    k_TooMany_NoTree := Fx.kit_ok (SaysF.fx c2 166 (f := .kit "TooMany" "NoTree" false) rfl)
    e_TooMany_NoTree := Fx.exm_ok (SaysF.fx c2 167 (f := .exm "TooMany" "NoTree" false) rfl)
    k_TooMany_NoWord := Fx.kit_ok (SaysF.fx c2 168 (f := .kit "TooMany" "NoWord" false) rfl)
    e_TooMany_NoWord := Fx.exm_ok (SaysF.fx c2 169 (f := .exm "TooMany" "NoWord" false) rfl)
    k_TooMany_TooMany := Fx.kit_ok (SaysF.fx c2 170 (f := .kit "TooMany" "TooMany" true) rfl)
    e_TooMany_TooMany := Fx.exm_ok (SaysF.fx c2 171 (f := .exm "TooMany" "TooMany" true) rfl)
    k_TooMany_Twice := Fx.kit_ok (SaysF.fx c2 172 (f := .kit "TooMany" "Twice" false) rfl)
    e_TooMany_Twice := Fx.exm_ok (SaysF.fx c2 173 (f := .exm "TooMany" "Twice" false) rfl)
    k_TooMany_WoodError := Fx.kit_ok (SaysF.fx c2 174 (f := .kit "TooMany" "WoodError" true) rfl)
    e_TooMany_WoodError := Fx.exm_ok (SaysF.fx c2 175 (f := .exm "TooMany" "WoodError" true) rfl)
    ec_Twice := Fx.excC_ok (SaysF.fx c2 176 (f := .excC "Twice") rfl)
    kt_Twice := Fx.kitT_ok (SaysF.fx c2 177 (f := .kitT "Twice" "ValueError" true) rfl)
    k_Twice_NoBit := Fx.kit_ok (SaysF.fx c2 178 (f := .kit "Twice" "NoBit" false) rfl)
    e_Twice_NoBit := Fx.exm_ok (SaysF.fx c2 179 (f := .exm "Twice" "NoBit" false) rfl)
    k_Twice_NoNode := Fx.kit_ok (SaysF.fx c2 180 (f := .kit "Twice" "NoNode" false) rfl)
    e_Twice_NoNode := Fx.exm_ok (SaysF.fx c2 181 (f := .exm "Twice" "NoNode" false) rfl)
    k_Twice_NoOctets := Fx.kit_ok (SaysF.fx c2 182 (f := .kit "Twice" "NoOctets" false) rfl)
    e_Twice_NoOctets := Fx.exm_ok (SaysF.fx c2 183 (f := .exm "Twice" "NoOctets" false) rfl)
    k_Twice_NoPlace := Fx.kit_ok (SaysF.fx c2 184 (f := .kit "Twice" "NoPlace" false) rfl)
    e_Twice_NoPlace := Fx.exm_ok (SaysF.fx c2 185 (f := .exm "Twice" "NoPlace" false) rfl)
    k_Twice_NoSign := Fx.kit_ok (SaysF.fx c2 186 (f := .kit "Twice" "NoSign" false) rfl)
    e_Twice_NoSign := Fx.exm_ok (SaysF.fx c2 187 (f := .exm "Twice" "NoSign" false) rfl)
    k_Twice_NoTree := Fx.kit_ok (SaysF.fx c2 188 (f := .kit "Twice" "NoTree" false) rfl)
    e_Twice_NoTree := Fx.exm_ok (SaysF.fx c2 189 (f := .exm "Twice" "NoTree" false) rfl)
    k_Twice_NoWord := Fx.kit_ok (SaysF.fx c2 190 (f := .kit "Twice" "NoWord" false) rfl)
    e_Twice_NoWord := Fx.exm_ok (SaysF.fx c2 191 (f := .exm "Twice" "NoWord" false) rfl)
    k_Twice_TooMany := Fx.kit_ok (SaysF.fx c2 192 (f := .kit "Twice" "TooMany" false) rfl)
    e_Twice_TooMany := Fx.exm_ok (SaysF.fx c2 193 (f := .exm "Twice" "TooMany" false) rfl)
    k_Twice_Twice := Fx.kit_ok (SaysF.fx c2 194 (f := .kit "Twice" "Twice" true) rfl)
    e_Twice_Twice := Fx.exm_ok (SaysF.fx c2 195 (f := .exm "Twice" "Twice" true) rfl)
    k_Twice_WoodError := Fx.kit_ok (SaysF.fx c2 196 (f := .kit "Twice" "WoodError" true) rfl)
    e_Twice_WoodError := Fx.exm_ok (SaysF.fx c2 197 (f := .exm "Twice" "WoodError" true) rfl)
    ec_WoodError := Fx.excC_ok (SaysF.fx c2 198 (f := .excC "WoodError") rfl)
    kt_WoodError := Fx.kitT_ok (SaysF.fx c2 199 (f := .kitT "WoodError" "ValueError" true) rfl)
    k_WoodError_NoBit := Fx.kit_ok (SaysF.fx c2 200 (f := .kit "WoodError" "NoBit" false) rfl)
    e_WoodError_NoBit := Fx.exm_ok (SaysF.fx c2 201 (f := .exm "WoodError" "NoBit" false) rfl)
    k_WoodError_NoNode := Fx.kit_ok (SaysF.fx c2 202 (f := .kit "WoodError" "NoNode" false) rfl)
    e_WoodError_NoNode := Fx.exm_ok (SaysF.fx c2 203 (f := .exm "WoodError" "NoNode" false) rfl)
    k_WoodError_NoOctets := Fx.kit_ok (SaysF.fx c2 204 (f := .kit "WoodError" "NoOctets" false) rfl)
    e_WoodError_NoOctets := Fx.exm_ok (SaysF.fx c2 205 (f := .exm "WoodError" "NoOctets" false) rfl)
    k_WoodError_NoPlace := Fx.kit_ok (SaysF.fx c2 206 (f := .kit "WoodError" "NoPlace" false) rfl)
    e_WoodError_NoPlace := Fx.exm_ok (SaysF.fx c2 207 (f := .exm "WoodError" "NoPlace" false) rfl)
    k_WoodError_NoSign := Fx.kit_ok (SaysF.fx c2 208 (f := .kit "WoodError" "NoSign" false) rfl)
    e_WoodError_NoSign := Fx.exm_ok (SaysF.fx c2 209 (f := .exm "WoodError" "NoSign" false) rfl)
    k_WoodError_NoTree := Fx.kit_ok (SaysF.fx c2 210 (f := .kit "WoodError" "NoTree" false) rfl)
    e_WoodError_NoTree := Fx.exm_ok (SaysF.fx c2 211 (f := .exm "WoodError" "NoTree" false) rfl)
    k_WoodError_NoWord := Fx.kit_ok (SaysF.fx c2 212 (f := .kit "WoodError" "NoWord" false) rfl)
    e_WoodError_NoWord := Fx.exm_ok (SaysF.fx c2 213 (f := .exm "WoodError" "NoWord" false) rfl)
    k_WoodError_TooMany := Fx.kit_ok (SaysF.fx c2 214 (f := .kit "WoodError" "TooMany" false) rfl)
    e_WoodError_TooMany := Fx.exm_ok (SaysF.fx c2 215 (f := .exm "WoodError" "TooMany" false) rfl)
    k_WoodError_Twice := Fx.kit_ok (SaysF.fx c2 216 (f := .kit "WoodError" "Twice" false) rfl)
    e_WoodError_Twice := Fx.exm_ok (SaysF.fx c2 217 (f := .exm "WoodError" "Twice" false) rfl)
    k_WoodError_WoodError := Fx.kit_ok (SaysF.fx c2 218 (f := .kit "WoodError" "WoodError" true) rfl)
    e_WoodError_WoodError := Fx.exm_ok (SaysF.fx c2 219 (f := .exm "WoodError" "WoodError" true) rfl)
  }
  }
theorem facts {P : Program} {w : World} {K : PySem.W.Frag} {h : Heap} {mg : Str → Option Value} (X : K.In h) (G : h.Ns mainGlobals mg) (c : SaysF faL fnL fxL K) (base : Heap) :
    Okf P w K mg base CX0 4 "law" ["_law_script"] (sp_law K) := by
  have T : Tx P w K mg base := tx_of X G c base
  have o_brackets_of := ok_brackets_of (P := P) (w := w) T 
  have o_law_cell_at := ok_law_cell_at (P := P) (w := w) T 
  have o_law_depths := ok_law_depths (P := P) (w := w) T o_law_cell_at
  have o_law_spoilt := ok_law_spoilt (P := P) (w := w) T 
  have o_law_due := ok_law_due (P := P) (w := w) T 
  have o_law_told := ok_law_told (P := P) (w := w) T o_brackets_of
  have o_law := ok_law (P := P) (w := w) T o_law_depths o_law_spoilt o_law_cell_at o_law_told o_law_due
  exact o_law
theorem binds_law {K : PySem.W.Frag} (c : SaysF faL fnL fxL K) : ∃ fd : FuncData, FunD K "law" "law" (defArgs s_law) (defBody s_law) (defScope s_law) [] [] (He.ga K "law") fd := (SaysF.d c).def_ 6 (d := dd_law) rfl
end Tw
open PySem PySem.W PySem.Calls PyProof.Rows
set_option maxHeartbeats 0 in
theorem PySem.Challenge.cw_thinwood_k41_depths_refused_holds : PySem.Challenge.rw_thinwood_k41_depths_refused.Holds := by
  w_on; o_law
  refine HandSHeadRun.head_any (r := OpenLaw.row PySem.Challenge.rw_thinwood_k41_depths_refused) (q := view (OpenLaw.row PySem.Challenge.rw_thinwood_k41_depths_refused).prog [20]) (H := Tw.hk) (ob := Tw.ob) (M := 20000) (loose := Tw.looseL) (d := HandSHeadRun.topDef (OpenLaw.row PySem.Challenge.rw_thinwood_k41_depths_refused).prog 20) (kwd := []) Tw.ob_eq
    (by kernel_rfl) (fun s => by kernel_rfl) Tw.run (by kernel_rfl) (by kernel_rfl) (by kernel_rfl) (by rfl) (by first | assumption | decide +kernel) (by decide +kernel) ⟨rfl, rfl, rfl, rfl, rfl, by decide +kernel⟩ ?hw ?hc
  case hw => w_witness2
  case hc =>
    refine L2.walk_ofE (l := PySem.Challenge.rw_thinwood_k41_depths_refused) (n := 63) (k := 4) (x := "_law_script") (CX := L2.CX0) rfl (by decide) (by kernel_rfl) ⟨rfl, by decide, by decide⟩ ?F (fun _ _ _ _ z => z)
    intro w mg fa h Y G hmg0
    obtain ⟨K, KX, c⟩ := Y
    have hmg : mg ("law" : PySem.Str) = some (.ref fa) := by
      have e : (HandSHeadRun.topDef (OpenLaw.row PySem.Challenge.rw_thinwood_k41_depths_refused).prog 20).name = ("law" : PySem.Str) := by kernel_rfl
      rw [← e]
      exact hmg0
    have e : fa = He.ga K "law" := by
      have z := hmg.symm.trans (Tw.facts (P := (PySem.Challenge.rw_thinwood_k41_depths_refused).prog) (w := w) KX G c h).gl
      injection z with z; injection z
    subst e
    obtain ⟨fd, FD⟩ := Tw.binds_law c
    refine ⟨K, fd, Tw.sp_law K, KX, fun s v => FunD.bindsA (ps := ["_law_script"]) FD (fun _ _ _ _ _ _ us hl => match us, hl with | [_], _ => rfl) s [v] rfl, fun H a ns hl _ hS => ⟨a, ns, rfl, hS, hl, fun _ => rfl⟩, fun base KB GB => ?_⟩
    exact Tw.okf_fn (Tw.facts KB GB c base) FD
#print axioms PySem.Challenge.cw_thinwood_k41_depths_refused_holds
