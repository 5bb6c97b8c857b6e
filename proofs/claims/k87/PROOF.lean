import PyProof.Rows.All
import HandS.SetFor
import KE.GoesEnum
import Wide.All
import OpenK.AllK
import Wide.FinOn
import KE.KStateDown
import Lean
import HandS.ForMost
import HandS.ForExc
import HandS.Steps
import HandS.IsInst
import HandS.Wide
import HandS.WideBits
import HandS.Defaults
import HandS.Flow
import HandS.Style
import HandS.ExcIs
import HandS.TryMany
import HandS.Evl
import HandS.Walk
import HandS.Rev
import HandS.Conv
import HandS.RevRange
import HandS.SortInts
import HandS.SortKw
import HandS.Head0
import HandS.Head1
import HandS.Head2
import HandS.HeadEnd
import HandS.HeadHook1
import HandS.HeadHook2
import HandS.Deep
import HandS.Lambda
import HandS.HeadHook4
import HandS.HeadWalk
import HandS.Nested
import PySem.Challenge.RW_thinwood_k87_signs_read
set_option Elab.async false
set_option linter.all false
set_option maxRecDepth 100000
set_option maxHeartbeats 4000000
open PySem PySem.W PySem.Calls PyProof.Rows in
section
namespace Tw
abbrev R0 : PySem.W.OpenRow := PySem.W.OpenLaw.row PySem.Challenge.rw_thinwood_k87_signs_read
abbrev q0 : PySem.Program := PySem.W.view R0.prog [48]
abbrev d0 : PySem.DefRec := HandSHeadRun.topDef R0.prog 48
open PySem PySem.W PySem.Calls PyProof.Rows
theorem z_e : opening R0.prog = plainProg R0.prog.main.scope.names := by kernel_rfl
theorem z_f : ∀ s, fenceModules? R0.prog s = some s := fun s => by kernel_rfl
theorem z_def : defOf q0 R0.name = some (d0, []) := by kernel_rfl
theorem z_hp : R0.prog.theDef R0.name = some (d0.params, d0.body, d0.scope) := by kernel_rfl
theorem z_hk : kwWritten? d0.params.kwonlyargs d0.params.kw_defaults = some [] := by kernel_rfl
theorem z_ok : (chainsOk q0 && opensWell R0.prog && (frees R0.toRowW && R0.within.isEmpty)) = true := by decide +kernel
theorem z_bare : R0.prog.bare := ⟨rfl, rfl, rfl, rfl, rfl, by decide +kernel⟩
set_option maxHeartbeats 0 in
theorem z_w : R0.toRowW.promised := by w_witness2
end Tw
end
set_option Elab.async false
set_option linter.all false
set_option maxRecDepth 100000
set_option maxHeartbeats 4000000
namespace Tw
open PySem PySem.Spec PyProof.Rows L2
def nmL (l _c : Nat) : Str := ""
def tabL : List Str := []
/-! ### heaps: all that was tracked is as it was, but for code tables, which may have grown -/
class NT (o : HO) : Prop where
  ne : ∀ ps, o ≠ .tbl ps
instance {xs : List V} : NT (.lst xs) := ⟨fun _ z => nomatch z⟩
instance {xs : List V} : NT (.tup xs) := ⟨fun _ z => nomatch z⟩
instance {o : Obj} {u : HO} : NT (.frz o u) := ⟨fun _ z => nomatch z⟩
instance {φ : Heap → Prop} : NT (.ext φ) := ⟨fun _ z => nomatch z⟩
instance {S : Int → Bool} {n : Nat} : NT (.set S n) := ⟨fun _ z => nomatch z⟩
instance {kvs : List (Key × V)} : NT (.dK kvs) := ⟨fun _ z => nomatch z⟩
instance {C dx : Addr} {fs : List (Str × V)} : NT (.ins C dx fs) := ⟨fun _ z => nomatch z⟩
instance {x : Addr} : NT (.own x) := ⟨fun _ z => nomatch z⟩
structure Same (H H' : Hp) : Prop where
  keep : ∀ b o, H b = some o → (∀ ps, o ≠ .tbl ps) → H' b = some o
  gone : ∀ b, H' b = none → H b = none
  tabs : ∀ P, NdefX.TabN H P nmL → NdefX.TabN H' P nmL
theorem Same.get {H H' : Hp} (s : Same H H') {b : Addr} {o : HO} [NT o] (e : H b = some o) : H' b = some o := s.keep b o e NT.ne
theorem Same.of {H H' : Hp} (e : ∀ b o, H b = some o → H' b = some o) : Same H H' := by
  refine ⟨fun b o h _ => e b o h, fun b h => ?_, fun P t => NdefX.TabN.ext t e⟩
  cases q : H b with
  | none => rfl
  | some o => rw [e b o q] at h; cases h
theorem Same.refl (H : Hp) : Same H H := .of fun _ _ h => h
theorem Same.trans {H H1 H2 : Hp} (a : Same H H1) (b : Same H1 H2) : Same H H2 := ⟨fun c o h n => b.keep c o (a.keep c o h n) n, fun c h => a.gone c (b.gone c h), fun P t => b.tabs P (a.tabs P t)⟩
theorem Same.free {H H' : Hp} (e : Same H H') {l : Addr} (h : H' l = Option.none) : H l = Option.none := e.gone l h
theorem Same.seq {K : PySem.W.Frag} {H H' : Hp} {a : Addr} {xs : List V} (e : Same H H') (h : SqL K H a xs) : SqL K H' a xs := by
  rcases h with (h | ⟨o, h⟩) | h
  · exact .inl (.inl (e.get h))
  · exact .inl (.inr ⟨o, e.get h⟩)
  · exact .inr h
theorem same_new {H : Hp} {p : Addr} {o : HO} (h : H p = none) : Same H (upd H p o) := .of fun b x e => by
  rw [upd_ne (ne_of_none e h)]; exact e
/-- an object that H does not know may change -/
theorem Same.mut {H H' : Hp} {p : Addr} {o : HO} (e : Same H H') (h : H p = none) (hl : ∃ xs, H' p = some (.lst xs) := by exact ⟨_, by assumption⟩) : Same H (upd H' p o) := by
  obtain ⟨xs, hl⟩ := hl
  refine ⟨fun b x hb n => by rw [upd_ne (ne_of_none hb h)]; exact e.keep b x hb n, fun b hb => e.gone b (NdefX.upd_none hb), fun P t => ?_⟩
  obtain ⟨ps, h1, ht, hc⟩ := e.tabs P t
  have np : ∀ {b : Addr} {u : HO}, H' b = some u → (∀ xs, u ≠ .lst xs) → b ≠ p := fun {b u} q d z => by
    subst z; rw [hl] at q; cases q; exact d _ rfl
  refine ⟨ps, by rw [upd_ne (np h1 fun _ z => nomatch z)]; exact h1, ht, fun pos cv q => ?_⟩
  obtain ⟨c, e1, e2⟩ := hc pos cv q
  exact ⟨c, e1, by rw [upd_ne (np e2 fun _ z => by unfold LamX.CodeO at z; cases z)]; exact e2⟩
theorem Same.seqT {K : PySem.W.Frag} {H H' : Hp} {a : Addr} {xs : List V} (e : Same H H') (h : SqT K H a xs) : SqT K H' a xs := by
  rcases h with (h | ⟨o, h⟩) | h
  · exact .inl (.inl (e.get h))
  · exact .inl (.inr ⟨o, e.get h⟩)
  · exact .inr h
theorem Same.ne {H : Hp} {a p : Addr} {o : HO} (h : H p = none) (e : H a = some o) : a ≠ p := ne_of_none e h
/-! ### a def by its global name, and its call -/
/-- the def named x keeps the promise sp -/
structure Okf (P : Program) (w : World) (K : PySem.W.Frag) (mg : Str → Option Value) (base : Heap) (CX : CXT) (k : Nat) (x : Str) (ps : List Str) (sp : Sp) : Prop where
  ex : ∃ fd : FuncData, (∃ (oc : Value) (od : Option Addr) (osl : Array (Option Value)), K.lookup (He.ga K x) = some ⟨oc, od, .func fd, osl⟩) ∧ Binds K fd ps [] ∧ FnOk P w K mg base CX k (He.ga K x) fd ps sp
  kp : PySem.W.keepIn K (.ref (He.ga K x)) = true
  gl : mg x = some (.ref (He.ga K x))
theorem FunD.look {K : PySem.W.Frag} {x qual : Str} {params : Arguments} {body : List Stmt} {scope : Scope} {dvs : List V} {kws : List (Str × V)} {f : Addr} {fd : FuncData} (F : FunD K x qual params body scope dvs kws f fd) :
    ∃ (oc : Value) (od : Option Addr) (osl : Array (Option Value)), K.lookup f = some ⟨oc, od, .func fd, osl⟩ := by
  obtain ⟨oc, od, dV, kV, doc, pm, an, cdv, ct, osl, e, lk, _⟩ := F.ex
  exact ⟨oc, od, osl, lk⟩
section
variable {X : Cx} {CX : CXT} {k j : Nat} {ps : List Str} {sp : Sp} {E : XK} {x : Str} {p pos : Pos} {e : Expr} {es : List Expr} {t : TA}
theorem pe_callF (F : Okf X.prog X.w X.K X.mg X.base CX k x ps sp) (hr : Room j X.A) (hk : k ≤ j) (hg : Gl X x) (hx : Passes CX X E)
    (ha : PA X (e :: es) t) (hdb : (x == ("__debug__" : Str)) = false := by decide) (he : starEach (e :: es) X.env = (false, eval e X.env) :: starEach es X.env := by rfl) (hpl : (backTo pos (starEach es X.env)).any (·.1) = false := by rfl) :
    PE X (.Call (.Name x p) (e :: es) [] pos) (tCall sp [] E t) := by
  obtain ⟨fd, _, hb, ok⟩ := F.ex
  exact pe_call ok (hr.mono hk) hg F.gl F.kp hb .nil hx ha hdb he hpl
theorem pe_callF0 (F : Okf X.prog X.w X.K X.mg X.base CX k x ps sp) (hr : Room j X.A) (hk : k ≤ j) (hg : Gl X x) (hx : Passes CX X E)
    (hdb : (x == ("__debug__" : Str)) = false := by decide) : PE X (.Call (.Name x p) [] [] pos) (tCall sp [] E tNil) := by
  obtain ⟨fd, _, hb, ok⟩ := F.ex
  exact pe_call0 ok (hr.mono hk) hg F.gl F.kp hb .nil hx hdb
theorem Okf.imp {P : Program} {w : World} {K : PySem.W.Frag} {mg : Str → Option Value} {base : Heap} {sp' : Sp} (F : Okf P w K mg base CX k x ps sp)
    (h : ∀ vs H Q E, sp' vs H Q E → sp vs H Q E) : Okf P w K mg base CX k x ps sp' := by
  obtain ⟨⟨fd, lk, hb, ok⟩, kp, gl⟩ := F
  exact ⟨⟨fd, lk, hb, ok.imp h⟩, kp, gl⟩
theorem okf_fn {P : Program} {w : World} {K : PySem.W.Frag} {mg : Str → Option Value} {base : Heap} {params : Arguments} {body : List Stmt} {scope : Scope} {qual y : Str} {fd : FuncData} {dvs : List V} {kws : List (Str × V)} (F : Okf P w K mg base CX k x ps sp)
    (FD : FunD K y qual params body scope dvs kws (He.ga K x) fd) : FnOk P w K mg base CX k (He.ga K x) fd ps sp := by
  obtain ⟨⟨fd', ⟨_, _, _, lk'⟩, hb, ok⟩, kp, gl⟩ := F
  obtain ⟨_, _, _, lk⟩ := FunD.look FD
  rw [lk] at lk'
  injection lk' with e
  injection e with _ _ e
  injection e with e
  subst e
  exact ok
/-- a global int, as a constant -/
theorem pe_gint {i : Int} (h : ∃ t, X.mg x = some (.int i t)) (hg : Gl X x) (hd : (x == ("__debug__" : Str)) = false := by decide) : PE X (.Name x pos) (tC (.int i)) := by
  obtain ⟨t, h⟩ := h
  exact pe_glob hg h ⟨_, rfl⟩ hd
/-- a constant that the text reckons -/
theorem pe_cst {v : Int} {te : TE} (h : PE X e te) (hi : ∀ (σ : L2.St) (H : Hp) (Q : VK), Q (.int v) H → te σ H Q) : PE X e (tC (.int v)) :=
  ⟨fun pins s σ H Q I q => h.run pins s σ H Q I (hi σ H Q q)⟩
/-- e & 1 -/
def rAnd1 : R2 := fun x y H Q => ∃ i : Int, x = .int i ∧ y = .int 1 ∧ Q (.int (i % 2)) H
theorem op_and1 : OpR X (binaryOp .BitAnd) rAnd1 := by
  intro pins s σ H x y v u Q I rx ry h
  obtain ⟨i, rfl, rfl, q⟩ := h
  exact op_andM pins s σ H (.int i) (.int (2 ^ 1 - 1)) v u Q I rx ry ⟨i, 1, rfl, rfl, q⟩
/-- isinstance(x, T), T a built-in type's name -/
def rIsB : List V → Hp → VK → Prop := fun xs H Q => ∃ (x : V) (n : String), xs = [x, .ty n] ∧ ∃ (t : String) (b : Bool), (∀ K : PySem.W.Frag, TyX K H x (.type t)) ∧ kitB t n = some b ∧ Q (.bl b) H
theorem call_isB : CallR X (.builtin "isinstance") rIsB := by
  intro pins s σ H xs us Q I r h
  obtain ⟨x, n, rfl, t, b, ty, e, q⟩ := h
  exact call_isi pins s σ H [x, .ty n] us Q I r ⟨x, .ty n, .type t, .type n, b, rfl, .ty n, ty _, kit_ty e, q⟩
end
/-! ### names of the operators' readings -/
abbrev rPlus : R2 := rI0 fun i j => .int (i + j)
abbrev rMinus : R2 := rI0 fun i j => .int (i - j)
abbrev rTimes : R2 := rI CMul fun i j => .int (i * j)
abbrev rDiv : R2 := rI CDiv fun i j => .int (i / j)
abbrev rDivW : R2 := rI CDivW fun i j => .int (i / j)
abbrev rMod : R2 := rI (fun _ j => 0 < j) fun i j => .int (i % j)
abbrev rPow : R2 := rI CPow fun i j => .int (i ^ j.toNat)
abbrev rShl : R2 := rI CPow fun i j => .int (i * 2 ^ j.toNat)
abbrev rShr : R2 := rI (fun _ j => 0 ≤ j) fun i j => .int (i / 2 ^ j.toNat)
abbrev rBitAnd : R2 := rI0 fun i j => .int (Builtin.bitAnd i j)
abbrev rBitOr : R2 := rI0 fun i j => .int (Builtin.bitOr i j)
abbrev rBitXor : R2 := rI0 fun i j => .int (Builtin.bitXor i j)
abbrev rLt : R2 := rI0 fun i j => .bl (decide (i < j))
abbrev rLe : R2 := rI0 fun i j => .bl (decide (i ≤ j))
abbrev rGtI : R2 := rI0 fun i j => .bl (decide (j < i))
abbrev rGeI : R2 := rI0 fun i j => .bl (decide (j ≤ i))
abbrev rShlW : R2 := rI CShl fun i j => .int (i * 2 ^ j.toNat)
def rDivmod : List V → Hp → VK → Prop := fun xs H Q => ∃ i j, xs = [.int i, .int j] ∧ CDivP i j ∧ ∀ p, H p = none → Q (.ref p) (upd H p (.tup [.int (i / j), .int (i % j)]))
abbrev rNeg : V → Hp → VK → Prop := rU fun i => .int (-i)
/-! ### steps of a reading -/
section
variable {D : Ends} {σ : L2.St} {H : Hp} {Q : VK} {Qb : Bool → Hp → Prop} {ta tb te : TE} {t u v : TS} {c d : TT} {i : Nat} {x y z : V} {r : R2} {K : PySem.W.Frag}
theorem k_seq (h : t { D with nx := u D } σ H) : tSeq t u D σ H := h
theorem k_next (h : D.nx σ H) : tNext D σ H := h
theorem k_asg (h : te σ H fun x H1 => D.nx (σ.set i (some x)) H1) : tAsg te (gName i) D σ H := h
theorem k_drop (h : te σ H fun _ H1 => D.nx σ H1) : tDrop te D σ H := h
theorem k_ret (h : te σ H D.rt) : tRet te D σ H := h
theorem k_retN (h : D.rt .non H) : tRetN D σ H := h
theorem k_if (h : c σ H fun b H1 => if b = true then t D σ H1 else u D σ H1) : tIfS c t u D σ H := h
theorem k_var (h : σ[i]? = some (some x)) (q : Q x H) : tVar i σ H Q := ⟨x, h, q⟩
theorem k_c (q : Q x H) : tC x σ H Q := q
theorem k_op (h : ta σ H fun x H1 => tb σ H1 fun y H2 => r x y H2 Q) : tOp r ta tb σ H Q := h
theorem k_un {r : V → Hp → VK → Prop} (h : ta σ H fun x H1 => r x H1 Q) : tUn r ta σ H Q := h
theorem k_I0 {g : Int → Int → V} {a b : Int} (q : Q (g a b) H) : rI0 g (.int a) (.int b) H Q := ⟨a, b, rfl, rfl, q⟩
theorem k_I {C : Int → Int → Prop} {g : Int → Int → V} {a b : Int} (hc : C a b) (q : Q (g a b) H) : rI C g (.int a) (.int b) H Q := ⟨a, b, rfl, rfl, hc, q⟩
theorem k_U {g : Int → V} {a : Int} (q : Q (g a) H) : rU g (.int a) H Q := ⟨a, rfl, q⟩
theorem k_and1 {a : Int} (q : Q (.int (a % 2)) H) : rAnd1 (.int a) (.int 1) H Q := ⟨a, rfl, rfl, q⟩
theorem k_eqI {a b : Int} (q : Q (.bl (decide (a = b))) H) : rEq (.int a) (.int b) H Q := ⟨rfl, by
  have e : decide ((V.int a : V) = V.int b) = decide (a = b) := by simp
  rw [e]; exact q⟩
theorem k_neI {a b : Int} (q : Q (.bl (!decide (a = b))) H) : rNe (.int a) (.int b) H Q := ⟨rfl, by
  have e : decide ((V.int a : V) = V.int b) = decide (a = b) := by simp
  rw [e]; exact q⟩
theorem k_eq (hs : scal x y = true) (q : Q (.bl (decide (x = y))) H) : rEq x y H Q := ⟨hs, q⟩
theorem k_ne (hs : scal x y = true) (q : Q (.bl (!decide (x = y))) H) : rNe x y H Q := ⟨hs, q⟩
theorem k_isN (q : Q (.bl (decide (x = .non))) H) : rIsN x .non H Q := ⟨rfl, q⟩
theorem k_notN (q : Q (.bl (!decide (x = .non))) H) : rNotN x .non H Q := ⟨rfl, q⟩
def BlK (Qb : Bool → Hp → Prop) (x : V) (H : Hp) : Prop := ∃ k, x = .bl k ∧ Qb k H
theorem k_test (h : te σ H (BlK Qb)) : tTest te σ H Qb := h
theorem k_tB (h : te σ H (BlK Qb)) : tB te σ H Qb := h
theorem k_bl {b : Bool} (q : Qb b H) : BlK Qb (V.bl b) H := ⟨b, rfl, q⟩
theorem k_and (h : c σ H fun b H1 => if b = true then d σ H1 Qb else Qb false H1) : tAnd c d σ H Qb := h
theorem k_or (h : c σ H fun b H1 => if b = true then Qb true H1 else d σ H1 Qb) : tOr c d σ H Qb := h
theorem k_not (h : c σ H fun b H1 => Qb (!b) H1) : tNot c σ H Qb := h
def ChainK (Q : VK) (u : Hp → Prop) (z : V) (H : Hp) : Prop := ∃ k, z = .bl k ∧ (if k = true then u H else Q (.bl false) H)
theorem k_chain {r' : R2} {tc : TE} (h : ta σ H fun x H1 => tb σ H1 fun y H2 => r x y H2 (ChainK Q fun H3 => tc σ H3 fun w H4 => r' y w H4 Q)) : tChain r r' ta tb tc σ H Q := h
theorem k_chainE {u : Hp → Prop} {b : Bool} (h : if b = true then u H else Q (.bl false) H) : ChainK Q u (.bl b) H := ⟨b, rfl, h⟩
theorem k_andV (h : ta σ H (BlK fun k H1 => if k = true then tb σ H1 Q else Q (.bl false) H1)) : tAndV ta tb σ H Q := h
theorem k_orV (h : ta σ H (BlK fun k H1 => if k = true then Q (.bl true) H1 else tb σ H1 Q)) : tOrV ta tb σ H Q := h
theorem k_notV (h : ta σ H (BlK fun k H1 => Q (.bl (!k)) H1)) : tNotV ta σ H Q := h
theorem k_ifE (h : c σ H fun b H1 => if b = true then ta σ H1 Q else tb σ H1 Q) : tIf c ta tb σ H Q := h
theorem k_cons {Qv : List V → Hp → Prop} {tr : TA} (h : ta σ H fun x H1 => tr σ H1 fun xs H2 => Qv (x :: xs) H2) : tCons ta tr σ H Qv := h
theorem k_nil {Qv : List V → Hp → Prop} (h : Qv [] H) : tNil σ H Qv := h
theorem k_call {sp : Sp} {dvs : List V} {E : XK} {tr : TA} (h : tr σ H fun vs H1 => sp (vs ++ dvs) H1 Q E) : tCall sp dvs E tr σ H Q := h
theorem k_cb {rc : List V → Hp → VK → Prop} {tr : TA} (h : tr σ H fun vs H1 => rc vs H1 Q) : tCB rc tr σ H Q := h
theorem k_tup {tr : TA} (h : tr σ H fun xs H1 => xs.length ≤ sizeLine ∧ ∀ p, H1 p = none → Q (.ref p) (upd H1 p (.tup xs))) : tTup tr σ H Q := h
theorem k_lst {tr : TA} (h : tr σ H fun xs H1 => xs.length ≤ sizeLine ∧ ∀ p, H1 p = none → Q (.ref p) (upd H1 p (.lst xs))) : tLst tr σ H Q := h
theorem k_disp {A : Prop} {xs : List V} (h : xs.length ≤ 1000) (q : A) : xs.length ≤ sizeLine ∧ A := ⟨Nat.le_trans h (by decide), q⟩
theorem k_aug {ti : TIp} (hx : σ[i]? = some (some x)) (h : te σ H fun y H1 => ti x y H1 fun z H2 => D.nx (σ.set i (some z)) H2) : tAug i te ti D σ H := ⟨x, hx, h⟩
theorem k_ipI {f : Int → Int → Int} {a b : Int} (q : Q (.int (f a b)) H) : ipI f (.int a) (.int b) H Q := ⟨a, b, rfl, rfl, q⟩
theorem k_sl {rs : V → Option Int → Option Int → Hp → VK → Prop} {tl th : TO} (h : te σ H fun x H1 => tl σ H1 fun l H2 => th σ H2 fun u H3 => rs x l u H3 Q) : tSl rs te tl th σ H Q := h
def PartK (Qo : Option Int → Hp → Prop) (x : V) (H : Hp) : Prop := ∃ j, x = .int j ∧ Qo (some j) H
theorem k_part {Qo : Option Int → Hp → Prop} (h : te σ H (PartK Qo)) : tPart te σ H Qo := h
theorem k_partE {Qo : Option Int → Hp → Prop} {a : Int} (h : Qo (some a) H) : PartK Qo (.int a) H := ⟨a, rfl, h⟩
theorem k_noPart {Qo : Option Int → Hp → Prop} (h : Qo none H) : tNoPart σ H Qo := h
theorem k_bm {T : String} {rm : V → List V → Hp → VK → Prop} {tr : TA} (h : te σ H fun x H1 => tyV K T x H1 ∧ tr σ H1 fun xs H2 => rm x xs H2 Q) : tBM K T rm te tr σ H Q := h
theorem k_bm0 {T : String} {rm : V → List V → Hp → VK → Prop} (h : te σ H fun x H1 => tyV K T x H1 ∧ rm x [] H1 Q) : tBM0 K T rm te σ H Q := h
theorem k_app {l : Addr} {xs : List V} (h : H l = some (.lst xs)) (hl : xs.length < 100000) (q : Q .non (upd H l (.lst (xs ++ [y])))) : rAppend (.ref l) [y] H Q := ⟨l, xs, y, rfl, rfl, h, Nat.lt_of_lt_of_le hl (by decide), q⟩
theorem k_tyL {l : Addr} {xs : List V} {A : Prop} (h : SqL K H l xs) (q : A) : tyV K "list" (.ref l) H ∧ A := ⟨.inl ⟨rfl, _, h⟩, q⟩
theorem k_ixL {p : Addr} {xs : List V} {a : Int} (h : SqL K H p xs) (e : atI xs a = some x) (q : Q x H) : rIxL K (.ref p) (.int a) H Q := ⟨p, xs, a, x, rfl, rfl, h, e, q⟩
theorem k_ixT {p : Addr} {xs : List V} {a : Int} (h : SqT K H p xs) (e : atI xs a = some x) (q : Q x H) : rIxT K (.ref p) (.int a) H Q := ⟨p, xs, a, x, rfl, rfl, h, e, q⟩
theorem k_slL {p : Addr} {xs : List V} {lo hi : Option Int} (h : SqL K H p xs) (q : ∀ l, H l = none → Q (.ref l) (upd H l (.lst (cutV xs lo hi)))) : rSlL K (.ref p) lo hi H Q := ⟨p, xs, rfl, h, q⟩
def rLen (K : PySem.W.Frag) : List V → Hp → VK → Prop := fun xs H Q => ∃ p ys, xs = [.ref p] ∧ (SqL K H p ys ∨ SqT K H p ys) ∧ Q (.int ys.length) H
theorem call_lenK {X : Cx} : CallR X (.builtin "len") (rLen X.K) := call_len_seq
theorem k_lenL {p : Addr} {xs : List V} (h : SqL K H p xs) (q : Q (.int (xs.length : Int)) H) : rLen K [.ref p] H Q := ⟨p, xs, rfl, .inl h, q⟩
theorem k_lenT {p : Addr} {xs : List V} (h : SqT K H p xs) (q : Q (.int (xs.length : Int)) H) : rLen K [.ref p] H Q := ⟨p, xs, rfl, .inr h, q⟩
def rInsert : V → List V → Hp → VK → Prop := fun x vs H Q => ∃ (l : Addr) (xs : List V) (i : Int) (y : V), x = .ref l ∧ vs = [.int i, y] ∧ H l = some (.lst xs) ∧ xs.length < sizeLine ∧ 0 ≤ i ∧ i < 2 ^ 63 ∧ Q .non (upd H l (.lst (xs.take i.toNat ++ [y] ++ xs.drop i.toNat)))
theorem k_insert {l : Addr} {xs : List V} {i : Nat} (h : H l = some (.lst xs)) (hz : xs.length ≤ 100000) (hi : i ≤ 100000) (q : Q .non (upd H l (.lst (xs.take i ++ [y] ++ xs.drop i)))) : rInsert (.ref l) [.int (i : Int), y] H Q := ⟨l, xs, i, y, rfl, rfl, h, Nat.lt_of_le_of_lt hz (by decide), by omega, by omega, by rw [Int.toNat_natCast]; exact q⟩
theorem k_popAt {l : Addr} {xs : List V} {i : Nat} (h : H l = some (.lst xs)) (hi : i < xs.length) (hz : xs.length ≤ 100000) (e : xs[i]? = some y) (q : Q y (upd H l (.lst (xs.eraseIdx i)))) : rPopAt (.ref l) [.int (i : Int)] H Q := ⟨l, xs, i, i, y, rfl, rfl, h, by omega, by omega, by unfold PySem.seqIndex?; simp; omega, e, q⟩
theorem k_clear {l : Addr} {xs : List V} (h : H l = some (.lst xs)) (q : Q .non (upd H l (.lst []))) : rClear (.ref l) [] H Q := ⟨l, xs, rfl, rfl, h, q⟩
theorem k_extend {l b : Addr} {xs zs : List V} (h : H l = some (.lst xs)) (h2 : H b = some (.lst zs)) (hn : xs.length + zs.length ≤ 1000000) (q : Q .non (upd H l (.lst (xs ++ zs)))) : rExtend (.ref l) [.ref b] H Q := ⟨l, b, xs, zs, rfl, rfl, h, h2, Nat.le_trans hn (by decide), q⟩
theorem k_pop {l : Addr} {xs : List V} (h : H l = some (.lst (xs ++ [y]))) (q : Q y (upd H l (.lst xs))) : rPop (.ref l) [] H Q := ⟨l, xs ++ [y], y, rfl, rfl, h, by simp, by rw [List.dropLast_concat]; exact q⟩
def rInt1 : List V → Hp → VK → Prop := fun xs H Q => (∃ i, xs = [.int i] ∧ Q (.int i) H) ∨ ∃ k : Bool, xs = [.bl k] ∧ Q (.int (if k then 1 else 0)) H
theorem k_intB {k : Bool} (q : Q (.int (if k then 1 else 0)) H) : rInt1 [.bl k] H Q := .inr ⟨k, rfl, q⟩
def rTupOf (K : PySem.W.Frag) : List V → Hp → VK → Prop := fun xs H Q => ∃ p ys, xs = [.ref p] ∧ ((SqL K H p ys ∧ ∀ l, H l = none → Q (.ref l) (upd H l (.tup ys))) ∨ (SqT K H p ys ∧ Q (.ref p) H))
theorem call_tupK {X : Cx} : CallR X (.type "tuple") (rTupOf X.K) := call_tuple_of
theorem k_tupL {p : Addr} {xs : List V} (h : SqL K H p xs) (q : ∀ l, H l = none → Q (.ref l) (upd H l (.tup xs))) : rTupOf K [.ref p] H Q := ⟨p, xs, rfl, .inl ⟨h, q⟩⟩
def rLenStr : List V → Hp → VK → Prop := fun xs H Q => ∃ z : Str, xs = [.str z] ∧ z.length ≤ sizeLine ∧ Q (.int z.length) H
def rAddStr : R2 := fun x y H Q => ∃ i j : Str, x = .str i ∧ y = .str j ∧ i.length + j.length ≤ sizeLine ∧ Q (.str (i ++ j)) H
def rAbs : List V → Hp → VK → Prop := fun xs H Q => ∃ i, xs = [.int i] ∧ Q (.int (if i < 0 then -i else i)) H
theorem k_abs {a : Int} (q : Q (.int (if a < 0 then -a else a)) H) : rAbs [.int a] H Q := ⟨a, rfl, q⟩
def rMin2 : List V → Hp → VK → Prop := fun xs H Q => ∃ i j, xs = [.int i, .int j] ∧ Q (.int (if j < i then j else i)) H
def rMax2 : List V → Hp → VK → Prop := fun xs H Q => ∃ i j, xs = [.int i, .int j] ∧ Q (.int (if j > i then j else i)) H
theorem call_min2K {X : Cx} (hc : X.calm = true) : CallR X (.builtin "min") rMin2 := call_min2 hc
theorem call_max2K {X : Cx} (hc : X.calm = true) : CallR X (.builtin "max") rMax2 := call_max2 hc
theorem k_min2 {a b : Int} (q : Q (.int (if b < a then b else a)) H) : rMin2 [.int a, .int b] H Q := ⟨a, b, rfl, q⟩
theorem k_max2 {a b : Int} (q : Q (.int (if b > a then b else a)) H) : rMax2 [.int a, .int b] H Q := ⟨a, b, rfl, q⟩
def rListOf (K : PySem.W.Frag) : List V → Hp → VK → Prop := fun xs H Q => ∃ p ys, xs = [.ref p] ∧ (SqL K H p ys ∨ SqT K H p ys) ∧ ∀ l, H l = none → Q (.ref l) (upd H l (.lst ys))
theorem call_listK {X : Cx} : CallR X (.type "list") (rListOf X.K) := call_list_of
theorem k_listL {p : Addr} {xs : List V} (h : SqL K H p xs) (q : ∀ l, H l = none → Q (.ref l) (upd H l (.lst xs))) : rListOf K [.ref p] H Q := ⟨p, xs, rfl, .inl h, q⟩
theorem k_sum {p : Addr} {ns : List Int} (h : SqL K H p (ns.map V.int)) (q : Q (.int ns.sum) H) : rSum K [.ref p] H Q := ⟨p, ns, rfl, h, q⟩
theorem k_isInt {a : Int} (q : Q (.bl true) H) : rIsB [.int a, .ty "int"] H Q := ⟨.int a, "int", rfl, "int", true, fun _ => .base (.int a), by decide +kernel, q⟩
theorem k_isBool {a : Int} (q : Q (.bl false) H) : rIsB [.int a, .ty "bool"] H Q := ⟨.int a, "bool", rfl, "int", false, fun _ => .base (.int a), by decide +kernel, q⟩
theorem k_isBoolB {b : Bool} (q : Q (.bl true) H) : rIsB [.bl b, .ty "bool"] H Q := ⟨.bl b, "bool", rfl, "bool", true, fun _ => .base (.bl b), by decide +kernel, q⟩
theorem k_isIntB {b : Bool} (q : Q (.bl true) H) : rIsB [.bl b, .ty "int"] H Q := ⟨.bl b, "int", rfl, "bool", true, fun _ => .base (.bl b), by decide +kernel, q⟩
theorem k_isIntN (q : Q (.bl false) H) : rIsB [.non, .ty "int"] H Q := ⟨.non, "int", rfl, "NoneType", false, fun _ => .base .non, by decide +kernel, q⟩
theorem k_isList {a : Addr} {xs : List V} (h : H a = some (.lst xs)) (q : Q (.bl true) H) : rIsB [.ref a, .ty "list"] H Q := ⟨.ref a, "list", rfl, "list", true, fun _ => .base (.lst h), by decide +kernel, q⟩
theorem k_isTup {a : Addr} {xs : List V} (h : H a = some (.tup xs)) (q : Q (.bl true) H) : rIsB [.ref a, .ty "tuple"] H Q := ⟨.ref a, "tuple", rfl, "tuple", true, fun _ => .base (.tup h), by decide +kernel, q⟩
/-! ends -/
theorem k_nx {nx : L2.St → Hp → Prop} {rt : VK} {bk ct : L2.St → Hp → Prop} (h : nx σ H) : (Ends.mk nx rt bk ct).nx σ H := h
theorem k_rt {nx : L2.St → Hp → Prop} {rt : VK} {bk ct : L2.St → Hp → Prop} (h : rt x H) : (Ends.mk nx rt bk ct).rt x H := h
/-! ifs -/
theorem k_dec {p A B : Prop} [Decidable p] (h1 : p → A) (h2 : ¬ p → B) : if decide p = true then A else B := by
  by_cases h : p
  · rw [if_pos (decide_eq_true h)]; exact h1 h
  · rw [if_neg (fun z => h (of_decide_eq_true z))]; exact h2 h
theorem k_ndec {p A B : Prop} [Decidable p] (h1 : ¬ p → A) (h2 : p → B) : if (!decide p) = true then A else B := by
  by_cases h : p
  · rw [if_neg (by rw [decide_eq_true h]; decide)]; exact h2 h
  · rw [if_pos (by rw [decide_eq_false h]; decide)]; exact h1 h
theorem k_decT {p A B : Prop} [Decidable p] (h : p) (q : A) : if decide p = true then A else B := k_dec (fun _ => q) (fun z => absurd h z)
theorem k_decF {p A B : Prop} [Decidable p] (h : ¬ p) (q : B) : if decide p = true then A else B := k_dec (fun z => absurd z h) (fun _ => q)
theorem k_ndecT {p A B : Prop} [Decidable p] (h : p) (q : B) : if (!decide p) = true then A else B := k_ndec (fun z => absurd h z) (fun _ => q)
theorem k_ndecF {p A B : Prop} [Decidable p] (h : ¬ p) (q : A) : if (!decide p) = true then A else B := k_ndec (fun _ => q) (fun z => absurd z h)
theorem k_yes (h : Qb true H) : tYes σ H Qb := h
theorem k_T {A B : Prop} (q : A) : if true = true then A else B := iteT q
theorem k_F {A B : Prop} (q : B) : if false = true then A else B := iteF q
theorem k_nT {A B : Prop} (q : B) : if (!true) = true then A else B := iteF q
theorem k_nF {A B : Prop} (q : A) : if (!false) = true then A else B := iteT q
end
/-! ### items -/
theorem at_nat {α : Type} {xs : List α} {i : Nat} {x : α} (h : xs[i]? = some x) : atI xs (i : Int) = some x := atI_nat h
theorem at_int {α : Type} {xs : List α} {i : Int} {x : α} (h0 : 0 ≤ i) (h : xs[i.toNat]? = some x) : atI xs i = some x := by
  have e : i = ((i.toNat : Nat) : Int) := by omega
  rw [e]; exact atI_nat h
theorem mapint {ns : List Int} {i : Nat} {n : Int} (h : ns[i]? = some n) : (ns.map V.int)[i]? = some (.int n) := by
  rw [List.getElem?_map, h]; rfl
theorem of_mapint {ns : List Int} {i : Nat} {v : V} (h : (ns.map V.int)[i]? = some v) : ∃ n, ns[i]? = some n ∧ v = .int n := by
  rw [List.getElem?_map] at h
  cases e : ns[i]? with
  | none => rw [e] at h; cases h
  | some n => rw [e] at h; exact ⟨n, rfl, (Option.some.inj h).symm⟩
theorem cutTake (xs : List V) (n : Nat) : cutV xs none (some (n : Int)) = xs.take n := by
  unfold cutV
  rw [HT.sIx_none, HT.sIx_nat, List.drop_zero, Nat.sub_zero]
  rcases Nat.le_total n xs.length with h | h
  · rw [Nat.min_eq_left h]
  · rw [Nat.min_eq_right h, List.take_length, List.take_of_length_le h]
/-! ### steps on ends that are written out; loops -/
section
variable {σ : L2.St} {H : Hp} {Q rt : VK} {nx bk ct : L2.St → Hp → Prop} {t u tb : TS} {g : TG} {wi : TI} {c : TT} {i : Nat} {x : V} {K : PySem.W.Frag}
theorem m_seq (h : t (Ends.mk (u (Ends.mk nx rt bk ct)) rt bk ct) σ H) : tSeq t u (Ends.mk nx rt bk ct) σ H := h
theorem m_cut (Mid : L2.St → Hp → Prop) (h : t (Ends.mk Mid rt bk ct) σ H) (k : ∀ σ' H', Mid σ' H' → u (Ends.mk nx rt bk ct) σ' H') : Evl.tCut t u (Ends.mk nx rt bk ct) σ H := ⟨Mid, h, k⟩
theorem m_cut0 (h : t (Ends.mk (u (Ends.mk nx rt bk ct)) rt bk ct) σ H) : Evl.tCut t u (Ends.mk nx rt bk ct) σ H := ⟨_, h, fun _ _ x => x⟩
theorem m_bk (h : bk σ H) : tBreak (Ends.mk nx rt bk ct) σ H := h
theorem m_ct (h : ct σ H) : tCont (Ends.mk nx rt bk ct) σ H := h
theorem m_next (h : nx σ H) : tNext (Ends.mk nx rt bk ct) σ H := h
theorem m_gName {Qs : L2.St → Hp → Prop} (h : Qs (σ.set i (some x)) H) : gName i x σ H Qs := h
theorem m_call {sp : Sp} {E : XK} {tr : TA} (h : tr σ H fun vs H1 => sp vs H1 Q E) : tCall sp [] E tr σ H Q := by
  have e : (fun (vs : List V) (H1 : Hp) => sp (vs ++ []) H1 Q E) = fun vs H1 => sp vs H1 Q E := by
    funext vs H1; rw [List.append_nil]
  show tr σ H fun vs H1 => sp (vs ++ []) H1 Q E
  rw [e]; exact h
/-- a for loop over what J yields -/
def LoopOk (J : It) (g : TG) (tb : TS) (nx : L2.St → Hp → Prop) (rt : VK) (σ : L2.St) (H : Hp) : Prop :=
  ∃ W : Nat → Nat → L2.St → Hp → Prop, (∃ m, W 0 m σ H) ∧ ∀ i m σ H, W i m σ H →
  (J.stop i H ∧ nx σ H) ∨ (J.go i H ∧ ∃ N : L2.St → Hp → Prop, (∀ σ' H', N σ' H' → ∃ m', m' < m ∧ W (i + 1) m' σ' H') ∧ ∀ x H', J.yld i H x H' → g x σ H' fun σ2 H2 => tb (Ends.mk N rt nx N) σ2 H2)
theorem m_for (h : wi σ H fun J H1 => LoopOk J g tb nx rt σ H1) : tFor wi g tb (Ends.mk nx rt bk ct) σ H := h
def Rng1K (R : It → Hp → Prop) (vs : List V) (H : Hp) : Prop := ∃ j : Int, vs = [.int j] ∧ -(2 ^ 62) ≤ j ∧ j < 2 ^ 62 ∧ R (Itr 0 j.toNat) H
theorem m_rng1 {ta : TA} {R : It → Hp → Prop} (h : ta σ H (Rng1K R)) : iRng1 ta σ H R := h
theorem m_rng1e {R : It → Hp → Prop} {a : Int} (h1 : -(2 ^ 62) ≤ a ∧ a < 2 ^ 62) (h : R (Itr 0 a.toNat) H) : Rng1K R [V.int a] H := ⟨a, rfl, h1.1, h1.2, h⟩
theorem m_rng1n {R : It → Hp → Prop} {a : Nat} (h1 : (a : Int) < 2 ^ 62) (h : R (Itr 0 a) H) : Rng1K R [V.int (a : Int)] H := ⟨a, rfl, by omega, h1, by rw [Int.toNat_natCast]; exact h⟩
def Rng2K (R : It → Hp → Prop) (vs : List V) (H : Hp) : Prop := ∃ i j : Int, vs = [.int i, .int j] ∧ (-(2 ^ 62) ≤ i ∧ i < 2 ^ 62 ∧ -(2 ^ 62) ≤ j ∧ j < 2 ^ 62) ∧ R (Itr i (j - i).toNat) H
theorem m_rng2 {ta : TA} {R : It → Hp → Prop} (h : ta σ H (Rng2K R)) : iRng2 ta σ H R := h
theorem m_rng2e {R : It → Hp → Prop} {a b : Int} (h1 : -(2 ^ 62) ≤ a ∧ a < 2 ^ 62 ∧ -(2 ^ 62) ≤ b ∧ b < 2 ^ 62) (h : R (Itr a (b - a).toNat) H) : Rng2K R [V.int a, V.int b] H := ⟨a, b, rfl, h1, h⟩
def ListK (K : PySem.W.Frag) (R : It → Hp → Prop) (x : V) (H : Hp) : Prop := ∃ a, x = .ref a ∧ (∃ xs, SqL K H a xs) ∧ R (Itl K a) H
theorem m_iL {tl : TE} {R : It → Hp → Prop} (h : tl σ H (ListK K R)) : iList K tl σ H R := h
theorem m_iLe {R : It → Hp → Prop} {a : Addr} {xs : List V} (hx : SqL K H a xs) (h : R (Itl K a) H) : ListK K R (V.ref a) H := ⟨a, rfl, ⟨xs, hx⟩, h⟩
def TupK (K : PySem.W.Frag) (R : It → Hp → Prop) (x : V) (H : Hp) : Prop := ∃ a, x = .ref a ∧ (∃ xs, SqT K H a xs) ∧ R (Itt K a) H
theorem m_iT {tl : TE} {R : It → Hp → Prop} (h : tl σ H (TupK K R)) : iTup K tl σ H R := h
theorem m_iTe {R : It → Hp → Prop} {a : Addr} {xs : List V} (hx : SqT K H a xs) (h : R (Itt K a) H) : TupK K R (V.ref a) H := ⟨a, rfl, ⟨xs, hx⟩, h⟩
def iSeq (K : PySem.W.Frag) (tl : TE) : TI := fun σ H R => iList K tl σ H R ∨ iTup K tl σ H R
theorem m_seqL {tl : TE} {R : It → Hp → Prop} (h : tl σ H (ListK K R)) : iSeq K tl σ H R := .inl h
theorem m_seqT {tl : TE} {R : It → Hp → Prop} (h : tl σ H (TupK K R)) : iSeq K tl σ H R := .inr h
theorem pi_seq {X : Cx} {tg l : Expr} {tl : TE} (hl : PE X l tl) : PI X tg l (iSeq X.K tl) := ⟨fun pins s σ H R I h => h.elim (fun h => (pi_list hl).run pins s σ H R I h) fun h => (pi_tup hl).run pins s σ H R I h⟩
theorem loop_range {lo : Int} {n : Nat} (Pv : Nat → L2.St → Hp → Prop) (h0 : Pv 0 σ H)
    (hs : ∀ i σ H, i < n → Pv i σ H → g (.int (lo + i)) σ H fun σ2 H2 => tb (Ends.mk (Pv (i + 1)) rt nx (Pv (i + 1))) σ2 H2) (hd : ∀ σ H, Pv n σ H → nx σ H) : LoopOk (Itr lo n) g tb nx rt σ H :=
  for_range (D := Ends.mk nx rt nx nx) Pv h0 hs hd
theorem loop_range0 {n : Nat} (Pv : Nat → L2.St → Hp → Prop) (h0 : Pv 0 σ H)
    (hs : ∀ (i : Nat) σ H, i < n → Pv i σ H → g (.int (i : Int)) σ H fun σ2 H2 => tb (Ends.mk (Pv (i + 1)) rt nx (Pv (i + 1))) σ2 H2) (hd : ∀ σ H, Pv n σ H → nx σ H) : LoopOk (Itr 0 n) g tb nx rt σ H :=
  loop_range Pv h0 (fun i σ H hi p => by rw [Int.zero_add]; exact hs i σ H hi p) hd
theorem loop_list {a : Addr} {xs : List V} (Pv : Nat → L2.St → Hp → Prop) (h0 : Pv 0 σ H) (hl : ∀ i σ H, i ≤ xs.length → Pv i σ H → SqL K H a xs)
    (hs : ∀ i x σ H, xs[i]? = some x → Pv i σ H → g x σ H fun σ2 H2 => tb (Ends.mk (Pv (i + 1)) rt nx (Pv (i + 1))) σ2 H2) (hd : ∀ σ H, Pv xs.length σ H → nx σ H) : LoopOk (Itl K a) g tb nx rt σ H :=
  for_list (D := Ends.mk nx rt nx nx) Pv h0 hl hs hd
/-- over a list of ints -/
theorem loop_ints {a : Addr} {ns : List Int} (Pv : Nat → L2.St → Hp → Prop) (h0 : Pv 0 σ H) (hl : ∀ i σ H, Pv i σ H → SqL K H a (ns.map V.int))
    (hs : ∀ i n σ H, ns[i]? = some n → Pv i σ H → g (.int n) σ H fun σ2 H2 => tb (Ends.mk (Pv (i + 1)) rt nx (Pv (i + 1))) σ2 H2) (hd : ∀ σ H, Pv ns.length σ H → nx σ H) : LoopOk (Itl K a) g tb nx rt σ H :=
  loop_list (xs := ns.map V.int) Pv h0 (fun i σ H _ p => hl i σ H p) (fun i x σ H hx p => by
    obtain ⟨n, hn, rfl⟩ := of_mapint hx
    exact hs i n σ H hn p) (fun σ H p => hd σ H (by rw [List.length_map] at p; exact p))
theorem loop_tup {a : Addr} {xs : List V} (Pv : Nat → L2.St → Hp → Prop) (h0 : Pv 0 σ H) (hl : ∀ i σ H, i ≤ xs.length → Pv i σ H → SqT K H a xs)
    (hs : ∀ i x σ H, xs[i]? = some x → Pv i σ H → g x σ H fun σ2 H2 => tb (Ends.mk (Pv (i + 1)) rt nx (Pv (i + 1))) σ2 H2) (hd : ∀ σ H, Pv xs.length σ H → nx σ H) : LoopOk (Itt K a) g tb nx rt σ H :=
  for_tup (D := Ends.mk nx rt nx nx) Pv h0 hl hs hd
def WBody (W : Nat → L2.St → Hp → Prop) (m : Nat) (tb : TS) (rt : VK) (nx : L2.St → Hp → Prop) (σ : L2.St) (H : Hp) : Prop :=
  ∃ N : L2.St → Hp → Prop, (∀ σ' H', N σ' H' → ∃ m', m' < m ∧ W m' σ' H') ∧ tb (Ends.mk N rt nx N) σ H
theorem m_wbody {W : Nat → L2.St → Hp → Prop} {m : Nat} (h : tb (Ends.mk (fun σ' H' => ∃ m', m' < m ∧ W m' σ' H') rt nx (fun σ' H' => ∃ m', m' < m ∧ W m' σ' H')) σ H) : WBody W m tb rt nx σ H := ⟨_, fun _ _ h => h, h⟩
theorem loop_while (W : Nat → L2.St → Hp → Prop) (m : Nat) (h0 : W m σ H)
    (hs : ∀ m σ H, W m σ H → c σ H fun b H1 => if b = true then WBody W m tb rt nx σ H1 else nx σ H1) : tWhile c tb (Ends.mk nx rt bk ct) σ H := ⟨W, ⟨m, h0⟩, hs⟩
/-- a comprehension over what J yields -/
def CompOk (J : It) (g : TG) (tt : TT) (te : TE) (vs : List Nat) (σ : L2.St) (H1 : Hp) (Q : VK) : Prop :=
  ∀ D, H1 D = none → ∃ W : Nat → Nat → Hp → Prop, (∃ m, W 0 m (upd H1 D (.lst []))) ∧ ∀ i m H, W i m H →
  (J.stop i H ∧ Q (.ref D) H) ∨ (J.go i H ∧ ∃ Nx : Hp → Prop, (∀ H', Nx H' → ∃ m', m' < m ∧ W (i + 1) m' H') ∧ ∀ x H', J.yld i H x H' → g x (wipe σ vs) H' fun σ2 H2 => wipe σ2 vs = wipe σ vs ∧ tt σ2 H2 fun b H3 =>
    if b = true then te σ2 H3 fun y H4 => ∃ acc, H4 D = some (.lst acc) ∧ acc.length < sizeLine ∧ Nx (upd H4 D (.lst (acc ++ [y]))) else Nx H3)
theorem m_lc {tt : TT} {te : TE} {vs : List Nat} (h : wi σ H fun J H1 => CompOk J g tt te vs σ H1 Q) : tLc wi g tt te vs σ H Q := h
/-- over a range, no test, pure elements f i: the list made -/
theorem comp_rangeV {n : Nat} {te : TE} {j : Nat} {f : Nat → V} (hn : n ≤ 100000)
    (he : ∀ (k : Nat) (H2 : Hp) (Q2 : VK), k < n → Same H H2 → (∀ H3, Same H2 H3 → Q2 (f k) H3) → te ((wipe σ [j]).set j (some (.int (k : Int)))) H2 Q2)
    (q : ∀ p H', H p = none → Same H H' → H' p = some (.lst ((List.range n).map f)) → Q (.ref p) H') (hw : ∀ x, wipe ((wipe σ [j]).set j (some x)) [j] = wipe σ [j] := by intro _; rfl) : CompOk (Itr 0 n) (gName j) tYes te [j] σ H Q := by
  intro Dl hD
  refine lc_range (lo := 0) (n := n) (fun i H' => Same H H' ∧ H' Dl = some (.lst ((List.range i).map f))) ⟨same_new hD, upd_same⟩ (fun i H' hi p => ?_) (fun H' p => q Dl H' hD p.1 p.2)
  obtain ⟨p1, p2⟩ := p
  refine ⟨hw _, ?_⟩
  refine k_yes (iteT ?_)
  rw [Int.zero_add]
  refine he i H' _ hi p1 (fun H3 s3 => ⟨_, s3.get p2, ?_, Same.mut (p1.trans s3) hD ⟨_, s3.get p2⟩, ?_⟩)
  · rw [List.length_map, List.length_range]; exact Nat.lt_of_lt_of_le (Nat.lt_of_lt_of_le hi hn) (by decide)
  · rw [upd_same, List.range_succ, List.map_append]; rfl
/-- over a list, no test, pure elements -/
theorem comp_listV {a : Addr} {xs ys : List V} {te : TE} {j : Nat} (hl : SqL K H a xs) (hn : xs.length ≤ 100000) (hy : ys.length = xs.length)
    (he : ∀ (k : Nat) (x y : V) (H2 : Hp) (Q2 : VK), xs[k]? = some x → ys[k]? = some y → Same H H2 → (∀ H3, Same H2 H3 → Q2 y H3) → te ((wipe σ [j]).set j (some x)) H2 Q2)
    (q : ∀ p H', H p = none → Same H H' → H' p = some (.lst ys) → Q (.ref p) H') (hw : ∀ x, wipe ((wipe σ [j]).set j (some x)) [j] = wipe σ [j] := by intro _; rfl) : CompOk (Itl K a) (gName j) tYes te [j] σ H Q := by
  intro Dl hD
  refine lc_list (xs := xs) (fun i H' => Same H H' ∧ H' Dl = some (.lst (ys.take i))) ⟨same_new hD, upd_same⟩ (fun i H' _ p => p.1.seq hl) (fun i x H' hi p => ?_) (fun H' p => q Dl H' hD p.1 (by rw [p.2, ← hy, List.take_length]))
  obtain ⟨p1, p2⟩ := p
  refine ⟨hw _, ?_⟩
  refine k_yes (iteT ?_)
  have hlt : i < xs.length := (List.getElem?_eq_some_iff.mp hi).1
  obtain ⟨y, ey⟩ : ∃ y, ys[i]? = some y := ⟨ys[i]'(by omega), List.getElem?_eq_getElem (by omega)⟩
  refine he i x y H' _ hi ey p1 (fun H3 s3 => ⟨_, s3.get p2, ?_, Same.mut (p1.trans s3) hD ⟨_, s3.get p2⟩, ?_⟩)
  · rw [List.length_take]; exact Nat.lt_of_le_of_lt (Nat.min_le_right _ _) (Nat.lt_of_lt_of_le (show ys.length < 100001 by omega) (by decide))
  · rw [upd_same, List.take_add_one, ey]; rfl
/-- over a list, no test, elements of which something is known -/
theorem comp_listP {a : Addr} {xs : List V} {te : TE} {j : Nat} (P : Nat → V → Prop) (hl : SqL K H a xs) (hn : xs.length ≤ 100000)
    (he : ∀ (k : Nat) (x : V) (H2 : Hp) (Q2 : VK), xs[k]? = some x → Same H H2 → (∀ y H3, P k y → Same H2 H3 → Q2 y H3) → te ((wipe σ [j]).set j (some x)) H2 Q2)
    (q : ∀ p H' ys, H p = none → Same H H' → H' p = some (.lst ys) → ys.length = xs.length → (∀ k y, ys[k]? = some y → P k y) → Q (.ref p) H') (hw : ∀ x, wipe ((wipe σ [j]).set j (some x)) [j] = wipe σ [j] := by intro _; rfl) : CompOk (Itl K a) (gName j) tYes te [j] σ H Q := by
  intro Dl hD
  refine lc_list (xs := xs) (fun i H' => Same H H' ∧ ∃ ys, H' Dl = some (.lst ys) ∧ ys.length = i ∧ ∀ k y, ys[k]? = some y → P k y) ⟨same_new hD, [], upd_same, rfl, fun k y e => by simp at e⟩ (fun i H' _ p => p.1.seq hl) (fun i x H' hi p => ?_) (fun H' p => ?_)
  · obtain ⟨p1, ys, p2, p3, p4⟩ := p
    refine ⟨hw _, ?_⟩
    refine k_yes (iteT ?_)
    have hlt : i < xs.length := (List.getElem?_eq_some_iff.mp hi).1
    refine he i x H' _ hi p1 (fun y H3 hy s3 => ⟨_, s3.get p2, by rw [p3]; exact Nat.lt_of_lt_of_le (Nat.lt_of_lt_of_le hlt hn) (by decide), Same.mut (p1.trans s3) hD ⟨_, s3.get p2⟩, ys ++ [y], upd_same, by rw [List.length_append, p3]; rfl, fun k z e => ?_⟩)
    rcases Nat.lt_or_ge k ys.length with w | w
    · rw [List.getElem?_append_left w] at e; exact p4 k z e
    · rw [List.getElem?_append_right w] at e
      obtain ⟨h1, h2⟩ := List.getElem?_eq_some_iff.mp e
      rw [List.length_singleton] at h1
      have hk : k = i := by omega
      have e2 : z = y := by
        rw [show k - ys.length = 0 by omega] at e
        exact (Option.some.inj e).symm
      rw [hk, e2]; exact hy
  · obtain ⟨p1, ys, p2, p3, p4⟩ := p
    exact q Dl H' ys hD p1 p2 p3 p4
end
/-! ### loops over any walk -/
section
variable {σ : L2.St} {H : Hp} {Q rt : VK} {nx bk ct : L2.St → Hp → Prop} {t u tb : TS} {g : TG} {i : Nat} {x : V} {K : PySem.W.Frag} {J : It} {n : Nat} {G : Hp → Prop} {Y : Nat → Hp → V → Hp → Prop}
theorem loop_walk (w : Walk J n G Y) (Pv : Nat → L2.St → Hp → Prop) (h0 : Pv 0 σ H) (hG : ∀ i σ H, Pv i σ H → G H)
    (hs : ∀ i x σ H H', i < n → Pv i σ H → Y i H x H' → g x σ H' fun σ2 H2 => tb (Ends.mk (Pv (i + 1)) rt nx (Pv (i + 1))) σ2 H2) (hd : ∀ σ H, Pv n σ H → nx σ H) : LoopOk J g tb nx rt σ H :=
  for_it (D := Ends.mk nx rt nx nx) w Pv h0 (fun i σ H _ p => hG i σ H p) hs hd
/-- a comprehension with a test: at each turn the item is dropped, or f i is kept -/
theorem comp_walkV {te : TE} {tt : TT} {j : Nat} {f : Nat → Option V} (w : Walk J n G Y) (hn : n ≤ 100000) (hG : ∀ H', Same H H' → G H')
    (he : ∀ (k : Nat) (x : V) (H1 H2 : Hp) (Qb : Bool → Hp → Prop), k < n → Same H H1 → Y k H1 x H2 → (∀ b H3, Same H1 H3 → (b = true → ∀ Q2 : VK, ∀ H4, Same H3 H4 → ∃ y, f k = some y ∧ ((∀ H5, Same H4 H5 → Q2 y H5) → te ((wipe σ [j]).set j (some x)) H4 Q2)) → (b = false → f k = none) → Qb b H3) → tt ((wipe σ [j]).set j (some x)) H2 Qb)
    (q : ∀ p H', H p = none → Same H H' → H' p = some (.lst ((List.range n).filterMap f)) → Q (.ref p) H') (hw : ∀ x, wipe ((wipe σ [j]).set j (some x)) [j] = wipe σ [j] := by intro _; rfl) : CompOk J (gName j) tt te [j] σ H Q := by
  intro Dl hD
  refine lc_it w (fun i H' => Same H H' ∧ H' Dl = some (.lst ((List.range i).filterMap f))) ⟨same_new hD, upd_same⟩ (fun i H' _ p => hG H' p.1) (fun i x H' H'' hi p hy => ?_) (fun H' p => q Dl H' hD p.1 p.2)
  obtain ⟨p1, p2⟩ := p
  refine ⟨hw _, he i x H' H'' _ hi p1 hy (fun b H3 s3 hb1 hb0 => ?_)⟩
  have hl : ((List.range i).filterMap f).length < sizeLine := Nat.lt_of_le_of_lt (List.length_filterMap_le f (List.range i)) (by rw [List.length_range]; exact Nat.lt_of_lt_of_le (Nat.lt_of_lt_of_le hi hn) (by decide))
  cases b with
  | true =>
    refine iteT ?_
    obtain ⟨y, ey, go⟩ := hb1 rfl (fun y H4 => ∃ acc, H4 Dl = some (.lst acc) ∧ acc.length < sizeLine ∧ Same H (upd H4 Dl (.lst (acc ++ [y]))) ∧ upd H4 Dl (.lst (acc ++ [y])) Dl = some (.lst ((List.range (i + 1)).filterMap f))) H3 (Same.refl _)
    refine go fun H5 s5 => ⟨_, s5.get (s3.get p2), hl, Same.mut ((p1.trans s3).trans s5) hD ⟨_, s5.get (s3.get p2)⟩, ?_⟩
    rw [upd_same, List.range_succ, List.filterMap_append]
    show _ = some (HO.lst (_ ++ List.filterMap f [i]))
    rw [List.filterMap_cons, ey]; rfl
  | false =>
    refine iteF ⟨p1.trans s3, ?_⟩
    rw [List.range_succ, List.filterMap_append]
    rw [show List.filterMap f [i] = [] by rw [List.filterMap_cons, hb0 rfl]; rfl, List.append_nil]
    exact s3.get p2
theorem k_rev {a : Addr} {xs : List V} {ta : TA} {R : It → Hp → Prop} (h : ta σ H fun vs H1 => ∃ (a : Addr) (xs : List V), vs = [.ref a] ∧ SqL K H1 a xs ∧ R (Itv K a xs.length) H1) : iRev K ta σ H R := h
def RevK (K : PySem.W.Frag) (R : It → Hp → Prop) (vs : List V) (H : Hp) : Prop := ∃ (a : Addr) (xs : List V), vs = [.ref a] ∧ SqL K H a xs ∧ R (Itv K a xs.length) H
theorem m_rev {ta : TA} {R : It → Hp → Prop} (h : ta σ H (RevK K R)) : iRev K ta σ H R := h
theorem m_revE {a : Addr} {xs : List V} {R : It → Hp → Prop} (hx : SqL K H a xs) (h : R (Itv K a xs.length) H) : RevK K R [.ref a] H := ⟨a, xs, rfl, hx, h⟩
def EnumK (K : PySem.W.Frag) (R : It → Hp → Prop) (vs : List V) (H : Hp) : Prop := ∃ (a : Addr) (xs : List V), vs = [.ref a] ∧ SqL K H a xs ∧ R (Ite K a) H
theorem m_enum {ta : TA} {R : It → Hp → Prop} (h : ta σ H (EnumK K R)) : iEnum K ta σ H R := h
theorem m_enumE {a : Addr} {xs : List V} {R : It → Hp → Prop} (hx : SqL K H a xs) (h : R (Ite K a) H) : EnumK K R [.ref a] H := ⟨a, xs, rfl, hx, h⟩
def ZipK (K : PySem.W.Frag) (R : It → Hp → Prop) (vs : List V) (H : Hp) : Prop := ∃ a b xs ys, vs = [.ref a, .ref b] ∧ SqL K H a xs ∧ SqL K H b ys ∧ R (Itz K a b) H
theorem m_zip {ta : TA} {R : It → Hp → Prop} (h : ta σ H (ZipK K R)) : iZip K ta σ H R := h
theorem m_zipE {a b : Addr} {xs ys : List V} {R : It → Hp → Prop} (hx : SqL K H a xs) (hy : SqL K H b ys) (h : R (Itz K a b) H) : ZipK K R [.ref a, .ref b] H := ⟨a, b, xs, ys, rfl, hx, hy, h⟩
def RevLK (K : PySem.W.Frag) (Q : VK) (x : V) (H : Hp) : Prop := ∃ a xs, x = .ref a ∧ SqL K H a xs ∧ ∀ p, H p = none → Q (.ref p) (upd H p (.lst xs.reverse))
theorem m_revL {te : TE} (h : te σ H (RevLK K Q)) : tRevL K te σ H Q := h
theorem m_revLE {a : Addr} {xs : List V} (hx : SqL K H a xs) (q : ∀ p, H p = none → Q (.ref p) (upd H p (.lst xs.reverse))) : RevLK K Q (.ref a) H := ⟨a, xs, rfl, hx, q⟩
def Rng3K (R : It → Hp → Prop) (vs : List V) (H : Hp) : Prop := ∃ i j c n, vs = [.int i, .int j, .int c] ∧ RgC i j c n ∧ R (Itc i c n) H
theorem m_rng3 {ta : TA} {R : It → Hp → Prop} (h : ta σ H (Rng3K R)) : iRng3 ta σ H R := h
theorem m_rng3e {R : It → Hp → Prop} {a b c : Int} {n : Nat} (h1 : RgC a b c n) (h : R (Itc a c n) H) : Rng3K R [V.int a, V.int b, V.int c] H := ⟨a, b, c, n, rfl, h1, h⟩
/-- targets that are pairs -/
def GTupK (K : PySem.W.Frag) (n : Nat) (tg : TGs) (Qs : L2.St → Hp → Prop) (x : V) (σ : L2.St) (H : Hp) : Prop := ∃ a xs, x = .ref a ∧ SqT K H a xs ∧ xs.length = n ∧ tg xs σ H Qs
theorem m_gTup {tg : TGs} {Qs : L2.St → Hp → Prop} {a : Addr} {xs : List V} (hx : SqT K H a xs) (hn : xs.length = n) (h : tg xs σ H Qs) : gTup K n tg (.ref a) σ H Qs := ⟨a, xs, rfl, hx, hn, h⟩
theorem m_gCons {t1 : TG} {ts : TGs} {Qs : L2.St → Hp → Prop} {xs : List V} (h : t1 x σ H fun σ' H' => ts xs σ' H' Qs) : gCons t1 ts (x :: xs) σ H Qs := ⟨x, xs, rfl, h⟩
theorem m_gNil {Qs : L2.St → Hp → Prop} (h : Qs σ H) : gNil [] σ H Qs := ⟨rfl, h⟩
theorem m_asg {te : TE} (h : te σ H fun x H1 => g x σ H1 nx) : tAsg te g (Ends.mk nx rt bk ct) σ H := h
theorem k_rep {Q : VK} {l : Addr} {xs : List V} {n : Nat} (h : H l = some (.lst xs)) (hn : xs.length * n ≤ 1000000) (hn2 : n ≤ 1000000) (q : ∀ p, H p = none → Q (.ref p) (upd H p (.lst (List.replicate n xs).flatten))) : rRep (.ref l) (.int (n : Int)) H Q :=
  ⟨l, n, xs, rfl, rfl, h, by omega, by omega, by rw [Int.toNat_natCast]; exact Nat.le_trans hn (by decide), by rw [Int.toNat_natCast]; exact q⟩
theorem k_cat {Q : VK} {l b : Addr} {xs zs : List V} (h1 : H l = some (.lst xs)) (h2 : H b = some (.lst zs)) (hn : xs.length + zs.length ≤ 1000000) (q : ∀ p, H p = none → Q (.ref p) (upd H p (.lst (xs ++ zs)))) : rCat (.ref l) (.ref b) H Q :=
  ⟨l, b, xs, zs, rfl, rfl, h1, h2, Nat.le_trans hn (by decide), q⟩
theorem rep_one (x : V) (n : Nat) : (List.replicate n [x]).flatten = List.replicate n x := by
  induction n with
  | zero => rfl
  | succ n ih => rw [List.replicate_succ, List.flatten_cons, ih]; rfl
theorem m_gSub {to ti : TE} {ts : TSet} {Qs : L2.St → Hp → Prop} (h : to σ H fun o H1 => ti σ H1 fun i H2 => ts o i x H2 fun H3 => Qs σ H3) : gSub to ti ts x σ H Qs := h
theorem m_setL {p : Addr} {xs : List V} {k : Int} {j : Nat} {y : V} {Qh : Hp → Prop} (h : H p = some (.lst xs)) (hj : ixN xs.length k = some j) (q : Qh (upd H p (.lst (xs.set j y)))) : rSetL (.ref p) (.int k) y H Qh := ⟨p, xs, k, j, rfl, rfl, h, hj, q⟩
theorem ixN_nat {n : Nat} {k : Int} (h0 : 0 ≤ k) (h1 : k < n) : ixN n k = some k.toNat := by
  unfold ixN; rw [if_pos h0, if_pos h1]
def ParK (nx : L2.St → Hp → Prop) (i j : Nat) (σ : L2.St) (vs : List V) (H : Hp) : Prop := ∃ v w, vs = [v, w] ∧ nx ((σ.set i (some v)).set j (some w)) H
theorem m_par {i j : Nat} {ta : TA} (h : ta σ H (ParK nx i j σ)) : tPar i j ta (Ends.mk nx rt bk ct) σ H := h
theorem m_parE {i j : Nat} {a b : V} (h : nx ((σ.set i (some a)).set j (some b)) H) : ParK nx i j σ [a, b] H := ⟨a, b, rfl, h⟩
theorem k_divmod {Q : VK} {a b : Int} (h : CDivP a b) (q : ∀ p, H p = none → Q (.ref p) (upd H p (.tup [.int (a / b), .int (a % b)]))) : rDivmod [.int a, .int b] H Q := ⟨a, b, rfl, h, q⟩
end
/-! ### what a comprehension with a test leaves -/
theorem fm_head {α : Type} {f : Nat → Option α} : ∀ {n : Nat} {y : α}, ((List.range n).filterMap f)[0]? = some y → ∃ i, i < n ∧ f i = some y ∧ ∀ j, j < i → f j = none
  | 0, y, h => by simp at h
  | n + 1, y, h => by
    rw [List.range_succ, List.filterMap_append] at h
    cases e : (List.range n).filterMap f with
    | cons z zs =>
      rw [e] at h
      have h' : ((List.range n).filterMap f)[0]? = some y := by rw [e]; simpa using h
      obtain ⟨i, h1, h2, h3⟩ := fm_head h'
      exact ⟨i, by omega, h2, h3⟩
    | nil =>
      rw [e, List.nil_append] at h
      have none_all : ∀ j, j < n → f j = none := fun j hj => List.filterMap_eq_nil_iff.mp e j (List.mem_range.mpr hj)
      cases q : f n with
      | none => rw [List.filterMap_cons, q] at h; simp at h
      | some z =>
        rw [List.filterMap_cons, q] at h
        have : z = y := by simpa using h
        subst this
        exact ⟨n, by omega, q, none_all⟩
theorem fm_last {α : Type} {f : Nat → Option α} : ∀ {n : Nat} {y : α} {ys : List α}, (List.range n).filterMap f = ys ++ [y] → ∃ i, i < n ∧ f i = some y ∧ ∀ j, i < j → j < n → f j = none
  | 0, y, ys, h => by simp at h
  | n + 1, y, ys, h => by
    rw [List.range_succ, List.filterMap_append] at h
    cases q : f n with
    | none =>
      rw [show List.filterMap f [n] = [] by rw [List.filterMap_cons, q]; rfl, List.append_nil] at h
      obtain ⟨i, h1, h2, h3⟩ := fm_last h
      refine ⟨i, by omega, h2, fun j h4 h5 => ?_⟩
      rcases Nat.lt_or_ge j n with h6 | h6
      · exact h3 j h4 h6
      · have : j = n := by omega
        subst this; exact q
    | some z =>
      rw [show List.filterMap f [n] = [z] by rw [List.filterMap_cons, q]; rfl] at h
      have e := List.append_inj_right' h rfl
      injection e with e
      subst e
      exact ⟨n, by omega, q, fun j h4 h5 => by omega⟩
theorem fm_nil {α : Type} {f : Nat → Option α} {n : Nat} (h : (List.range n).filterMap f = []) : ∀ j, j < n → f j = none := fun j hj => List.filterMap_eq_nil_iff.mp h j (List.mem_range.mpr hj)
theorem fm_id {α : Type} (l : List α) {n : Nat} (hn : n = l.length) : (List.range n).filterMap (fun k => l[k]?) = l := by
  subst hn
  have h : ∀ n, n ≤ l.length → (List.range n).filterMap (fun k => l[k]?) = l.take n := by
    intro n
    induction n with
    | zero => intro _; rfl
    | succ n ih =>
      intro hn
      rw [List.range_succ, List.filterMap_append, ih (by omega), List.take_add_one, List.getElem?_eq_getElem (show n < l.length by omega)]
      congr 1
      rw [List.filterMap_cons, List.getElem?_eq_getElem (show n < l.length by omega)]; rfl
  rw [h _ (Nat.le_refl _), List.take_length]
theorem snoc_of {α : Type} : ∀ {l : List α}, l ≠ [] → ∃ ys y, l = ys ++ [y]
  | [], h => absurd rfl h
  | a :: l, _ => ⟨(a :: l).dropLast, (a :: l).getLast (List.cons_ne_nil _ _), (List.dropLast_concat_getLast _).symm⟩
theorem cutPart (xs : List V) (a b : Nat) : cutV xs (some (a : Int)) (some (b : Int)) = (xs.take b).drop a := by
  unfold cutV
  rw [HT.sIx_nat, HT.sIx_nat, List.drop_take]
  rcases Nat.le_total a xs.length with h | h
  · rw [Nat.min_eq_left h]
    rcases Nat.le_total b xs.length with h2 | h2
    · rw [Nat.min_eq_left h2]
    · rw [Nat.min_eq_right h2, List.take_of_length_le (by rw [List.length_drop]; omega), List.take_of_length_le (by rw [List.length_drop]; omega)]
  · rw [Nat.min_eq_right h, List.drop_of_length_le (Nat.le_refl _), List.drop_of_length_le h]
    simp
/-- a part of a list of ints -/
theorem cut_ints (ns : List Int) (lo hi : Option Int) : ∃ cs : List Int, cutV (ns.map V.int) lo hi = cs.map V.int ∧ (∀ x ∈ cs, x ∈ ns) ∧ cs.length ≤ ns.length := by
  unfold cutV
  refine ⟨_, by rw [← List.map_drop, ← List.map_take], fun x h => List.mem_of_mem_drop (List.mem_of_mem_take h), by rw [List.length_take, List.length_drop]; omega⟩
theorem cutDrop (xs : List V) (a : Nat) : cutV xs (some (a : Int)) none = xs.drop a := by
  unfold cutV
  rw [HT.sIx_nat, HT.sIx_none]
  rcases Nat.le_total a xs.length with h | h
  · rw [Nat.min_eq_left h, List.take_of_length_le (by rw [List.length_drop]; omega)]
  · rw [Nat.min_eq_right h, List.drop_of_length_le (Nat.le_refl _), List.drop_of_length_le h]
    simp
/-! ### data at any depth -/
section
variable {H H' : Hp} {K : PySem.W.Frag}
theorem dpAll_ints : ∀ ns : List Int, DpAll K H (ns.map V.int) (ns.map PyData.int)
  | [] => .nil
  | n :: ns => .cons (.int n) (dpAll_ints ns)
theorem dpAll_bools : ∀ bs : List Bool, DpAll K H (bs.map V.bl) (bs.map PyData.bool)
  | [] => .nil
  | b :: bs => .cons (.bl b) (dpAll_bools bs)
theorem dp_ints {a : Addr} {ns : List Int} (h : SqL K H a (ns.map V.int)) : Dp K H (.ref a) (.list (ns.map PyData.int)) := .lst h (dpAll_ints ns)
theorem dp_intsT {a : Addr} {ns : List Int} (h : SqT K H a (ns.map V.int)) : Dp K H (.ref a) (.tuple (ns.map PyData.int)) := .tup h (dpAll_ints ns)
theorem eqvAll_ints : ∀ as bs : List Int, PyData.eqvAll (as.map PyData.int) (bs.map PyData.int) = decide (as = bs)
  | [], [] => by rw [List.map_nil]; unfold PyData.eqvAll; rfl
  | [], b :: bs => by rw [List.map_nil, List.map_cons]; unfold PyData.eqvAll; simp
  | a :: as, [] => by rw [List.map_nil, List.map_cons]; unfold PyData.eqvAll; simp
  | a :: as, b :: bs => by
    rw [List.map_cons, List.map_cons]; unfold PyData.eqvAll
    rw [eqvAll_ints as bs]
    unfold PyData.eqv
    by_cases h : a = b
    · subst h; by_cases h2 : as = bs
      · subst h2; simp
      · simp [h2]
    · simp [h]
theorem eqv_ints (as bs : List Int) : PyData.eqv (.list (as.map PyData.int)) (.list (bs.map PyData.int)) = decide (as = bs) := by
  unfold PyData.eqv; exact eqvAll_ints as bs
theorem eqv_intsT (as bs : List Int) : PyData.eqv (.tuple (as.map PyData.int)) (.tuple (bs.map PyData.int)) = decide (as = bs) := by
  unfold PyData.eqv; exact eqvAll_ints as bs
/-- laid: no dict, texts in order, at most so deep -/
def laid (n : Nat) (d : PyData) : Prop := d.canLay0 = true ∧ d.depth ≤ n
theorem laid_int {n : Nat} (i : Int) : laid n (.int i) := ⟨by simp [PyData.canLay0], by simp [PyData.depth]⟩
theorem laid_bool {n : Nat} (i : Bool) : laid n (.bool i) := ⟨by simp [PyData.canLay0], by simp [PyData.depth]⟩
theorem laid_none {n : Nat} : laid n .none := ⟨by simp [PyData.canLay0], by simp [PyData.depth]⟩
theorem laid_all {n : Nat} : ∀ ds : List PyData, (∀ d ∈ ds, laid n d) → PyData.canLayAll0 ds = true ∧ PyData.depthAll ds ≤ n
  | [], _ => ⟨by simp [PyData.canLayAll0], by simp [PyData.depthAll]⟩
  | d :: ds, h => by
    obtain ⟨h1, h2⟩ := h d List.mem_cons_self
    obtain ⟨h3, h4⟩ := laid_all ds fun x hx => h x (List.mem_cons_of_mem _ hx)
    exact ⟨by simp [PyData.canLayAll0, h1, h3], by simp only [PyData.depthAll]; omega⟩
theorem laid_list {n : Nat} {ds : List PyData} (h : ∀ d ∈ ds, laid n d) : laid (n + 1) (.list ds) := by
  obtain ⟨h1, h2⟩ := laid_all ds h
  exact ⟨by simp [PyData.canLay0, h1], by simp only [PyData.depth]; omega⟩
theorem laid_tup {n : Nat} {ds : List PyData} (h : ∀ d ∈ ds, laid n d) : laid (n + 1) (.tuple ds) := by
  obtain ⟨h1, h2⟩ := laid_all ds h
  exact ⟨by simp [PyData.canLay0, h1], by simp only [PyData.depth]; omega⟩
theorem laid_ints {n : Nat} (ns : List Int) : laid (n + 1) (.list (ns.map PyData.int)) := laid_list fun d hd => by
  obtain ⟨i, _, rfl⟩ := List.mem_map.mp hd
  exact laid_int i
theorem laid_intsT {n : Nat} (ns : List Int) : laid (n + 1) (.tuple (ns.map PyData.int)) := laid_tup fun d hd => by
  obtain ⟨i, _, rfl⟩ := List.mem_map.mp hd
  exact laid_int i
theorem laid_bools {n : Nat} (bs : List Bool) : laid (n + 1) (.list (bs.map PyData.bool)) := laid_list fun d hd => by
  obtain ⟨i, _, rfl⟩ := List.mem_map.mp hd
  exact laid_bool i
theorem laid_shaped {d : PyData} (h : laid 64 d) : SeqAt.shaped d = true := by
  obtain ⟨h1, h2⟩ := h
  unfold SeqAt.shaped
  rw [h1, decide_eq_true h2]; rfl
theorem k_eqD {Q : VK} {x y : V} {d e : PyData} (h1 : Dp K H x d) (h2 : Dp K H y e) (l1 : laid 64 d) (l2 : laid 64 e) (q : Q (.bl (PyData.eqv d e)) H) : rEqD K x y H Q :=
  ⟨d, e, h1, h2, laid_shaped l1, laid_shaped l2, q⟩
theorem k_neD {Q : VK} {x y : V} {d e : PyData} (h1 : Dp K H x d) (h2 : Dp K H y e) (l1 : laid 64 d) (l2 : laid 64 e) (q : Q (.bl (!PyData.eqv d e)) H) : rNeD K x y H Q :=
  ⟨d, e, h1, h2, laid_shaped l1, laid_shaped l2, q⟩
theorem k_eqL {Q : VK} {a b : Addr} {ns ms : List Int} (h1 : SqL K H a (ns.map V.int)) (h2 : SqL K H b (ms.map V.int)) (q : Q (.bl (decide (ns = ms))) H) : rEqD K (.ref a) (.ref b) H Q :=
  k_eqD (dp_ints h1) (dp_ints h2) (laid_ints ns) (laid_ints ms) (by rw [eqv_ints]; exact q)
theorem k_neL {Q : VK} {a b : Addr} {ns ms : List Int} (h1 : SqL K H a (ns.map V.int)) (h2 : SqL K H b (ms.map V.int)) (q : Q (.bl (!decide (ns = ms))) H) : rNeD K (.ref a) (.ref b) H Q :=
  k_neD (dp_ints h1) (dp_ints h2) (laid_ints ns) (laid_ints ms) (by rw [eqv_ints]; exact q)
end
/-- a row's tables: a number and a tuple of numbers -/
theorem eqv_row (n : Int) (as : List Int) : PyData.eqv (.tuple [.int n, .tuple (as.map PyData.int)]) (.tuple [.int n, .tuple (as.map PyData.int)]) = true := by
  unfold PyData.eqv PyData.eqvAll; unfold PyData.eqv PyData.eqvAll
  simp [eqv_intsT, PyData.eqvAll]
theorem dp_row {K : PySem.W.Frag} {H : Hp} {t a : Addr} {n : Int} {as : List Int} (h1 : SqT K H t [.int n, .ref a]) (h2 : SqT K H a (as.map V.int)) : Dp K H (.ref t) (.tuple [.int n, .tuple (as.map PyData.int)]) :=
  .tup h1 (.cons (.int n) (.cons (dp_intsT h2) .nil))
theorem laid_row (n : Int) (as : List Int) : laid 64 (.tuple [.int n, .tuple (as.map PyData.int)]) := laid_tup (n := 63) fun d hd => by
  simp only [List.mem_cons, List.not_mem_nil, or_false] at hd
  rcases hd with rfl | rfl
  · exact laid_int _
  · exact laid_intsT _
theorem k_eqRow {K : PySem.W.Frag} {H : Hp} {Q : VK} {t u a b : Addr} {n : Int} {as : List Int} (h1 : SqT K H t [.int n, .ref a]) (h2 : SqT K H a (as.map V.int)) (h3 : SqT K H u [.int n, .ref b]) (h4 : SqT K H b (as.map V.int)) (q : Q (.bl true) H) : rEqD K (.ref t) (.ref u) H Q :=
  k_eqD (dp_row h1 h2) (dp_row h3 h4) (laid_row n as) (laid_row n as) (by rw [eqv_row]; exact q)
theorem any_int (i : Int) : ∀ ns : List Int, ((ns.map PyData.int).any fun z => PyData.eqv z (.int i)) = decide (i ∈ ns)
  | [] => by simp
  | n :: ns => by
    rw [List.map_cons, List.any_cons, any_int i ns]
    unfold PyData.eqv
    by_cases h : n = i
    · subst h; simp
    · have h' : ¬ i = n := fun z => h z.symm
      simp [h, h']
theorem k_inL {K : PySem.W.Frag} {H : Hp} {Q : VK} {i : Int} {a : Addr} {ns : List Int} (h : SqL K H a (ns.map V.int)) (q : Q (.bl (decide (i ∈ ns))) H) : rInD K (.int i) (.ref a) H Q :=
  ⟨.int i, _, .int i, dp_ints h, laid_shaped (laid_int i), laid_shaped (laid_ints ns), by rw [any_int]; exact q⟩
theorem k_notInL {K : PySem.W.Frag} {H : Hp} {Q : VK} {i : Int} {a : Addr} {ns : List Int} (h : SqL K H a (ns.map V.int)) (q : Q (.bl (!decide (i ∈ ns))) H) : rNotInD K (.int i) (.ref a) H Q :=
  ⟨.int i, _, .int i, dp_ints h, laid_shaped (laid_int i), laid_shaped (laid_ints ns), by rw [any_int]; exact q⟩
section
variable {H : Hp} {K : PySem.W.Frag}
theorem eqvAll_bools : ∀ as bs : List Bool, PyData.eqvAll (as.map PyData.bool) (bs.map PyData.bool) = decide (as = bs)
  | [], [] => by rw [List.map_nil]; unfold PyData.eqvAll; rfl
  | [], b :: bs => by rw [List.map_nil, List.map_cons]; unfold PyData.eqvAll; simp
  | a :: as, [] => by rw [List.map_nil, List.map_cons]; unfold PyData.eqvAll; simp
  | a :: as, b :: bs => by
    rw [List.map_cons, List.map_cons]; unfold PyData.eqvAll
    rw [eqvAll_bools as bs]
    unfold PyData.eqv
    by_cases h : a = b
    · subst h; by_cases h2 : as = bs
      · subst h2; simp
      · simp [h2]
    · simp [h]
theorem eqv_bools (as bs : List Bool) : PyData.eqv (.list (as.map PyData.bool)) (.list (bs.map PyData.bool)) = decide (as = bs) := by
  unfold PyData.eqv; exact eqvAll_bools as bs
theorem dp_bools {a : Addr} {bs : List Bool} (h : SqL K H a (bs.map V.bl)) : Dp K H (.ref a) (.list (bs.map PyData.bool)) := .lst h (dpAll_bools bs)
theorem k_eqB {Q : VK} {a b : Addr} (ns ms : List Bool) (h1 : SqL K H a (ns.map V.bl)) (h2 : SqL K H b (ms.map V.bl)) (q : Q (.bl (decide (ns = ms))) H) : rEqD K (.ref a) (.ref b) H Q :=
  k_eqD (dp_bools h1) (dp_bools h2) (laid_bools ns) (laid_bools ms) (by rw [eqv_bools]; exact q)
end
theorem m_neB {H : Hp} {K : PySem.W.Frag} {Q : VK} {a b : Addr} (ns ms : List Bool) (h1 : SqL K H a (ns.map V.bl)) (h2 : SqL K H b (ms.map V.bl)) (q : Q (.bl (!decide (ns = ms))) H) : rNeD K (.ref a) (.ref b) H Q :=
  k_neD (dp_bools h1) (dp_bools h2) (laid_bools ns) (laid_bools ms) (by rw [eqv_bools]; exact q)
theorem room65 {k : Nat} {A : Around} (r : Room k A) : A.units + 65 < cLine := by have := r.un; omega
/-- list + list, whichever way they are known -/
def rCatK (K : PySem.W.Frag) : R2 := fun x y H Q => ∃ l b xs zs, x = .ref l ∧ y = .ref b ∧ SqL K H l xs ∧ SqL K H b zs ∧ xs.length + zs.length ≤ sizeLine ∧ ∀ p, H p = none → Q (.ref p) (upd H p (.lst (xs ++ zs)))
theorem op_catK {X : Cx} : OpR X (binaryOp .Add) (rCatK X.K) := by
  intro pins s σ H x y v u Q I rx ry h
  obtain ⟨l, b, xs, zs, rfl, rfl, hH, hB, hz, q⟩ := h
  cases rx
  cases ry
  obtain ⟨its, r, ⟨⟨cls, dd, data, sl⟩, n, ho, hc, hdd, hd⟩, hl⟩ := I.list hH
  obtain ⟨its2, r2, ⟨⟨cls2, dd2, data2, sl2⟩, n2, ho2, hc2, hdd2, hd2⟩, hl2⟩ := I.list hB
  simp only at hc hdd hd hc2 hdd2 hd2
  subst hc hdd hd hc2 hdd2 hd2
  have h1 := r.length
  have h2 := r2.length
  refine concat_meets ⟨_, ho, rfl⟩ ⟨_, ho2, rfl⟩ noFill_list_add seq_list_add PySem.F.slot_list_add PySem.F.entry_list_add (PySem.F.args_list_add_2 _ _) (list_addW l b its.toArray its2.toArray n n2 none none sl sl2 (by rw [List.size_toArray, List.size_toArray]; omega)) ⟨ho, ho2, ?_⟩
  have ea : its.toArray ++ its2.toArray = (its ++ its2).toArray := by simp
  rw [ea]
  exact ⟨.ref _, _, I.lnew (t' := s.toks) (r.append r2) (by rw [List.length_append]; omega), rfl, q _ I.fresh⟩
theorem k_catK {H : Hp} {K : PySem.W.Frag} {Q : VK} {l b : Addr} {xs zs : List V} (h1 : SqL K H l xs) (h2 : SqL K H b zs) (hn : xs.length + zs.length ≤ 1000000) (q : ∀ p, H p = none → Q (.ref p) (upd H p (.lst (xs ++ zs)))) : rCatK K (.ref l) (.ref b) H Q :=
  ⟨l, b, xs, zs, rfl, rfl, h1, h2, Nat.le_trans hn (by decide), q⟩
/-! ### len(set(xs)) -/
/-- how many unlike numbers -/
def unlike (ns : List Int) : Nat := (PyProof.Rows.firstMet (fun i => ns.getD i 0) ns.length).length
theorem unlike_le (ns : List Int) : unlike ns ≤ ns.length := PyProof.Rows.firstMet_length_le _ _
def tLenSet (K : PySem.W.Frag) (ta : TE) : TE := fun σ H Q => ta σ H fun x H1 => ∃ (l : Addr) (ns : List Int), x = .ref l ∧ SqL K H1 l (ns.map V.int) ∧ ns.length ≤ 4000 ∧ Q (.int (unlike ns : Nat)) H1
theorem intsAre_vals : ∀ {ns : List Int} {us : List Value}, Vals (ns.map V.int) us → PyProof.Rows.IntsAre us ns
  | [], _, .nil => .nil
  | n :: ns, _, .cons r t => by
    obtain ⟨k, rfl⟩ := r
    exact .cons n k (intsAre_vals t)
theorem pe_lenSet {X : Cx} {a : Expr} {ta : TE} {p p2 q pos : Pos} (hg : Gl X "len") (hm : X.mg "len" = none) (hg2 : Gl X "set") (hm2 : X.mg "set" = none) (ha : PE X a ta) (hc : X.calm = true := by rfl)
    (na : starEach [a] X.env = (false, eval a X.env) :: starEach [] X.env := by rfl) : PE X (.Call (.Name "len" p) [.Call (.Name "set" p2) [a] [] q] [] pos) (tLenSet X.K ta) := by
  refine ⟨fun pins s σ H Q I h => ?_⟩
  refine Call_ (ld_blt I hg hm boot_len ?_)
  refine PyProof.Rows.callWith_builtin1 (PyProof.Rows.args_cons ?_ rfl) rfl rfl
  refine Call_ (ld_blt I hg2 hm2 boot_set ?_)
  refine PyProof.Rows.callWith_type1 (PyProof.Rows.args_cons (thn (ha.run pins s σ H _ I h) fun v s1 ⟨x, H1, I1, r1, q1⟩ => PyProof.Rows.args_nil ?_) na) na rfl
  obtain ⟨l, ns, rfl, hq, hl, q1⟩ := q1
  cases r1
  obtain ⟨its, r, pl, hz⟩ := I1.list hq
  have hlen : its.toArray.size = ns.length := by rw [List.size_toArray, ← r.length, List.length_map]
  refine call_set_list (I1.ok.hd hc) pl.isList (by simpa using intsAre_vals r) (by rw [hlen]; unfold scanBound; omega) fun h' tk hS hk => ?_
  refine PyProof.Rows.args_nil ?_
  rw [hlen] at hS
  obtain ⟨o, es, ep, t, ho, hex, hd, _, _, _, hf, hn⟩ := hS
  have I2 : Inv X pins σ H1 { s1 with heap := h', toks := tk } := I1.kept fun b o e => hk b o (Heap.lt_size e) e
  have hu := unlike_le ns
  unfold unlike at hu q1
  exact call_len_set ho hex hd hf (by rw [hn] <;> omega) ⟨.int ((PyProof.Rows.firstMet (fun i => ns.getD i 0) ns.length).length : Nat), H1, I2.tok _, ⟨_, by rw [hn]⟩, q1⟩
section
variable {σ : L2.St} {H : Hp} {Q : VK} {K : PySem.W.Frag} {te : TE}
def LenSetK (K : PySem.W.Frag) (Q : VK) (x : V) (H : Hp) : Prop := ∃ (l : Addr) (ns : List Int), x = .ref l ∧ SqL K H l (ns.map V.int) ∧ ns.length ≤ 4000 ∧ Q (.int (unlike ns : Nat)) H
theorem m_lenSet (h : te σ H (LenSetK K Q)) : tLenSet K te σ H Q := h
theorem m_lenSetE {l : Addr} {ns : List Int} (hS : SqL K H l (ns.map V.int)) (hl : ns.length ≤ 4000) (q : Q (.int (unlike ns : Nat)) H) : LenSetK K Q (.ref l) H := ⟨l, ns, rfl, hS, hl, q⟩
end
/-! ### errors: raised, let through, caught -/
section
variable {X : Cx} {E : XK} {W : WX} {k j : Nat} {ps : List Str} {sp : Sp} {x : Str} {p pos : Pos} {e : Expr} {es : List Expr} {t : TA}
theorem passX (tk : Takes X (fun cls d _ H => E cls d H)) : Passes (L2.CX X.prog X.w) X E := passes_call tk fun _ _ _ _ h => h
/-- raise C('..') -/
def tRz (W : WX) (C : Addr) : TS := fun _ σ H => W (.ref C) none σ H
/-- what stands of the class x: it can be raised -/
structure ExF (K : PySem.W.Frag) (mg : Str → Option Value) (x : Str) : Prop where
  gl : mg x = some (.ref (He.ga K x))
  ex : PySem.W.excIn K (He.ga K x) He.veBase "ValueError.__new__" = true
  kp : PySem.W.keepIn K (.ref (He.ga K x)) = true
  sb : PySem.W.subIn K (.ref (He.ga K x)) (.type "BaseException") = some true
  ty : PySem.W.typeIn K (.ref (He.ga K x)) = some (.type "type")
theorem ps_rz {m : Str} {j : Nat} {p2 pos2 : Pos} (F : ExF X.K X.mg x) (tk : Takes X W) (hc : X.calm = true := by rfl) (hg : Gl X x := by rfl) (hdb : (x == ("__debug__" : Str)) = false := by decide) :
    PS X (.Raise (some (.Call (.Name x p) [.Constant (.str m) j p2] [] pos)) none pos2) (tRz W (He.ga X.K x)) :=
  ps_raise hc tk (pmk_own PySem.F.excBase_ValueError F.ex F.gl F.kp (raises_own F.sb F.ty) hg hdb)
theorem k_rz {D : Ends} {C : Addr} {σ : L2.St} {H : Hp} (h : W (.ref C) none σ H) : tRz W C D σ H := h
/-- a call within a try's body -/
theorem pe_callFS (F : Okf X.prog X.w X.K X.mg X.base (L2.CX X.prog X.w) k x ps sp) (hr : Room j X.A) (hk : k ≤ j) (hg : Gl X x) (tk : Takes X W)
    (ha : PA X (e :: es) t) (hdb : (x == ("__debug__" : Str)) = false := by decide) (he : starEach (e :: es) X.env = (false, eval e X.env) :: starEach es X.env := by rfl) (hpl : (backTo pos (starEach es X.env)).any (·.1) = false := by rfl) :
    PE X (.Call (.Name x p) (e :: es) [] pos) (tCallS sp (WE W) t) := by
  obtain ⟨fd, _, hb, ok⟩ := F.ex
  exact pe_callS ok (hr.mono hk) hg F.gl F.kp hb (fun σ => passAt tk σ) ha hdb he hpl
theorem m_callS {E : L2.St → XK} {σ : L2.St} {H : Hp} {Q : VK} (h : t σ H fun vs H1 => sp vs H1 Q (E σ)) : tCallS sp E t σ H Q := h
/-- try: .. except C as n | except C -/
def tTryAs (K : PySem.W.Frag) (c : Value) (i : Nat) (tb : WX → TS) (ts : Addr → Value → Option Addr → TS) (Wout : WX) : TS := fun D σ H => tb (wAs K c i ts Wout D) D σ H
def tTryOnly (K : PySem.W.Frag) (c : Value) (tb : WX → TS) (ts : Addr → Value → Option Addr → TS) (Wout : WX) : TS := fun D σ H => tb (wOnly K c ts Wout D) D σ H
section
variable {K : PySem.W.Frag} {c cls : Value} {d : Option Addr} {i : Nat} {tb : WX → TS} {ts : Addr → Value → Option Addr → TS} {Wout : WX} {σ : L2.St} {H : Hp} {rt : VK} {nx bk ct : L2.St → Hp → Prop}
theorem m_tryAs (h : tb (wAs K c i ts Wout (Ends.mk nx rt bk ct)) (Ends.mk nx rt bk ct) σ H) : tTryAs K c i tb ts Wout (Ends.mk nx rt bk ct) σ H := h
theorem m_tryOnly (h : tb (wOnly K c ts Wout (Ends.mk nx rt bk ct)) (Ends.mk nx rt bk ct) σ H) : tTryOnly K c tb ts Wout (Ends.mk nx rt bk ct) σ H := h
theorem m_caught (he : PySem.W.exmOne K cls c = some true) (h : ∀ a, H a = none → ts a cls d (Ends.mk (fun σ' H' => nx (σ'.set i none) H') rt (fun σ' H' => bk (σ'.set i none) H') (fun σ' H' => ct (σ'.set i none) H')) (σ.set i (some (.ref a))) H) :
    WE (wAs K c i ts Wout (Ends.mk nx rt bk ct)) σ cls d H := ⟨true, he, fun _ => h, fun z => Bool.noConfusion z⟩
theorem m_passed (he : PySem.W.exmOne K cls c = some false) (h : Wout cls d σ H) : WE (wAs K c i ts Wout (Ends.mk nx rt bk ct)) σ cls d H := ⟨false, he, fun z => Bool.noConfusion z, fun _ => h⟩
theorem m_caughtO (he : PySem.W.exmOne K cls c = some true) (h : ∀ a, H a = none → ts a cls d (Ends.mk nx rt bk ct) σ H) :
    WE (wOnly K c ts Wout (Ends.mk nx rt bk ct)) σ cls d H := ⟨true, he, fun _ => h, fun z => Bool.noConfusion z⟩
theorem m_passedO (he : PySem.W.exmOne K cls c = some false) (h : Wout cls d σ H) : WE (wOnly K c ts Wout (Ends.mk nx rt bk ct)) σ cls d H := ⟨false, he, fun z => Bool.noConfusion z, fun _ => h⟩
end
/-! ### several except clauses, each with a name -/
def endN (i : Nat) (D : Ends) : Ends := Ends.mk (fun τ G => D.nx (τ.set i none) G) D.rt (fun τ G => D.bk (τ.set i none) G) (fun τ G => D.ct (τ.set i none) G)
def wManyA (K : PySem.W.Frag) (Wout : WX) (D : Ends) : List (Value × Nat × (Addr → Value → Option Addr → TS)) → WX
  | [] => Wout
  | (c, i, ts) :: l => fun cls d τ G => ∃ b, PySem.W.exmOne K cls c = some b ∧ (b = true → ∀ x, G x = none → ts x cls d (endN i D) (τ.set i (some (.ref x))) G) ∧ (b = false → wManyA K Wout D l cls d τ G)
inductive HdsA (X : Cx) : List ExceptHandler → List (Value × Nat × (Addr → Value → Option Addr → TS)) → Prop
  | nil : HdsA X [] []
  | cons {y n : Str} {c : Value} {i : Nat} {ts : Addr → Value → Option Addr → TS} {st : Stmt} {sts : List Stmt} {q1 q2 : Pos} {hs : List ExceptHandler} {l : List (Value × Nat × (Addr → Value → Option Addr → TS))} (hi : X.N[i]? = some n) (hl : X.env.kindOf n = some .local) (hc : Names X y c)
      (hb : ∀ (x : Addr) (ob : Obj) (cls : Value) (d : Option Addr) (pn : List (Addr × Obj)), Zc cls d ob → (∃ vs, ob.data = .fields vs) → X.base.get? x = none → PSs (X.suite x ((x, ob) :: pn)) (st :: sts) (ts x cls d)) (r : HdsA X hs l) : HdsA X (.ExceptHandler (some (.Name y q1)) (some n) (st :: sts) q2 :: hs) ((c, i, ts) :: l)
theorem ps_tryManyA {X : Cx} {body : List Stmt} {h₀ : ExceptHandler} {hds : List ExceptHandler} {l : List (Value × Nat × (Addr → Value → Option Addr → TS))} {pos : Pos} {tb : WX → TS} {Wout : WX} (stk : X.stack = X.env :: X.outer) (lf : X.env.frame = some X.env.locals) (nd : X.N.Nodup) (tk : Takes X Wout)
    (hb : ∀ (W : WX) (pn : List (Addr × Obj)) (xe : Value → Shared → Prop), Takes (X.tr pn xe) W → PassesOwn (model X.prog X.w) X.A X.env xe → PSs (X.tr pn xe) body (tb W)) (hh : HdsA X (h₀ :: hds) l) : PS X (.Try body (h₀ :: hds) [] [] pos) (fun D τ G => tb (wManyA X.K Wout D l) D τ G) := by
  refine ⟨fun pins s τ G D I h => ?_⟩
  have ok0 := I.ok
  have fr0 : X.A.frames = some (X.env :: X.outer) := by rw [ok0.frames, stk]
  refine wpAny_Try_except (wpAny_mono ((hb (wManyA X.K Wout D l) (X.pn ++ pins) (fun e s₁ => wpAny (model X.prog X.w) X.A (noteFrame e X.env) (fun _ s₂ => wpAny (model X.prog X.w) X.A (setFlight e none) (fun _ s₃ => wpAny (model X.prog X.w) X.A (handleBy e X.env (h₀ :: hds)) (SP X pins D) X.xe s₃) X.xe s₂) X.xe s₁) (fun u s' xx => ?_) PassesOwn.looking).run [] s τ G D (I.toTry _) h) (fun f s1 hq => ?_) (fun e s1 he => he))
  · obtain ⟨x, B, si, pins2, τ1, G1, cls, d, rfl, j1, nb, up1, sk1, nx, eos, eag, wish⟩ := xx
    have j0 : Inv X pins τ1 G1 si := j1.ofTry ok0
    have sk2 : Sky B (X.env :: X.outer) x (Zc cls d) X.env.locals s'.heap := by rw [← stk]; exact sk1
    show wpAny (model X.prog X.w) X.A (noteFrame (.ref x) X.env) _ _ _; refine Sky.land Zc.steady fr0 lf sk2 fun h3 fl3 up3 => ?_
    have j3 : Inv X pins τ1 G1 { s' with heap := h3 } := j0.landed nb fl3.1 (up1.trans up3) eos eag
    obtain ⟨o3, vs3, ho3, hz3, hd3⟩ := fl3.there
    have nfr : x ∉ frs (X.env :: X.outer) := fun hm => by
      obtain ⟨_, o2, e2, hnf⟩ := fl3.2.2.1.mem hm; rw [ho3] at e2; cases e2; exact hnf _ hd3
    have nL : x ≠ X.env.locals := fun z => nfr (List.mem_filterMap.mpr ⟨X.env, List.mem_cons_self, by rw [lf, z]⟩)
    have nF : x ∉ X.fs := fun hm => by
      obtain ⟨e, he, q⟩ := List.mem_filterMap.mp hm; exact nfr (List.mem_filterMap.mpr ⟨e, List.mem_cons_of_mem _ he, q⟩)
    have suite3 := j3.suite ho3 hd3 nx nL nF
    have hbn : X.base.get? x = none := by
      cases e : X.base.get? x with
      | none => rfl
      | some ob =>
        have h1 := (j0.bs x ob e).1
        have h2 := nb x ob h1 (by rw [stk]; exact nfr)
        rw [fl3.2.1] at h2; cases h2
    have go : ∀ {hs' : List ExceptHandler} {l' : List (Value × Nat × (Addr → Value → Option Addr → TS))}, HdsA X hs' l' → wManyA X.K Wout D l' cls d τ1 G1 → wpAny (model X.prog X.w) X.A (handleBy (.ref x) X.env hs') (SP X pins D) X.xe { s' with heap := h3 } := by
      intro hs' l' hk
      induction hk with
      | nil =>
        intro wish
        refine wpAny_handleBy_nil ?_; obtain ⟨k1, k2, k3, oe, vs, tt, oT, ts', he, hz, hd, h1, hr⟩ := id fl3
        unfold PySem.passOn; refine wpAny_bind (wpAny_field he hd h1 ?_)
        rw [if_neg (show ¬ ((Value.ref tt == Value.none) = true) from by simp)]
        have fin : wpAny (model X.prog X.w) X.A (setFlight (.ref x) X.env.frame) (fun _ s4 => wpAny (model X.prog X.w) X.A (throw (.ref x) : Sem Flow) (SP X pins D) X.xe s4) X.xe { s' with heap := h3 } := by
          rw [lf]; refine HandSPX.setFlight_upZ fl3 fun h4 hh4 up4 => wpAny_throw (tk _ _ ?_)
          exact ⟨x, B, si, pins, τ1, G1, cls, d, rfl, j0, nb, (up1.trans up3).trans up4, .inr (.inr (by rw [stk]; exact hh4)), nx, eos, eag, wish⟩
        first | exact wpAny_bind (wpAny_pure (wpAny_bind fin)) | exact wpAny_bind fin
      | @cons y n c i ts st sts q1 q2 hs2 l2 hi hl hc hsu r ih =>
        intro wish
        obtain ⟨b, hb1, yes, no⟩ := wish
        refine wpAny_handleBy_cons (codeAny_handlers_test ?_) (by intro q; cases q); have lt : PySem.W.Looks (model X.prog X.w) h3 (typeOf (.ref x)) cls := fun A Q E s k q => wpAny_typeOf_ref (k _ _ ho3) (by rw [hz3.1]; exact q)
        have lm := PySem.W.exm_one (M := model X.prog X.w) (j3.kIn) lt hb1
        have test : ∀ {Q : Value → Shared → Prop} {E : Value → Shared → Prop}, Q c { s' with heap := h3 } → wpAny (model X.prog X.w) (X.A.mark (some (.ref x))) (eval (.Name y q1) X.env) Q E { s' with heap := h3 } := fun {Q E} q => by
          obtain ⟨hg, hdbg, hm | ⟨hm, hv, hnn⟩⟩ := hc
          · exact ld_glob (X := X.suite x ((x, o3) :: (X.pn ++ pins))) suite3 hg hm q hdbg
          · exact ld_blt (X := X.suite x ((x, o3) :: (X.pn ++ pins))) suite3 hg hm hv q hnn hdbg
        refine test (lm.here ?_)
        cases b with
        | true =>
          refine codeAny_handlers_suite_as (HandSPX.lands_againZ fl3 fun h4 fl4 up4 => ?_)
          have j4 : Inv X pins τ1 G1 { s' with heap := h4 } := j0.landed nb fl4.1 ((up1.trans up3).trans up4) eos eag
          obtain ⟨o4, vs4, ho4, hz4, hd4⟩ := fl4.there
          refine store_ok (X := X.suite x ((x, o4) :: (X.pn ++ pins))) (v := .ref x) (j4.suite ho4 hd4 nx nL nF) nd hi (.inl hl) rfl (fun s5 S5 => ?_) (.inr hl)
          refine wpAny_mono ((hsu x o4 cls d (X.pn ++ pins) hz4 ⟨_, hd4⟩ hbn).run [] s5 _ G1 _ S5 (yes rfl x nx)) (fun f s6 hq => ?_) (fun _ _ z => False.elim z)
          have fin : ∀ {τ6 : L2.St} {G6 : Hp} {Q : Shared → Prop}, Inv (X.suite x ((x, o4) :: (X.pn ++ pins))) [] τ6 G6 s6 → (∀ s7, Inv X pins (τ6.set i none) G6 s7 → Q s7) → wpAny (model X.prog X.w) X.A (do bindName X.env n .none; unbindBehindTheSuite X.env n q2) (fun _ s7 => Q s7) X.xe s6 := fun {τ6 G6 Q} S6 hq => gone_ok (S6.unsuite ok0) nd hi hl hq
          cases f with
          | next => obtain ⟨τ6, G6, S6, q6⟩ := hq; exact fin S6 fun s7 J7 => ⟨_, _, J7, q6⟩
          | brk => obtain ⟨τ6, G6, S6, q6⟩ := hq; exact fin S6 fun s7 J7 => ⟨_, _, J7, q6⟩
          | cont => obtain ⟨τ6, G6, S6, q6⟩ := hq; exact fin S6 fun s7 J7 => ⟨_, _, J7, q6⟩
          | ret u => obtain ⟨v6, τ6, G6, S6, r6, q6⟩ := hq; exact fin S6 fun s7 J7 => ⟨_, _, _, J7, r6, q6⟩
        | false => exact ih (no rfl)
    exact go hh wish
  · cases f with
    | next => obtain ⟨τ1, G1, j1, q⟩ := hq; exact wpAny_execs_nil ⟨τ1, G1, j1.ofTry ok0, q⟩
    | brk => obtain ⟨τ1, G1, j1, q⟩ := hq; exact ⟨τ1, G1, j1.ofTry ok0, q⟩
    | cont => obtain ⟨τ1, G1, j1, q⟩ := hq; exact ⟨τ1, G1, j1.ofTry ok0, q⟩
    | ret u => obtain ⟨v, τ1, G1, j1, r, q⟩ := hq; exact ⟨v, τ1, G1, j1.ofTry ok0, r, q⟩
def tTryM (K : PySem.W.Frag) (tb : WX → TS) (l : List (Value × Nat × (Addr → Value → Option Addr → TS))) (Wout : WX) : TS := fun D τ G => tb (wManyA K Wout D l) D τ G
section
variable {K : PySem.W.Frag} {c cls : Value} {d : Option Addr} {i : Nat} {tb : WX → TS} {ts : Addr → Value → Option Addr → TS} {Wout : WX} {σ : L2.St} {H : Hp} {rt : VK} {nx bk ct : L2.St → Hp → Prop} {l : List (Value × Nat × (Addr → Value → Option Addr → TS))}
theorem m_tryM (h : tb (wManyA K Wout (Ends.mk nx rt bk ct) l) (Ends.mk nx rt bk ct) σ H) : tTryM K tb l Wout (Ends.mk nx rt bk ct) σ H := h
theorem m_caughtM (he : PySem.W.exmOne K cls c = some true) (h : ∀ a, H a = none → ts a cls d (Ends.mk (fun σ' H' => nx (σ'.set i none) H') rt (fun σ' H' => bk (σ'.set i none) H') (fun σ' H' => ct (σ'.set i none) H')) (σ.set i (some (.ref a))) H) :
    WE (wManyA K Wout (Ends.mk nx rt bk ct) ((c, i, ts) :: l)) σ cls d H := ⟨true, he, fun _ => h, fun z => Bool.noConfusion z⟩
theorem m_nextM (he : PySem.W.exmOne K cls c = some false) (h : WE (wManyA K Wout (Ends.mk nx rt bk ct) l) σ cls d H) : WE (wManyA K Wout (Ends.mk nx rt bk ct) ((c, i, ts) :: l)) σ cls d H := ⟨false, he, fun z => Bool.noConfusion z, fun _ => h⟩
end
/-- isinstance(e, c), e the error that the suite holds -/
def rIsX (K : PySem.W.Frag) (cls : Value) (d : Option Addr) (a : Addr) : List V → Hp → VK → Prop := fun xs H Q => ∃ D, cls = .ref D ∧ d = none ∧ ExcC K D ∧ rIsE K D a xs H Q
theorem call_isX {a : Addr} {oe : Obj} {cls : Value} {d : Option Addr} {pn : List (Addr × Obj)} (hz : Zc cls d oe) (hf : ∃ vs, oe.data = .fields vs) : CallR (X.suite a ((a, oe) :: pn)) (.builtin "isinstance") (rIsX X.K cls d a) := by
  intro pins s σ H xs us Q I r h
  obtain ⟨D, rfl, rfl, C, h⟩ := h
  exact call_isE C hz hf pins s σ H xs us Q I r h
theorem k_isX {K : PySem.W.Frag} {D C a : Addr} {b : Bool} {H : Hp} {Q : VK} (h : ExcC K D) (e : PySem.W.kitOne K (.ref D) (.ref C) = some b) (q : Q (.bl b) H) : rIsX K (.ref D) none a [.ref a, .ref C] H Q :=
  ⟨D, rfl, rfl, h, .ref C, .ref C, b, rfl, fun _ r => r, e, q⟩
theorem k_isXty {K : PySem.W.Frag} {D a : Addr} {n : String} {b : Bool} {H : Hp} {Q : VK} (h : ExcC K D) (e : PySem.W.kitOne K (.ref D) (.type n) = some b) (q : Q (.bl b) H) : rIsX K (.ref D) none a [.ref a, .ty n] H Q :=
  ⟨D, rfl, rfl, h, .ty n, .type n, b, rfl, fun _ r => r, e, q⟩
end
/-- isinstance(e, (c1, c2, ..)), all of them own classes -/
def rIsXT (K : PySem.W.Frag) (cls : Value) (d : Option Addr) (a : Addr) : List V → Hp → VK → Prop := fun xs H Q => ∃ (D tp : Addr) (cs : List Addr) (b : Bool), cls = .ref D ∧ d = none ∧ ExcC K D ∧ xs = [.ref a, .ref tp] ∧ H tp = some (.tup (cs.map V.ref)) ∧ PySem.W.kitAny K (.ref D) (cs.map Value.ref) = some b ∧ Q (.bl b) H
theorem clsV_all : ∀ cs : List Addr, Paired ClsV (cs.map V.ref) (cs.map Value.ref)
  | [] => .nil
  | c :: cs => .cons (.own c) (clsV_all cs)
theorem call_isXT {X : Cx} {a : Addr} {oe : Obj} {cls : Value} {d : Option Addr} {pn : List (Addr × Obj)} (hz : Zc cls d oe) (hf : ∃ vs, oe.data = .fields vs) : CallR (X.suite a ((a, oe) :: pn)) (.builtin "isinstance") (rIsXT X.K cls d a) := by
  intro pins s σ H xs us Q I r h
  obtain ⟨D, tp, cs, b, rfl, rfl, C, rfl, hT, e, q⟩ := h
  obtain ⟨u1, u2, rfl, r1, r2⟩ := vals2 r
  cases (show u1 = Value.ref a from r1)
  cases (show u2 = Value.ref tp from r2)
  obtain ⟨hget, _⟩ := I.pin (a, oe) (List.mem_append.mpr (.inl List.mem_cons_self))
  obtain ⟨vs, hv⟩ := hf
  have J : PySem.W.InstAt s.heap a oe D none := by
    obtain ⟨oc, od, oda, osl⟩ := oe
    obtain ⟨h1, h2⟩ := hz
    dsimp only at h1 h2 hv
    subst h1 h2 hv
    exact ⟨hget, rfl, rfl, trivial⟩
  obtain ⟨_, its, rv, o, h1, h2, n, h3⟩ := (show ObjOk X.prog X.w H s.heap tp (.tup (cs.map V.ref)) from I.hok tp _ hT)
  have e3 := ClsV.all (clsV_all cs) rv
  subst e3
  obtain ⟨oc, od, dt, sl⟩ := o
  simp only at h2 h3
  subst h2 h3
  exact PySem.W.kia_tup (PySem.W.handS_kitx_exc C.hg C.hk C.hs C.hd C.ha C.hn C.ht C.hm) I.kIn J h1 e (fun z => nomatch z) fun tk => ⟨.bl b, H, I.kept (t' := tk) fun _ _ z => z, rfl, q⟩
theorem kitAny_no {K : PySem.W.Frag} {t : Value} : ∀ us : List Value, (∀ u ∈ us, PySem.W.kitOne K t u = some false) → PySem.W.kitAny K t us = some false
  | [], _ => rfl
  | u :: us, h => kitAny_cons (h u List.mem_cons_self) (fun _ => kitAny_no us fun x hx => h x (List.mem_cons_of_mem _ hx)) (fun z => Bool.noConfusion z)
theorem k_isXT {K : PySem.W.Frag} {D a tp : Addr} {b : Bool} {H : Hp} {Q : VK} (cs : List Addr) (hT : H tp = some (.tup (cs.map V.ref))) (h : ExcC K D) (e : PySem.W.kitAny K (.ref D) (cs.map Value.ref) = some b) (q : Q (.bl b) H) : rIsXT K (.ref D) none a [.ref a, .ref tp] H Q :=
  ⟨D, tp, cs, b, rfl, rfl, h, rfl, hT, e, q⟩
/-! ### the head's facts, with what is asked of errors -/
inductive Fx where
  | excC (x : Str)
  | insC (x : Str)
  | kit (x y : Str) (b : Bool)
  | kitT (x : Str) (t : String) (b : Bool)
  | exm (x y : Str) (b : Bool)
/-- an own class of which isinstance tells -/
structure InsC (K : PySem.W.Frag) (C : Addr) : Prop where
  cl : Cls K C
  ha : PySem.W.findIn K (.ref C) "__class__" = some (some (.builtin "object.__class__"))
  hn : PySem.W.specialIn K (.builtin "object.__class__") "__get__" = some (some (.builtin "getset_descriptor.__get__"))
  ht : PySem.W.takesIn K (.builtin "object.__class__") = some true
  hm : PySem.W.mroIn K C (.type "object") = some true
def Fx.ok (K : PySem.W.Frag) : Fx → Bool
  | .insC x => (He.Fa.cls x).ok K && (He.eqO (PySem.W.findIn K (.ref (He.ga K x)) "__class__") (some (some (.builtin "object.__class__"))) &&
      (He.eqO (PySem.W.specialIn K (.builtin "object.__class__") "__get__") (some (some (.builtin "getset_descriptor.__get__"))) && (decide (PySem.W.takesIn K (.builtin "object.__class__") = some true) && decide (PySem.W.mroIn K (He.ga K x) (.type "object") = some true))))
  | .excC x => He.eqO (PySem.W.findIn K (.ref (He.ga K x)) "__getattribute__") (some (some (.builtin "BaseException.__getattribute__"))) && (He.eqO (PySem.W.findIn K (.ref (He.ga K x)) "__getattr__") (some none) &&
      (decide (PySem.W.subIn K (.ref (He.ga K x)) (.type "BaseException") = some true) && (PySem.W.hasDictIn K (He.ga K x) && (He.eqO (PySem.W.findIn K (.ref (He.ga K x)) "__class__") (some (some (.builtin "object.__class__"))) &&
      (He.eqO (PySem.W.specialIn K (.builtin "object.__class__") "__get__") (some (some (.builtin "getset_descriptor.__get__"))) && (decide (PySem.W.takesIn K (.builtin "object.__class__") = some true) && decide (PySem.W.mroIn K (He.ga K x) (.type "object") = some true)))))))
  | .kit x y b => decide (PySem.W.kitOne K (.ref (He.ga K x)) (.ref (He.ga K y)) = some b)
  | .kitT x t b => decide (PySem.W.kitOne K (.ref (He.ga K x)) (.type t) = some b)
  | .exm x y b => decide (PySem.W.exmOne K (.ref (He.ga K x)) (.ref (He.ga K y)) = some b)
theorem Fx.excC_ok {K : PySem.W.Frag} {x : Str} (c : (Fx.excC x).ok K = true) : ExcC K (He.ga K x) := by
  obtain ⟨c1, c⟩ := He.ba c
  obtain ⟨c2, c⟩ := He.ba c
  obtain ⟨c3, c⟩ := He.ba c
  obtain ⟨c4, c⟩ := He.ba c
  obtain ⟨c5, c⟩ := He.ba c
  obtain ⟨c6, c⟩ := He.ba c
  obtain ⟨c7, c8⟩ := He.ba c
  exact ⟨He.eqO_ok c1, He.eqO_ok c2, of_decide_eq_true c3, c4, He.eqO_ok c5, He.eqO_ok c6, of_decide_eq_true c7, of_decide_eq_true c8⟩
theorem Fx.insC_ok {K : PySem.W.Frag} {x : Str} (c : (Fx.insC x).ok K = true) : InsC K (He.ga K x) := by
  obtain ⟨c1, c⟩ := He.ba c
  obtain ⟨c2, c⟩ := He.ba c
  obtain ⟨c3, c⟩ := He.ba c
  obtain ⟨c4, c5⟩ := He.ba c
  exact ⟨He.cls_ok c1, He.eqO_ok c2, He.eqO_ok c3, of_decide_eq_true c4, of_decide_eq_true c5⟩
theorem k_isOwn {K : PySem.W.Frag} {C D a d : Addr} {fs : List (Str × V)} {b : Bool} {H : Hp} {Q : VK} (i : InsC K C) (e : H a = some (.ins C d fs)) (k : PySem.W.kitOne K (.ref C) (.ref D) = some b) (q : Q (.bl b) H) : rIsi K [.ref a, .ref D] H Q :=
  ⟨.ref a, .ref D, .ref C, .ref D, b, rfl, .own D, .base (.ins e i.cl i.ha i.hn i.ht i.hm), k, q⟩
theorem Fx.kit_ok {K : PySem.W.Frag} {x y : Str} {b : Bool} (c : (Fx.kit x y b).ok K = true) : PySem.W.kitOne K (.ref (He.ga K x)) (.ref (He.ga K y)) = some b := of_decide_eq_true c
theorem Fx.kitT_ok {K : PySem.W.Frag} {x : Str} {t : String} {b : Bool} (c : (Fx.kitT x t b).ok K = true) : PySem.W.kitOne K (.ref (He.ga K x)) (.type t) = some b := of_decide_eq_true c
theorem Fx.exm_ok {K : PySem.W.Frag} {x y : Str} {b : Bool} (c : (Fx.exm x y b).ok K = true) : PySem.W.exmOne K (.ref (He.ga K x)) (.ref (He.ga K y)) = some b := of_decide_eq_true c
abbrev AlF : Type := He.AlD × Bool
def obsF (fa : List He.Fa) (fn : List He.DefD) (fx : List Fx) (K : PySem.W.Frag) : AlF := (He.obsD fa fn K, fx.all fun f => f.ok K)
def SaysF (fa : List He.Fa) (fn : List He.DefD) (fx : List Fx) (K : PySem.W.Frag) : Prop := obsF fa fn fx K = (He.valD fn, true)
def obsFG (n : Nat) (fa : List He.Fa) (fn : List He.DefD) (fx : List Fx) (g : Addr → Option Obj) : AlF := obsF fa fn fx (He.frG g (He.asD g n))
def hookF (n : Nat) (fa : List He.Fa) (fn : List He.DefD) (fx : List Fx) : PySem.W.Hook where
  α := AlF
  obs := fun s => obsFG n fa fn fx s.heap.get?
  val := fun _ => (He.valD fn, true)
  says := fun _ h => ∃ K : PySem.W.Frag, K.In h ∧ SaysF fa fn fx K
  of := fun _ _ e => ⟨_, He.frG_in, e⟩
  keeps := fun _ _ _ ⟨K, hK, c⟩ k => ⟨K, PySem.W.Frag.In.keeps hK k, c⟩
theorem obsFG_eq {n : Nat} {fa : List He.Fa} {fn : List He.DefD} {fx : List Fx} {g : Addr → Option Obj} {s : Shared} (h : ∀ a, g a = s.heap.get? a) : obsFG n fa fn fx g = (hookF n fa fn fx).obs s := by
  have e : g = s.heap.get? := funext h
  rw [e] <;> rfl
theorem SaysF.d {fa : List He.Fa} {fn : List He.DefD} {fx : List Fx} {K : PySem.W.Frag} (c : SaysF fa fn fx K) : He.SaysD fa fn K := congrArg (fun z : AlF => z.1) c
theorem SaysF.fx {fa : List He.Fa} {fn : List He.DefD} {fx : List Fx} {K : PySem.W.Frag} (c : SaysF fa fn fx K) (i : Nat) {f : Fx} (h : fx[i]? = some f := by rfl) : f.ok K = true := by
  have c1 : (fx.all fun f => f.ok K) = true := congrArg (fun z : AlF => z.2) c
  exact List.all_eq_true.mp c1 f (List.mem_of_getElem? h)
end Tw
/-! ### enumerate of a tuple -/
namespace Tw
open PySem PySem.Spec PyProof.Rows L2
/-- the tuple at a, each item in a new pair -/
def IteT (K : PySem.W.Frag) (a : Addr) : It :=
  ⟨fun i H => ∃ (xs : List V) (x : V), SqT K H a xs ∧ xs[i]? = some x, fun i H v H' => ∃ T x, v = .ref T ∧ H T = none ∧ H' = upd H T (.tup [.int (i : Nat), x]) ∧ ∀ xs, SqT K H a xs → xs[i]? = some x, fun i H => ∃ xs : List V, SqT K H a xs ∧ xs.length ≤ i⟩
set_option maxHeartbeats 1000000 in
theorem meets_enum1 {v : Value} {o : Obj} {H : Heap → Prop} (B : Begins v o H) :
    Meets (Builtin.«enumerate.__new__» ⟨[.type "enumerate", v], []⟩) (fun _ R s => H s.heap ∧
      R (.ok (.ret (.ref (s.heap.push o).objs.size))) { s with heap := (s.heap.push o).push { cls := .type "enumerate", data := .fields #[.none, .bool false, .ref s.heap.objs.size, rawInt 0, .none, .none] } }) :=
  .of_wp fun prog w A R s h => by
    obtain ⟨hp, g, d, tk, os⟩ := s; obtain ⟨h1, h⟩ := h
    have hsub := sub_enumerate
    have q1 : ∀ {A' : Around} {E : Value → Shared → Prop} {Q : Value → Shared → Prop}, Q (.ref hp.objs.size) ⟨hp.push o, g, d, tk, os⟩ → wpAny (model prog w) A' (pyIter v) Q E ⟨hp, g, d, tk, os⟩ :=
      fun q => B.iter prog w _ _ ⟨hp, g, d, tk, os⟩ _ h1 q
    wp_walk using q1
    refine wpAny_stack_any fun st => wpAny_pure ?_
    split
    · rename_i c _ _ _ _ _
      cases (c == Value.type "enumerate")
      · wp_walk using q1
        exact ⟨_, rfl, h⟩
      · wp_walk using q1
        exact ⟨_, rfl, h⟩
    · wp_walk using q1
      exact ⟨_, rfl, h⟩
theorem call_enum1 {prog : Program} {w : World} {A : Around} {E : Value → Shared → Prop} {s : Shared} {v : Value} {o : Obj} {H : Heap → Prop} {Q : Value → Shared → Prop} (B : Begins v o H) (h1 : H s.heap)
    (h : ∀ h', IsEnum h' (s.heap.objs.size + 1) s.heap.objs.size 0 .none → h'.get? s.heap.objs.size = some o → h'.objs.size = s.heap.objs.size + 2 →
      (∀ b o, s.heap.get? b = some o → h'.get? b = some o) → Q (.ref (s.heap.objs.size + 1)) { s with heap := h' }) :
    wpAny (model prog w) A (call (.type "enumerate") [v]) Q E s := by
  refine callType_new F.called_enumerate (by decide) (F.typeCall_enumerate_1 _) (F.newCall_enumerate_1 _) (fun obj => F.args_object_init_2 obj _) F.entry_enumerate_new
    (meets_enum1 B) ⟨h1, ?_⟩
  have hz : (s.heap.push o).objs.size = s.heap.objs.size + 1 := Heap.size_push ..
  show _ ∧ _
  rw [hz]
  have he : IsEnum ((s.heap.push o).push { cls := .type "enumerate", data := .fields #[.none, .bool false, .ref s.heap.objs.size, rawInt 0, .none, .none] }) (s.heap.objs.size + 1) s.heap.objs.size 0 .none := by
    have := Heap.get?_push_size (s.heap.push o) (o := { cls := .type "enumerate", data := .fields #[.none, .bool false, .ref s.heap.objs.size, rawInt 0, .none, .none] }) rfl
    rw [hz] at this; exact this
  refine ⟨⟨_, he, rfl⟩, h _ he (Heap.get?_push_of_some _ (Heap.get?_push_size _ B.free)) (by rw [Heap.size_push, hz]) fun b o x => Heap.get?_push_of_some _ (Heap.get?_push_of_some _ x)⟩
theorem turn_enumT {P : Program} {w : World} {K : PySem.W.Frag} {elts : List Expr} {kk : Nat} {tpos : Pos} (a e it : Addr) :
    Turn P w K (.Tuple elts kk tpos) (IteT K a) [e, it] e (fun i h => (∃ old, IsEnum h e it ((i : Nat) : Int) old) ∧ h.IsTupleIter it a i ∧ e ≠ it ∧ e ≠ a ∧ it ≠ a) where
  mem := by simp
  obj := fun i h st b hb => by
    obtain ⟨⟨old, he⟩, ⟨o, ho, hc, hd⟩, _⟩ := st
    have e' : b = e ∨ b = it := by simpa using hb
    rcases e' with z | z
    · rw [z]; exact ⟨_, he, fun v q => nomatch q⟩
    · rw [z]; exact ⟨o, ho, fun v q => by rw [hd] at q; cases q⟩
  keep := fun i h h' st k => let ⟨⟨old, he⟩, hi, hne⟩ := st; ⟨⟨old, k e (by simp) _ he⟩, hi.at fun o q => k it (by simp) o q, hne⟩
  item := by
    intro X hP hw hK hc i pins s σ H E I hf st hg
    subst hP hw hK
    obtain ⟨⟨old, he⟩, hit, hne, hea, hia⟩ := st
    obtain ⟨xs, x, hq, hx⟩ := hg
    obtain ⟨its, rv, p, _⟩ := I.tuple hq
    obtain ⟨u, hu, ru⟩ := rv.get hx
    have hel : e < s.heap.objs.size := Heap.lt_size he
    have hil : it < s.heap.objs.size := by obtain ⟨_, q, _⟩ := hit; exact Heap.lt_size q
    have hlt : i < its.toArray.size := by
      have h1 := (List.getElem?_eq_some_iff.mp hu).1
      rw [List.size_toArray]; exact h1
    refine wpAny_pyNext_enum_itemD (Draws.tuple (by show X.A.handled = none; exact I.ok.hd hc) it a (Ne.symm hia) its.toArray) he ⟨hit, p⟩ hlt hne (by simp [hne, hea]) fun u' h' tk hu' ho hit' hT hsz hk => ?_
    have eu : u' = u := by
      have h2 : its.toArray[i]? = some u := by simpa using hu
      rw [h2] at hu'; exact (Option.some.inj hu').symm
    subst eu
    refine ⟨_, rfl, wpAny_letOwnedTupleGo_enum (s := { s with heap := h', toks := tk + 1 }) ho fun h'' he' sb => ?_⟩
    have hT2 : h''.get? s.heap.objs.size = some { cls := .type "tuple", data := .seq #[.int i tk, u'] } := (sb.2 _ (Nat.ne_of_gt hel)).trans hT
    have new : ObjOk X.prog X.w (upd H s.heap.objs.size (.tup [.int (i : Nat), x])) h'' s.heap.objs.size (.tup [.int (i : Nat), x]) :=
      ⟨by show 2 ≤ sizeLine; decide, [.int i tk, u'], .cons ⟨_, rfl⟩ (.cons ru .nil), ⟨_, hT2, rfl, _, rfl⟩⟩
    have I1 : Inv X pins σ (upd H s.heap.objs.size (.tup [.int (i : Nat), x])) { s with heap := h'', toks := tk + 1 } :=
      I.turnedNew (t' := tk + 1) (ch := [e, it]) (fun b ob hb q => (sb.2 b (fun z => hb (by simp [z]))).trans (hk b ob (fun z => hb (by simp [z])) (fun z => hb (by simp [z])) q)) hf (Nat.le_refl _) new
    refine ⟨.ref s.heap.objs.size, _, I1, rfl, ⟨_, x, rfl, I.hok.fresh (Nat.le_refl _), rfl, fun ys hy => by rw [I.tuple_inj hy hq]; exact hx⟩, ⟨⟨u', ?_⟩, hit'.1.at fun o q => (sb.2 it (Ne.symm hne)).trans q, hne, hea, hia⟩, fun b hb => ?_⟩
    · have e1 : ((i + 1 : Nat) : Int) = (i : Int) + 1 := by omega
      rw [e1]; exact he'
    · have hb' : b < s.heap.objs.size := by
        have e' : b = e ∨ b = it := by simpa using hb
        rcases e' with z | z
        · rw [z]; exact hel
        · rw [z]; exact hil
      rw [upd_ne (Nat.ne_of_lt hb')]
      exact (hf b hb).1
  done := by
    intro X hP hw hK hc i pins s σ H E I hf st hg
    subst hP hw hK
    obtain ⟨⟨old, he⟩, hit, hne, hea, hia⟩ := st
    obtain ⟨xs, hq, hx⟩ := hg
    obtain ⟨its, rv, p, _⟩ := I.tuple hq
    obtain ⟨f0, f1, f2, f3, f4, f5⟩ := hf it (by simp)
    have hl := rv.length
    have hn : its.toArray[i]? = none := by simp; omega
    have hT : s.TypeIs (.ref e) "enumerate" := ⟨_, he, rfl⟩
    unfold pyNext
    refine wpAny_bind (wpAny_attempt (wpAny_callSpecial?_slot (name := Str.ofString "__next__") hT F.slot_enumerate_next
      (wpAny_call_entry F.slot_enumerate_next hT F.entry_enumerate_next ?_ (F.args_enumerate_next_1 _))))
    show wpAny _ _ (field (.ref e) 2 >>= _) _ _ _
    refine wpAny_bind (wpAny_field he rfl (x := .ref it) rfl ?_)
    refine wpAny_bind (wpAny_nextOf_tuple_end (I.ok.hd hc) hit p hn fun h' x he' hx' => ?_)
    obtain ⟨o, ho, hcc⟩ := hx'
    refine wpAny_bind (wpAny_isInstance (T := "StopIteration") (b := true) ⟨o, ho, hcc⟩ isSubtype_stop ?_)
    exact wpAny_pure ⟨rfl, I.turned (t' := s.toks) (fun b o hb q => he' b o hb q) f0 f1 f3 f4 f5⟩
  self := fun A i s Q E st h => let ⟨⟨_, he⟩, _⟩ := st; wpAny_pyIter_enum he h
def EnumTK (K : PySem.W.Frag) (R : It → Hp → Prop) (vs : List V) (H : Hp) : Prop := ∃ (a : Addr) (xs : List V), vs = [.ref a] ∧ SqT K H a xs ∧ R (IteT K a) H
def iEnumT (K : PySem.W.Frag) (ta : TA) : TI := fun σ H R => ta σ H (EnumTK K R)
theorem pi_enumT {X : Cx} {e : Expr} {ta : TA} {p pos tpos : Pos} {elts : List Expr} {kk : Nat} (hg : Gl X "enumerate") (hm : X.mg "enumerate" = none) (ha : PA X [e] ta) (hs : starEach [e] X.env = [(false, eval e X.env)] := by rfl) :
    PI X (.Tuple elts kk tpos) (.Call (.Name "enumerate" p) [e] [] pos) (iEnumT X.K ta) := by
  refine ⟨fun pins s σ H R I h => ?_⟩
  refine Call_ (ld_blt I hg hm boot_enumerate (PyProof.Rows.callWith_type1 (thn (ha.run pos pins s σ H _ I h) fun us s1 ⟨vs, H1, I1, r1, q1⟩ => ?_) hs rfl))
  obtain ⟨a, xs, ex, hq, q⟩ := q1
  subst ex
  cases r1 with
  | cons r rr =>
    cases rr
    cases r
    obtain ⟨its, rv, p', _⟩ := I1.tuple hq
    have hal : a < s1.heap.objs.size := by obtain ⟨_, q, _⟩ := p'; exact Heap.lt_size q
    refine call_enum1 (begins_tuple a its.toArray) p' fun h' he hit hsz hk => wpAny_pyIter_enum he ?_
    have I2 : Inv X pins σ H1 { s1 with heap := h' } := I1.kept (t' := s1.toks) hk
    refine ⟨s1.heap.objs.size + 1, [s1.heap.objs.size + 1, s1.heap.objs.size], _, _, H1, rfl, I2, turn_enumT a (s1.heap.objs.size + 1) s1.heap.objs.size, ⟨⟨.none, he⟩, ⟨_, hit, rfl, rfl⟩, Nat.succ_ne_self _, Nat.ne_of_gt (Nat.lt_succ_of_lt hal), Nat.ne_of_gt hal⟩, fun b hb => ?_, q⟩
    have e' : b = s1.heap.objs.size + 1 ∨ b = s1.heap.objs.size := by simpa using hb
    have hle : s1.heap.objs.size ≤ b := by
      rcases e' with z | z
      · rw [z]; exact Nat.le_add_right _ _
      · rw [z]; exact Nat.le_refl _
    exact I1.fpOk hle (I1.hok.fresh hle)
section
variable {K : PySem.W.Frag} {σ : L2.St} {H : Hp} {a : Addr} {xs : List V}
theorem m_enumT {ta : TA} {R : It → Hp → Prop} (h : ta σ H (EnumTK K R)) : iEnumT K ta σ H R := h
theorem m_enumTE {R : It → Hp → Prop} (hx : SqT K H a xs) (h : R (IteT K a) H) : EnumTK K R [.ref a] H := ⟨a, xs, rfl, hx, h⟩
theorem walk_enumT : Walk (IteT K a) xs.length (fun H => SqT K H a xs) (YPair (fun i => some (.int (i : Nat))) (fun i => xs[i]?)) := by
  refine ⟨fun i _ hi q => ⟨xs, xs[i], q, by simp [hi]⟩, fun _ q => ⟨xs, q, Nat.le_refl _⟩, fun i H v H' _ q y => ?_⟩
  obtain ⟨T, x, h1, h2, h3, h4⟩ := y
  exact ⟨T, .int (i : Nat), x, h1, h2, h3, rfl, h4 xs q⟩
end
/-! ### xs += ys, of lists -/
theorem k_ext2 {H : Hp} {l b : Addr} {xs zs : List V} {Q : VK} (h : H l = some (.lst xs)) (h2 : H b = some (.lst zs)) (hn : xs.length + zs.length ≤ 1000000) (q : Q (.ref l) (upd H l (.lst (xs ++ zs)))) : rExt2 (.ref l) (.ref b) H Q := ⟨l, b, xs, zs, rfl, rfl, h, h2, Nat.le_trans hn (by decide), q⟩
end Tw
/-! ### sorted(set(a list of ints)) -/
namespace SS
open PySem PySem.Spec PyProof.Rows L2
section
variable {P : Program} {w : World} {A : Around} {E : Value → Shared → Prop} {s : Shared}
theorem setR_few {h : Heap} {a : Addr} {S : Int → Bool} {n : Nat} (R : SetR w h a S n) {U : List Int} (hU : ∀ k, S k = true → k ∈ U) : n ≤ U.length := by
  obtain ⟨o, es, ep, t, ho, hex, hd, g, nd, hm, hb, hf, hn, _⟩ := R
  have hs : es.toList.map keyOf ⊆ U := fun k hk => hU k ((hm k).2 hk)
  have := List.Nodup.length_le_of_subset nd hs
  rw [List.length_map, Array.length_toList, hn] at this
  exact this
theorem set_update_few {I : Addr} {fp wr : List Addr} {G : Array GenState → Array GenState → Prop} {n : Nat} {Pv : Nat → Value → Prop} {St : Nat → Shared → Prop} {R : Result → Shared → Prop}
    (W : WalksS P w A.in1 I fp wr G n Pv St) (S : Addr) (hSf : S ∉ fp) (ns U : List Int) (hn : n = ns.length) (hb : U.length + 1 < scanBound) (hU : ∀ k ∈ ns, k ∈ U) (hval : ∀ i v, Pv i v → ∃ k t, ns[i]? = some k ∧ v = .int k t) :
    ∀ (k i : Nat) (s : Shared), n - i = k → i ≤ n → St i s → (∃ c, SetR w s.heap S (fun j => decide (j ∈ ns.take i)) c) →
      (∀ s' c, Moved (S :: wr) G s s' → SetR w s'.heap S (fun j => decide (j ∈ ns)) c → R (.ok (.ret .none)) s') →
      codeAny (model P w) A (.builtin "set.update.loop" ⟨[.ref S, .ref I], []⟩) R s := by
  have hSw : S ∉ wr := fun h => hSf (W.sub _ h)
  have hsub : ∀ b ∈ wr, b ∈ S :: wr := fun b hb => List.mem_cons_of_mem _ hb
  intro k
  induction k with
  | zero =>
    intro i s hk' hi hst ⟨c, hS⟩ hR
    have hin : i = n := by omega
    subst hin
    refine codeAny_builtin F.entry_set_update_loop ?_
    rw [Around.under_plainId F.plain_set_update_loop _]
    show wpAny _ A.in1 (pyNext (.ref I) >>= _) _ _ s
    refine wpAny_bind (W.done s _ _ hst fun s' hm => ?_)
    show wpAny _ A.in1 (ret Value.none) _ _ s'
    have e : ns.take i = ns := List.take_of_length_le (by omega)
    rw [e] at hS
    exact wpAny_pure (hR s' c (hm.mono hsub) (hS.at fun o e => hm.heap S o hSw e))
  | succ k ih =>
    intro i s hk' hi hst ⟨c, hS⟩ hR
    have hlt : i < n := by omega
    refine codeAny_builtin F.entry_set_update_loop ?_
    rw [Around.under_plainId F.plain_set_update_loop _]
    show wpAny _ A.in1 (pyNext (.ref I) >>= _) _ _ s
    refine wpAny_bind (W.item i s _ _ hlt hst fun v s' hP hst' hm => ?_)
    obtain ⟨z, t, hz, rfl⟩ := hval i v hP
    have hS' : SetR w s'.heap S (fun j => decide (j ∈ ns.take i)) c := hS.at fun o e => hm.heap S o hSw e
    have hcU : c ≤ U.length := setR_few hS' fun k hk => hU k (List.mem_of_mem_take (of_decide_eq_true hk))
    show wpAny _ A.in1 (holding [Value.int z t] (setAdd S (.int z t)) >>= _) _ _ s'
    refine wpAny_bind (wpAny_holding ?_)
    unfold setAdd
    refine wpAny_holding ?_
    refine wpAny_bind ((intKind P w).pyHash (k := z) (intKind_is _ _ _ _) ?_)
    refine setR_add_hashed (s := { s' with toks := s'.toks + 1 }) hS' (by omega) fun h' hsb hS2 => ?_
    have hS3 : SetR w h' S (fun j => decide (j ∈ ns.take (i + 1))) (if decide (z ∈ ns.take i) = true then c else c + 1) := hS2.congr fun j => by
      rw [List.take_add_one, hz]
      simp [List.mem_append]
    refine wpAny_pure ⟨plainId_quiet F.plain_set_update_loop _, ih (i + 1) _ (by omega) hlt (W.frame _ s' _ _ hst' (Nat.le_succ _) fun b hb o e => ?_) ⟨_, hS3⟩ fun s'' c2 hm'' hS'' => ?_⟩
    · rw [hsb.2 b (fun h : b = S => hSf (by rw [← h]; exact hb))]; exact e
    · refine hR s'' c2 (Moved.trans W.gtrans ((hm.mono hsub).then_heap (Nat.le_succ _) fun b o hb e => ?_) hm'') hS''
      rw [hsb.2 b (fun h : b = S => hb (by rw [h]; exact List.mem_cons_self))]; exact e
set_option maxRecDepth 100000 in
set_option maxHeartbeats 3200000 in
theorem call_set_listI {l : Addr} {items : Array Value} (ns U : List Int) {Q : Value → Shared → Prop} (hh : A.handled = none) (hl : s.heap.IsList l items) (hit : IntsAre items.toList ns) (hb : U.length + 1 < scanBound) (hU : ∀ k ∈ ns, k ∈ U)
    (h : ∀ (h' : Heap) (tk c : Nat), SetR w h' s.heap.objs.size (fun j => decide (j ∈ ns)) c → (∀ b o, s.heap.get? b = some o → h'.get? b = some o) → Q (.ref s.heap.objs.size) { s with heap := h', toks := tk }) :
    wpAny (model P w) A (call (.type "set") [.ref l]) Q E s := by
  have hisz : items.size = ns.length := by
    have q := IntsAre.length hit
    rw [Array.length_toList] at q
    exact q
  obtain ⟨c, tl, hmro⟩ := F.called_set.mro
  have hmade := F.called_set.made
  have hsub := F.called_set.sub
  refine wpAny_call (codeAny_of_tree ?_)
  show wpAny _ _ (callAny (.type "set") _) _ _ _
  refine wpAny_pure ⟨Code.quiet_builtin _ (by decide +kernel), codeAny_builtin F.entry_type_call ?_⟩
  rw [Around.under_plain (weight_type_call_type "set" [.ref l] []) rfl]
  have h1 := F.called_set.notType
  have h2 := F.called_set.canCreate
  have hct := F.typeCall_set_1 (.ref l)
  repeat (any_goals (first | assumption | wp_step))

  refine codeAny_mono (code_set_led1 (.ref l) (E := E) (Q₁ := fun obj s₁ => obj = .ref s.heap.objs.size ∧ s₁ = { s with heap := s.heap.push { cls := .type "set", dict := none, data := .set #[] 0 (.fresh 0 0 (!w.params.followText "set-order")) } }) ⟨rfl, rfl⟩) fun r s₁ hr => ?_
  cases r with
  | error e => exact hr
  | ok fl =>
    cases fl with
    | ret obj =>
      obtain ⟨rfl, rfl⟩ := hr
      have hS : (s.heap.push { cls := .type "set", dict := none, data := .set #[] 0 (.fresh 0 0 (!w.params.followText "set-order")) }).get? s.heap.objs.size = some { cls := .type "set", dict := none, data := .set #[] 0 (.fresh 0 0 (!w.params.followText "set-order")) } := Heap.get?_push_size _ rfl
      have hT : Shared.TypeIs { s with heap := s.heap.push { cls := .type "set", dict := none, data := .set #[] 0 (.fresh 0 0 (!w.params.followText "set-order")) } } (.ref s.heap.objs.size) "set" := ⟨_, hS, rfl⟩
      have hli := F.called_set.init.lookup
      have hbi := F.called_set.init.bind (.ref s.heap.objs.size)
      repeat (any_goals (first | assumption | wp_step))

      refine codeAny_mono (codeAny_call_builtin (R := wants (fun r s₂ => r = .none ∧ ∃ h' tk c, s₂ = { s with heap := h', toks := tk } ∧ SetR w h' s.heap.objs.size (fun j => decide (j ∈ ns)) c ∧
          (∀ b o, s.heap.get? b = some o → h'.get? b = some o)) E) F.called_set.init.plain F.entry_set_init (check_set_init_1 hT ?_)) fun r₂ s₂ hr₂ => ?_
      · obtain ⟨ol, hol, hcl, nl, hdl⟩ := hl
        obtain ⟨ocls, odict, odata, oslots⟩ := ol
        simp only at hcl hdl
        subst hcl; subst hdl
        have hol' : (s.heap.push { cls := .type "set", dict := none, data := .set #[] 0 (.fresh 0 0 (!w.params.followText "set-order")) }).get? l = some { cls := .type "list", dict := odict, data := .seq items nl, slots := oslots } := Heap.get?_push_of_some _ hol
        have hsls := F.sub_list_set
        have hslf := F.sub_list_frozenset
        have hne : (Value.type "list" == Value.type "dict") = false := by decide
        have hl1 : (s.heap.push { cls := .type "set", dict := none, data := .set #[] 0 (.fresh 0 0 (!w.params.followText "set-order")) }).IsList l items := ⟨_, hol', rfl, nl, rfl⟩
        unfold Builtin.«set.__init__» noKeywords Builtin.Frozenset.updateFrom
        generalize hPI : pyIter = PI
        wp_walk
        subst hPI

        refine wpAny_pyIter_list hl1 ?_
        refine wpAny_bind (wpAny_runValue ?_)
        have hlS : l < s.heap.objs.size := Heap.lt_size hol
        have hh3 : A.in1.in1.in1.handled = none := by simp [hh]
        have hz1 : (s.heap.push { cls := .type "set", dict := none, data := .set #[] 0 (.fresh 0 0 (!w.params.followText "set-order")) }).objs.size = s.heap.objs.size + 1 := Heap.size_push ..
        have hneI : l ≠ (s.heap.push { cls := .type "set", dict := none, data := .set #[] 0 (.fresh 0 0 (!w.params.followText "set-order")) }).objs.size := by
          rw [Heap.size_push]; exact Nat.ne_of_lt (Nat.lt_succ_of_lt hlS)
        have hSf : s.heap.objs.size ∉ [(s.heap.push { cls := .type "set", dict := none, data := .set #[] 0 (.fresh 0 0 (!w.params.followText "set-order")) }).objs.size, l] := by
          rw [Heap.size_push]; simp only [List.mem_cons, List.mem_singleton, List.not_mem_nil, or_false, not_or]
          exact ⟨Nat.ne_of_lt (Nat.lt_succ_self _), Nat.ne_of_gt hlS⟩
        have hval : ∀ (i : Nat) (v : Value), items[i]? = some v → ∃ k t, ns[i]? = some k ∧ v = .int k t := fun i v hv => by
          have hi : i < ns.length := by rw [← hisz]; exact (Array.getElem?_eq_some_iff.mp hv).1
          obtain ⟨t, e⟩ := PyProof.Rows.IntsAre.int_at hit i v (by rw [Array.getElem?_toList]; exact hv)
          refine ⟨ns[i], t, List.getElem?_eq_getElem hi, ?_⟩
          rw [e, List.getD_eq_getElem?_getD, List.getElem?_eq_getElem hi] <;> rfl
        refine set_update_few ((Walks.list hh3 _ l hneI items).toS) s.heap.objs.size
          hSf ns U hisz hb hU hval (items.size - 0) 0 _ (by omega) (Nat.zero_le _)
          ⟨⟨_, Heap.get?_push_size _ rfl, rfl, rfl⟩, (hl1.push _)⟩ ?hS0 ?hR
        case hS0 =>
          have hget : ((s.heap.push { cls := .type "set", dict := none, data := .set #[] 0 (.fresh 0 0 (!w.params.followText "set-order")) }).push { cls := .type "list_iterator", data := .fields #[.ref l, .int 0 0] }).get? s.heap.objs.size
              = some { cls := .type "set", dict := none, data := .set #[] 0 (.fresh 0 0 (!w.params.followText "set-order")) } := Heap.get?_push_of_some _ hS
          exact ⟨0, setR_new_at hget⟩
        case hR =>
          intro s' c' hm hS'
          obtain ⟨h', g2, d', tk', os'⟩ := s'
          have eg : g2 = s.gens := hm.gens
          have ed : d' = s.drawn := hm.drawn
          have eo : os' = s.os := hm.os
          subst eg; subst ed; subst eo
          show wpAny _ _ _ _ _ _
          refine wpAny_pure ?_
          show wpAny _ _ (ret Value.none) _ _ _
          refine wpAny_pure ⟨rfl, h', tk', c', rfl, hS', fun b o e => ?_⟩
          have hb0 : b < s.heap.objs.size := Heap.lt_size e
          have hb1 : b ≠ s.heap.objs.size := Nat.ne_of_lt hb0
          have hb2 : b ≠ (s.heap.push { cls := .type "set", dict := none, data := .set #[] 0 (.fresh 0 0 (!w.params.followText "set-order")) }).objs.size := by
            rw [Heap.size_push]; exact Nat.ne_of_lt (Nat.lt_succ_of_lt hb0)
          exact hm.heap b o (by simp only [List.mem_cons, List.mem_singleton, List.not_mem_nil, or_false, not_or]; exact ⟨hb1, hb2⟩) (Heap.get?_push_of_some _ (Heap.get?_push_of_some _ e))

      · cases r₂ with
        | error e => exact hr₂
        | ok fl₂ =>
          cases fl₂ with
          | ret r =>
            obtain ⟨rfl, h', tk, c', rfl, hS', hk'⟩ := hr₂
            repeat (any_goals (first | assumption | wp_step))
            exact h _ _ _ hS' hk'
          | _ => exact hr₂.elim
    | _ => exact hr.elim
theorem sorted_setU {a : Addr} {S : Int → Bool} {n : Nat} {Q : Value → Shared → Prop} (R : SetR w s.heap a S n) (hh : A.handled = none)
    (hQ : ∀ s' p (out : Array Value) (c : Nat) (ns : List Int), (∀ b o, s.heap.get? b = some o → s'.heap.get? b = some o) → s'.gens = s.gens → s'.os = s.os → s.heap.objs.size ≤ p →
      s'.heap.get? p = some (seqObj "list" out c) → IntsAre out.toList ns → ns.Pairwise (· < ·) → (∀ k, k ∈ ns ↔ S k = true) → ns.length = n → n < scanBound → Q (.ref p) s') :
    wpAny (model P w) A (call (.builtin "sorted") [.ref a]) Q E s := by
  obtain ⟨o, es, ep, t, ho, hex, hd, g, nd, hm, hb, hf, hn, hr, hl⟩ := R
  refine Calls.call_function_entry kind_sorted plain_sorted entry_sorted (args_sorted1 _) ?_
  unfold Builtin.«sorted»
  refine wpAny_bind (m := checkCount "sorted" 1 1 _) (wpAny_pure ?_)
  refine wpAny_bind (collect_set (A := A.in1) hh ⟨o, ho, hex.1, hd⟩ hf hb hr hl fun s1 vs k1 hz g1 o1 pm => ?_)
  have hvl : vs.length = n := by rw [pm.length_eq, List.length_map, Array.length_toList]; exact hn
  have hzl : vs.length ≤ sizeLine := by rw [hvl, sizeLine_eq]; unfold scanBound at hb; omega
  have hI : IntsAre vs (vs.map Builtin.Re.reRawOf) := ints_of vs fun v hv => by
    obtain ⟨e, he, q⟩ := List.mem_map.mp (pm.mem_iff.mp hv)
    obtain ⟨k, tk, h1, _⟩ := g e he
    exact ⟨k, tk, by rw [← q]; exact h1⟩
  have pk : (vs.map Builtin.Re.reRawOf).Perm (es.toList.map keyOf) := by
    have q := pm.map Builtin.Re.reRawOf
    rw [List.map_map] at q
    exact q
  refine wpAny_bind (wpAny_newList ?_ hzl)
  have hoL : (s1.heap.push (seqObj "list" vs.toArray 0)).get? s1.heap.objs.size = some (seqObj "list" vs.toArray 0) := Heap.get?_push_size _ rfl
  refine wpAny_bind (wpAny_holding (wpAny_call_entry slot_list_sort ⟨_, hoL, rfl⟩ entry_list_sort (SrtO.list_sort_ord SrtO.swo_int hoL hzl (fun h2 => SrtO.ints_sortable hI h2) fun out h1 h2 => ⟨_, rfl, ?_⟩) (args_list_sort _)))
  obtain ⟨a1, a2, a3⟩ := SrtO.ints_out hI h1 h2
  obtain ⟨c, hc⟩ := sortedHeap_at (vs := vs) (out := out.toArray) hoL
  have pn : (out.map SrtO.iv).Perm (es.toList.map keyOf) := a2.trans pk
  refine wpAny_pure ⟨_, rfl, hQ _ s1.heap.objs.size out.toArray c (out.map SrtO.iv) (fun b u e => ?_) g1 o1 hz hc (by rw [List.toList_toArray]; exact a1) (lt_of_le_nodup _ a3 (pn.nodup_iff.mpr nd)) (fun k => by rw [pn.mem_iff, ← hm k]) ?_ (by rw [← hn]; exact hb)⟩
  · have q := k1 b u e
    have hlt := Heap.lt_size q
    show (sortedHeap (s1.heap.push (seqObj "list" vs.toArray 0)) s1.heap.objs.size vs out.toArray).get? b = some u
    rw [sortedHeap_old (Nat.ne_of_lt hlt) (by rw [size_push']; exact Nat.lt_succ_of_lt hlt)]
    exact Heap.get?_push_of_some _ q
  · rw [pn.length_eq, List.length_map, Array.length_toList]; exact hn
end
end SS
namespace Tw
open PySem PySem.Spec PyProof.Rows L2
/-- sorted(set(xs)) -/
def SortSetK (K : PySem.W.Frag) (Q : VK) (x : V) (H : Hp) : Prop := ∃ (l : Addr) (ns U : List Int), x = .ref l ∧ SqL K H l (ns.map V.int) ∧ U.length ≤ 4090 ∧ (∀ k ∈ ns, k ∈ U) ∧ ∀ (ks : List Int) (p : Addr), ks.Pairwise (· < ·) → (∀ k, k ∈ ks ↔ k ∈ ns) → H p = none → Q (.ref p) (upd H p (.lst (ks.map V.int)))
def tSortSet (K : PySem.W.Frag) (ta : TE) : TE := fun σ H Q => ta σ H (SortSetK K Q)
theorem m_sortSet {K : PySem.W.Frag} {ta : TE} {σ : L2.St} {H : Hp} {Q : VK} (h : ta σ H (SortSetK K Q)) : tSortSet K ta σ H Q := h
theorem m_sortSetE {K : PySem.W.Frag} {H : Hp} {Q : VK} {l : Addr} {ns : List Int} (hS : SqL K H l (ns.map V.int)) (hn : ns.length ≤ 4090) (q : ∀ (ks : List Int) (p : Addr), ks.Pairwise (· < ·) → (∀ k, k ∈ ks ↔ k ∈ ns) → H p = none → Q (.ref p) (upd H p (.lst (ks.map V.int)))) : SortSetK K Q (.ref l) H := ⟨l, ns, ns, rfl, hS, hn, fun _ h => h, q⟩
theorem sort_step {X : Cx} {pins : List (Addr × Obj)} {σ : L2.St} {H : Hp} {s1 : Shared} {a : Addr} {S : Int → Bool} {c : Nat} {Q : VK} (I2 : Inv X pins σ H s1) (hh : X.A.handled = none) (hS : SetR X.w s1.heap a S c)
    (q1 : ∀ (ks : List Int) (p : Addr), ks.Pairwise (· < ·) → (∀ k, k ∈ ks ↔ S k = true) → H p = none → Q (.ref p) (upd H p (.lst (ks.map V.int)))) : wpAny (model X.prog X.w) X.A (call (.builtin "sorted") [.ref a]) (EP X pins σ Q) X.xe s1 := by
  refine SS.sorted_setU hS hh fun s' p out c ks k g o hp hg' hi hsrt hmem hlen hb => ?_
  have hzl : (ks.map V.int).length ≤ sizeLine := by rw [List.length_map, hlen, sizeLine_eq]; unfold scanBound at hb; omega
  have hn : H p = none := I2.hok.fresh hp
  have J : Inv X pins σ (upd H p (.lst (ks.map V.int))) { s1 with heap := s'.heap, gens := s'.gens, drawn := s'.drawn, toks := s'.toks } :=
    I2.call (ch := []) (Un.laid k hp hn) (I2.hok.laid k hp ⟨hzl, out.toList, c, vals_of_ints hi, hg'⟩) (by rw [g]; exact I2.bare) (fun _ z => nomatch z)
  have e : s' = { s1 with heap := s'.heap, gens := s'.gens, drawn := s'.drawn, toks := s'.toks } := by
    cases s'
    cases s1
    cases o
    rfl
  rw [e]
  exact ⟨.ref p, _, J, rfl, q1 ks p hsrt hmem hn⟩
theorem pe_sortSet {X : Cx} {a : Expr} {ta : TE} {p p2 q pos : Pos} (hg : Gl X "sorted") (hm : X.mg "sorted" = none) (hg2 : Gl X "set") (hm2 : X.mg "set" = none) (ha : PE X a ta) (hc : X.calm = true := by rfl)
    (na : starEach [a] X.env = (false, eval a X.env) :: starEach [] X.env := by rfl) : PE X (.Call (.Name "sorted" p) [.Call (.Name "set" p2) [a] [] q] [] pos) (tSortSet X.K ta) := by
  refine ⟨fun pins s σ H Q I h => ?_⟩
  refine Call_ (ld_blt I hg hm boot_sorted ?_)
  refine PyProof.Rows.callWith_builtin1 (PyProof.Rows.args_cons ?_ rfl) rfl rfl
  refine Call_ (ld_blt I hg2 hm2 boot_set ?_)
  refine PyProof.Rows.callWith_type1 (PyProof.Rows.args_cons (thn (ha.run pins s σ H _ I h) fun v s1 ⟨x, H1, I1, r1, q1⟩ => PyProof.Rows.args_nil ?_) na) na rfl
  obtain ⟨l, ns, U, rfl, hq, hU, hs, q1⟩ := q1
  cases r1
  obtain ⟨its, r, pl, hz⟩ := I1.list hq
  refine SS.call_set_listI ns U (I1.ok.hd hc) pl.isList (by simpa using intsAre_vals r) (by unfold scanBound; omega) hs fun h' tk c hS hk => ?_
  refine PyProof.Rows.args_nil ?_
  have I2 : Inv X pins σ H1 { s1 with heap := h', toks := tk } := I1.kept hk
  exact sort_step I2 (I1.ok.hd hc) hS fun ks p h1 h2 h3 => q1 ks p h1 (fun k => by rw [h2 k]; exact decide_eq_true_iff) h3
end Tw
open PySem PySem.Spec PyProof.Rows L2 Tw
set_option hygiene false in
local macro_rules | `(tactic| walk_at "s1") => `(tactic| first
  | with_reducible refine m_seq ?_
  | with_reducible refine k_asg ?_
  | with_reducible refine m_asg ?_
  | ((with_reducible refine' k_var ?kv ?_); case kv => walk_at "look")
  | with_reducible refine k_c ?_
  | with_reducible refine k_op ?_
  | with_reducible refine k_I0 ?_
  | ((with_reducible refine k_I ?kv ?_); case kv => walk_at "cond")
  | with_reducible refine k_and1 ?_
  | with_reducible refine k_eqI ?_
  | with_reducible refine k_neI ?_
  | ((with_reducible refine k_eq ?kv ?_); case kv => exact rfl)
  | ((with_reducible refine k_ne ?kv ?_); case kv => exact rfl)
  | with_reducible refine k_isN ?_
  | with_reducible refine k_notN ?_
  | with_reducible refine k_nx ?_
  | with_reducible refine k_rt ?_
  | with_reducible refine m_next ?_
  | with_reducible refine m_bk ?_
  | with_reducible refine m_ct ?_
  | with_reducible refine k_if ?_
  | with_reducible refine k_test ?_
  | with_reducible refine k_tB ?_
  | with_reducible refine k_bl ?_
  | with_reducible refine k_chain ?_
  | with_reducible refine k_chainE ?_
  | with_reducible refine k_not ?_
  | with_reducible refine k_and ?_
  | with_reducible refine k_or ?_
  | with_reducible refine k_andV ?_
  | with_reducible refine k_orV ?_
  | with_reducible refine k_notV ?_
  | with_reducible refine k_ifE ?_
  | with_reducible refine k_ret ?_
  | with_reducible refine k_retN ?_
  | with_reducible refine k_drop ?_
  | with_reducible refine k_cons ?_
  | with_reducible refine k_nil ?_
  | with_reducible refine m_call ?_
  | with_reducible refine m_callS ?_
  | with_reducible refine k_rz ?_
  | with_reducible refine m_tryAs ?_
  | with_reducible refine m_tryOnly ?_
  | with_reducible refine m_tryM ?_
  | with_reducible refine k_cb ?_
  | with_reducible refine k_tup ?_
  | with_reducible refine k_lst ?_
  | ((with_reducible refine' k_aug ?kv ?_); case kv => exact rfl)
  | with_reducible refine k_ipI ?_
  | with_reducible refine k_un ?_
  | with_reducible refine k_U ?_
  | with_reducible refine k_sl ?_
  | with_reducible refine k_part ?_
  | with_reducible refine k_noPart ?_
  | with_reducible refine k_partE ?_
  | with_reducible refine k_bm ?_
  | with_reducible refine k_bm0 ?_
  | with_reducible refine k_isInt ?_
  | with_reducible refine k_isBool ?_
  | with_reducible refine k_min2 ?_
  | with_reducible refine k_max2 ?_
  | with_reducible refine m_gName ?_
  | with_reducible refine m_for ?_
  | with_reducible refine m_rng1 ?_
  | ((with_reducible refine m_rng1n ?kv ?_); case kv => walk_at "arith")
  | ((with_reducible refine m_rng1e ?kv ?_); case kv => walk_at "arith")
  | with_reducible refine m_rng2 ?_
  | ((with_reducible refine m_rng2e ?kv ?_); case kv => walk_at "arith")
  | with_reducible refine m_iL ?_
  | with_reducible refine m_iT ?_
  | with_reducible refine m_lc ?_
  | ((with_reducible refine k_disp ?kv ?_); case kv => (first | decide | (simp only [List.length_cons, List.length_nil]; omega)))
  | with_reducible refine m_rev ?_
  | with_reducible refine m_revL ?_
  | with_reducible refine m_enum ?_
  | with_reducible refine m_zip ?_
  | with_reducible refine m_rng3 ?_
  | with_reducible refine m_gCons ?_
  | with_reducible refine m_gNil ?_
  | with_reducible refine m_gSub ?_
  | with_reducible refine m_par ?_
  | with_reducible refine m_parE ?_
  | with_reducible refine m_wbody ?_
  | with_reducible refine m_lenSet ?_
  | with_reducible refine m_minD ?_
  | with_reducible refine m_maxD ?_
  | ((with_reducible refine' m_callV ?kv ?kf ?_); (case kv => walk_at "look"); (case kf => walk_at "isfn"))
  | with_reducible refine k_yes ?_
  | with_reducible refine k_T ?_
  | with_reducible refine k_F ?_
  | with_reducible refine k_nT ?_
  | with_reducible refine k_nF ?_)
local macro_rules | `(tactic| walk_at "cond") => `(tactic| first | exact ⟨by decide, by decide⟩ | omega | decide | exact ⟨by omega, by omega⟩ | exact ⟨by omega, by omega, by decide⟩ | exact Or.inr (by omega) | exact Or.inr (by decide) | exact Or.inl (by omega) | exact Or.inl (by decide) | assumption)
local macro_rules | `(tactic| walk_at "st") => `(tactic| repeat (walk_at "s1"))
local macro_rules | `(tactic| walk_at "look") => `(tactic| first | exact rfl | (simp only [List.getElem?_set, List.getElem?_cons_zero, List.getElem?_cons_succ]; exact rfl))
local macro_rules | `(tactic| walk_at "if") => `(tactic| first | with_reducible apply k_dec | with_reducible apply k_ndec)
local macro_rules | `(tactic| walk_at "arith") => `(tactic| first | decide | omega | (simp only [List.length_map, List.length_take, List.length_drop, List.length_append, List.length_cons, List.length_nil] at *; first | omega | (split <;> omega) | (split <;> split <;> omega)))
local macro_rules | `(tactic| walk_at "isfn") => `(tactic| assumption)
namespace Tw
structure KFx (K : PySem.W.Frag) : Prop where
  ec_NoBit : ExcC K (He.ga K "NoBit")
  kt_NoBit : PySem.W.kitOne K (.ref (He.ga K "NoBit")) (.type "ValueError") = some true
  k_NoBit_NoBit : PySem.W.kitOne K (.ref (He.ga K "NoBit")) (.ref (He.ga K "NoBit")) = some true
  e_NoBit_NoBit : PySem.W.exmOne K (.ref (He.ga K "NoBit")) (.ref (He.ga K "NoBit")) = some true
  k_NoBit_NoOctets : PySem.W.kitOne K (.ref (He.ga K "NoBit")) (.ref (He.ga K "NoOctets")) = some false
  e_NoBit_NoOctets : PySem.W.exmOne K (.ref (He.ga K "NoBit")) (.ref (He.ga K "NoOctets")) = some false
  k_NoBit_NoPlace : PySem.W.kitOne K (.ref (He.ga K "NoBit")) (.ref (He.ga K "NoPlace")) = some false
  e_NoBit_NoPlace : PySem.W.exmOne K (.ref (He.ga K "NoBit")) (.ref (He.ga K "NoPlace")) = some false
  k_NoBit_NoSign : PySem.W.kitOne K (.ref (He.ga K "NoBit")) (.ref (He.ga K "NoSign")) = some false
  e_NoBit_NoSign : PySem.W.exmOne K (.ref (He.ga K "NoBit")) (.ref (He.ga K "NoSign")) = some false
  k_NoBit_TooMany : PySem.W.kitOne K (.ref (He.ga K "NoBit")) (.ref (He.ga K "TooMany")) = some false
  e_NoBit_TooMany : PySem.W.exmOne K (.ref (He.ga K "NoBit")) (.ref (He.ga K "TooMany")) = some false
  k_NoBit_WoodError : PySem.W.kitOne K (.ref (He.ga K "NoBit")) (.ref (He.ga K "WoodError")) = some true
  e_NoBit_WoodError : PySem.W.exmOne K (.ref (He.ga K "NoBit")) (.ref (He.ga K "WoodError")) = some true
  ec_NoOctets : ExcC K (He.ga K "NoOctets")
  kt_NoOctets : PySem.W.kitOne K (.ref (He.ga K "NoOctets")) (.type "ValueError") = some true
  k_NoOctets_NoBit : PySem.W.kitOne K (.ref (He.ga K "NoOctets")) (.ref (He.ga K "NoBit")) = some false
  e_NoOctets_NoBit : PySem.W.exmOne K (.ref (He.ga K "NoOctets")) (.ref (He.ga K "NoBit")) = some false
  k_NoOctets_NoOctets : PySem.W.kitOne K (.ref (He.ga K "NoOctets")) (.ref (He.ga K "NoOctets")) = some true
  e_NoOctets_NoOctets : PySem.W.exmOne K (.ref (He.ga K "NoOctets")) (.ref (He.ga K "NoOctets")) = some true
  k_NoOctets_NoPlace : PySem.W.kitOne K (.ref (He.ga K "NoOctets")) (.ref (He.ga K "NoPlace")) = some false
  e_NoOctets_NoPlace : PySem.W.exmOne K (.ref (He.ga K "NoOctets")) (.ref (He.ga K "NoPlace")) = some false
  k_NoOctets_NoSign : PySem.W.kitOne K (.ref (He.ga K "NoOctets")) (.ref (He.ga K "NoSign")) = some false
  e_NoOctets_NoSign : PySem.W.exmOne K (.ref (He.ga K "NoOctets")) (.ref (He.ga K "NoSign")) = some false
  k_NoOctets_TooMany : PySem.W.kitOne K (.ref (He.ga K "NoOctets")) (.ref (He.ga K "TooMany")) = some false
  e_NoOctets_TooMany : PySem.W.exmOne K (.ref (He.ga K "NoOctets")) (.ref (He.ga K "TooMany")) = some false
  k_NoOctets_WoodError : PySem.W.kitOne K (.ref (He.ga K "NoOctets")) (.ref (He.ga K "WoodError")) = some true
  e_NoOctets_WoodError : PySem.W.exmOne K (.ref (He.ga K "NoOctets")) (.ref (He.ga K "WoodError")) = some true
  ec_NoPlace : ExcC K (He.ga K "NoPlace")
  kt_NoPlace : PySem.W.kitOne K (.ref (He.ga K "NoPlace")) (.type "ValueError") = some true
  k_NoPlace_NoBit : PySem.W.kitOne K (.ref (He.ga K "NoPlace")) (.ref (He.ga K "NoBit")) = some false
  e_NoPlace_NoBit : PySem.W.exmOne K (.ref (He.ga K "NoPlace")) (.ref (He.ga K "NoBit")) = some false
  k_NoPlace_NoOctets : PySem.W.kitOne K (.ref (He.ga K "NoPlace")) (.ref (He.ga K "NoOctets")) = some false
  e_NoPlace_NoOctets : PySem.W.exmOne K (.ref (He.ga K "NoPlace")) (.ref (He.ga K "NoOctets")) = some false
  k_NoPlace_NoPlace : PySem.W.kitOne K (.ref (He.ga K "NoPlace")) (.ref (He.ga K "NoPlace")) = some true
  e_NoPlace_NoPlace : PySem.W.exmOne K (.ref (He.ga K "NoPlace")) (.ref (He.ga K "NoPlace")) = some true
  k_NoPlace_NoSign : PySem.W.kitOne K (.ref (He.ga K "NoPlace")) (.ref (He.ga K "NoSign")) = some false
  e_NoPlace_NoSign : PySem.W.exmOne K (.ref (He.ga K "NoPlace")) (.ref (He.ga K "NoSign")) = some false
  k_NoPlace_TooMany : PySem.W.kitOne K (.ref (He.ga K "NoPlace")) (.ref (He.ga K "TooMany")) = some false
  e_NoPlace_TooMany : PySem.W.exmOne K (.ref (He.ga K "NoPlace")) (.ref (He.ga K "TooMany")) = some false
  k_NoPlace_WoodError : PySem.W.kitOne K (.ref (He.ga K "NoPlace")) (.ref (He.ga K "WoodError")) = some true
  e_NoPlace_WoodError : PySem.W.exmOne K (.ref (He.ga K "NoPlace")) (.ref (He.ga K "WoodError")) = some true
  ec_NoSign : ExcC K (He.ga K "NoSign")
  kt_NoSign : PySem.W.kitOne K (.ref (He.ga K "NoSign")) (.type "ValueError") = some true
  k_NoSign_NoBit : PySem.W.kitOne K (.ref (He.ga K "NoSign")) (.ref (He.ga K "NoBit")) = some false
  e_NoSign_NoBit : PySem.W.exmOne K (.ref (He.ga K "NoSign")) (.ref (He.ga K "NoBit")) = some false
  k_NoSign_NoOctets : PySem.W.kitOne K (.ref (He.ga K "NoSign")) (.ref (He.ga K "NoOctets")) = some false
  e_NoSign_NoOctets : PySem.W.exmOne K (.ref (He.ga K "NoSign")) (.ref (He.ga K "NoOctets")) = some false
  k_NoSign_NoPlace : PySem.W.kitOne K (.ref (He.ga K "NoSign")) (.ref (He.ga K "NoPlace")) = some false
  e_NoSign_NoPlace : PySem.W.exmOne K (.ref (He.ga K "NoSign")) (.ref (He.ga K "NoPlace")) = some false
  k_NoSign_NoSign : PySem.W.kitOne K (.ref (He.ga K "NoSign")) (.ref (He.ga K "NoSign")) = some true
  e_NoSign_NoSign : PySem.W.exmOne K (.ref (He.ga K "NoSign")) (.ref (He.ga K "NoSign")) = some true
  k_NoSign_TooMany : PySem.W.kitOne K (.ref (He.ga K "NoSign")) (.ref (He.ga K "TooMany")) = some false
  e_NoSign_TooMany : PySem.W.exmOne K (.ref (He.ga K "NoSign")) (.ref (He.ga K "TooMany")) = some false
  k_NoSign_WoodError : PySem.W.kitOne K (.ref (He.ga K "NoSign")) (.ref (He.ga K "WoodError")) = some true
  e_NoSign_WoodError : PySem.W.exmOne K (.ref (He.ga K "NoSign")) (.ref (He.ga K "WoodError")) = some true
  ec_TooMany : ExcC K (He.ga K "TooMany")
  kt_TooMany : PySem.W.kitOne K (.ref (He.ga K "TooMany")) (.type "ValueError") = some true
  k_TooMany_NoBit : PySem.W.kitOne K (.ref (He.ga K "TooMany")) (.ref (He.ga K "NoBit")) = some false
  e_TooMany_NoBit : PySem.W.exmOne K (.ref (He.ga K "TooMany")) (.ref (He.ga K "NoBit")) = some false
  k_TooMany_NoOctets : PySem.W.kitOne K (.ref (He.ga K "TooMany")) (.ref (He.ga K "NoOctets")) = some false
  e_TooMany_NoOctets : PySem.W.exmOne K (.ref (He.ga K "TooMany")) (.ref (He.ga K "NoOctets")) = some false
  k_TooMany_NoPlace : PySem.W.kitOne K (.ref (He.ga K "TooMany")) (.ref (He.ga K "NoPlace")) = some false
  e_TooMany_NoPlace : PySem.W.exmOne K (.ref (He.ga K "TooMany")) (.ref (He.ga K "NoPlace")) = some false
  k_TooMany_NoSign : PySem.W.kitOne K (.ref (He.ga K "TooMany")) (.ref (He.ga K "NoSign")) = some false
  e_TooMany_NoSign : PySem.W.exmOne K (.ref (He.ga K "TooMany")) (.ref (He.ga K "NoSign")) = some false
  k_TooMany_TooMany : PySem.W.kitOne K (.ref (He.ga K "TooMany")) (.ref (He.ga K "TooMany")) = some true
  e_TooMany_TooMany : PySem.W.exmOne K (.ref (He.ga K "TooMany")) (.ref (He.ga K "TooMany")) = some true
  k_TooMany_WoodError : PySem.W.kitOne K (.ref (He.ga K "TooMany")) (.ref (He.ga K "WoodError")) = some true
  e_TooMany_WoodError : PySem.W.exmOne K (.ref (He.ga K "TooMany")) (.ref (He.ga K "WoodError")) = some true
  ec_WoodError : ExcC K (He.ga K "WoodError")
  kt_WoodError : PySem.W.kitOne K (.ref (He.ga K "WoodError")) (.type "ValueError") = some true
  k_WoodError_NoBit : PySem.W.kitOne K (.ref (He.ga K "WoodError")) (.ref (He.ga K "NoBit")) = some false
  e_WoodError_NoBit : PySem.W.exmOne K (.ref (He.ga K "WoodError")) (.ref (He.ga K "NoBit")) = some false
  k_WoodError_NoOctets : PySem.W.kitOne K (.ref (He.ga K "WoodError")) (.ref (He.ga K "NoOctets")) = some false
  e_WoodError_NoOctets : PySem.W.exmOne K (.ref (He.ga K "WoodError")) (.ref (He.ga K "NoOctets")) = some false
  k_WoodError_NoPlace : PySem.W.kitOne K (.ref (He.ga K "WoodError")) (.ref (He.ga K "NoPlace")) = some false
  e_WoodError_NoPlace : PySem.W.exmOne K (.ref (He.ga K "WoodError")) (.ref (He.ga K "NoPlace")) = some false
  k_WoodError_NoSign : PySem.W.kitOne K (.ref (He.ga K "WoodError")) (.ref (He.ga K "NoSign")) = some false
  e_WoodError_NoSign : PySem.W.exmOne K (.ref (He.ga K "WoodError")) (.ref (He.ga K "NoSign")) = some false
  k_WoodError_TooMany : PySem.W.kitOne K (.ref (He.ga K "WoodError")) (.ref (He.ga K "TooMany")) = some false
  e_WoodError_TooMany : PySem.W.exmOne K (.ref (He.ga K "WoodError")) (.ref (He.ga K "TooMany")) = some false
  k_WoodError_WoodError : PySem.W.kitOne K (.ref (He.ga K "WoodError")) (.ref (He.ga K "WoodError")) = some true
  e_WoodError_WoodError : PySem.W.exmOne K (.ref (He.ga K "WoodError")) (.ref (He.ga K "WoodError")) = some true

/-- _law_whole(x) -/
def sp_law_whole (_ : PySem.W.Frag) : Sp := fun vs H Q _ => ∃ x : V, vs = [x] ∧ ((∃ n : Int, x = .int n ∧ Q (.bl true) H) ∨ (x = .non ∧ Q (.bl false) H))
theorem whole_int {K : PySem.W.Frag} {H : Hp} {Q : VK} {E : XK} {n : Int} (q : Q (.bl true) H) : sp_law_whole K [.int n] H Q E := ⟨_, rfl, .inl ⟨n, rfl, q⟩⟩
theorem whole_non {K : PySem.W.Frag} {H : Hp} {Q : VK} {E : XK} (q : Q (.bl false) H) : sp_law_whole K [.non] H Q E := ⟨_, rfl, .inr ⟨rfl, q⟩⟩
theorem len_law_whole (K : PySem.W.Frag) : ∀ vs H Q E, sp_law_whole K vs H Q E → vs.length = 1 := by
  rintro vs H Q E ⟨x, rfl, _⟩; rfl
def t_law_whole (K : PySem.W.Frag) : TS :=
  (tRet (tAndV (tCB rIsB (tCons (tVar 0) (tCons (tC (.ty "int")) tNil))) (tNotV (tCB rIsB (tCons (tVar 0) (tCons (tC (.ty "bool")) tNil))))))
abbrev n_law_whole : List Str := ["_law_found"]

theorem rd_law_whole (K : PySem.W.Frag) (vs : List V) (H : Hp) (Q : VK) (E : XK) (h : sp_law_whole K vs H Q E) : t_law_whole K { nx := fun _ H' => Q .non H', rt := Q } (start n_law_whole vs) H := by
  obtain ⟨x, rfl, (⟨n, rfl, q⟩ | ⟨rfl, q⟩)⟩ := h
  · unfold t_law_whole
    walk_at "st"
    exact q
  · unfold t_law_whole
    walk_at "st"
    refine k_isIntN ?_
    walk_at "st"
    exact q

/-- _law_cell_at(script, k) -/
def sp_law_cell_at (K : PySem.W.Frag) : Sp := fun vs H Q _ => ∃ (a : Addr) (ns : List Int) (k : Int), vs = [.ref a, .int k] ∧ SqL K H a (ns.map V.int) ∧ 0 ≤ k ∧ ∀ c : Int, c = ns.getD k.toNat 0 → Q (.int c) H
theorem len_law_cell_at (K : PySem.W.Frag) : ∀ vs H Q E, sp_law_cell_at K vs H Q E → vs.length = 2 := by
  rintro vs H Q E ⟨x, y, z, rfl, _⟩; rfl
def t_law_cell_at (K : PySem.W.Frag) : TS :=
  (tSeq (tIfS (tTest (tOp rLt (tVar 1) (tCB (rLen K) (tCons (tVar 0) tNil))))
  (tRet (tOp (rIxL K) (tVar 0) (tVar 1)))
  tNext)
  (tRet (tC (.int 0))))
abbrev n_law_cell_at : List Str := ["_law_script", "_law_k"]

theorem rd_law_cell_at (K : PySem.W.Frag) (vs : List V) (H : Hp) (Q : VK) (E : XK) (h : sp_law_cell_at K vs H Q E) : t_law_cell_at K { nx := fun _ H' => Q .non H', rt := Q } (start n_law_cell_at vs) H := by
  obtain ⟨a, ns, k, rfl, hS, hk, q⟩ := h
  unfold t_law_cell_at
  walk_at "st"
  refine k_lenL hS ?_
  walk_at "st"
  rw [List.length_map]
  walk_at "if" <;> intro c
  · walk_at "st"
    have hlt : k.toNat < ns.length := by omega
    refine k_ixL hS (at_int hk (mapint (List.getElem?_eq_getElem hlt))) ?_
    walk_at "st"
    exact q _ (by rw [List.getD_eq_getElem?_getD, List.getElem?_eq_getElem hlt]; rfl)
  · walk_at "st"
    exact q _ (by rw [List.getD_eq_getElem?_getD, List.getElem?_eq_none (by omega)]; rfl)
theorem call_cell_at {K : PySem.W.Frag} {H : Hp} {Q : VK} {E : XK} {a : Addr} {ns : List Int} {k : Int} (hS : SqL K H a (ns.map V.int)) (hk : 0 ≤ k) (q : ∀ c : Int, c = ns.getD k.toNat 0 → Q (.int c) H) : sp_law_cell_at K [.ref a, .int k] H Q E :=
  ⟨a, ns, k, rfl, hS, hk, q⟩

/-- cuts, joins and repeats of lists of ints -/
theorem k_slTake {K : PySem.W.Frag} {H : Hp} {Q : VK} {p : Addr} {bs : List Int} {k : Nat} (h : SqL K H p (bs.map V.int)) (q : ∀ l H', H l = none → Same H H' → H' l = some (.lst ((bs.take k).map V.int)) → Q (.ref l) H') : rSlL K (.ref p) none (some (k : Int)) H Q := by
  refine k_slL h fun l hl => ?_
  rw [cutTake, ← List.map_take]
  exact q l _ hl (same_new hl) upd_same
theorem k_slDrop {K : PySem.W.Frag} {H : Hp} {Q : VK} {p : Addr} {bs : List Int} {k : Nat} (h : SqL K H p (bs.map V.int)) (q : ∀ l H', H l = none → Same H H' → H' l = some (.lst ((bs.drop k).map V.int)) → Q (.ref l) H') : rSlL K (.ref p) (some (k : Int)) none H Q := by
  refine k_slL h fun l hl => ?_
  rw [cutDrop, ← List.map_drop]
  exact q l _ hl (same_new hl) upd_same
theorem new_both {H : Hp} {p : Addr} {o : HO} (h : H p = none) : Same H (upd H p o) ∧ (upd H p o) p = some o := ⟨same_new h, upd_same⟩
theorem k_catI {H : Hp} {Q : VK} {a b : Addr} {xs ys : List Int} (h1 : H a = some (.lst (xs.map V.int))) (h2 : H b = some (.lst (ys.map V.int))) (hn : xs.length + ys.length ≤ 1000000) (q : ∀ l H', H l = none → Same H H' → H' l = some (.lst ((xs ++ ys).map V.int)) → Q (.ref l) H') : rCat (.ref a) (.ref b) H Q := by
  refine k_cat h1 h2 (by rw [List.length_map, List.length_map]; exact hn) fun p hp => ?_
  rw [← List.map_append]
  exact q p _ hp (same_new hp) upd_same
theorem k_catKI {K : PySem.W.Frag} {H : Hp} {Q : VK} {a b : Addr} {xs ys : List Int} (h1 : SqL K H a (xs.map V.int)) (h2 : SqL K H b (ys.map V.int)) (hn : xs.length + ys.length ≤ 1000000) (q : ∀ l H', H l = none → Same H H' → H' l = some (.lst ((xs ++ ys).map V.int)) → Q (.ref l) H') : rCatK K (.ref a) (.ref b) H Q := by
  refine k_catK h1 h2 (by rw [List.length_map, List.length_map]; exact hn) fun p hp => ?_
  rw [← List.map_append]
  exact q p _ hp (same_new hp) upd_same
theorem k_repI {H : Hp} {Q : VK} {a : Addr} {xs : List Int} {n : Int} (h : H a = some (.lst (xs.map V.int))) (h0 : 0 ≤ n ∧ n ≤ 1000000) (hn : xs.length * n.toNat ≤ 1000000) (q : ∀ l H' (cs : List Int), H l = none → Same H H' → cs = (List.replicate n.toNat xs).flatten → cs.length = n.toNat * xs.length → H' l = some (.lst (cs.map V.int)) → Q (.ref l) H') : rRep (.ref a) (.int n) H Q := by
  obtain ⟨m, rfl⟩ := Int.eq_ofNat_of_zero_le h0.1
  rw [Int.toNat_natCast] at hn q
  refine k_rep h (by rw [List.length_map]; exact hn) (by omega) fun p hp => ?_
  have e : (List.replicate m (xs.map V.int)).flatten = ((List.replicate m xs).flatten).map V.int := by
    rw [List.map_flatten, List.map_replicate]
  rw [e]
  refine q p _ _ hp (same_new hp) rfl ?_ upd_same
  rw [List.length_flatten, List.map_replicate, List.sum_replicate_nat]
/-- a number in a tuple of numbers -/
theorem k_inT {K : PySem.W.Frag} {H : Hp} {Q : VK} {p : Addr} {x : Int} {xs : List V} (h : H p = some (.tup xs)) (hf : xs.all flatV = true) (q : ∀ b, Q (.bl b) H) : rIn K false (.int x) (.ref p) H Q := ⟨p, xs, rfl, .inr (.of h), rfl, hf, q _⟩

/-! ### bits of a number -/
/-- the bit k of b -/
def bit (b : Int) (k : Nat) : Int := b / 2 ^ k % 2
theorem bit_cases (b : Int) (k : Nat) : bit b k = 0 ∨ bit b k = 1 := by unfold bit; omega
/-- the ones among the first n bits -/
def onesIn (b : Int) : Nat → Int
  | 0 => 0
  | n + 1 => onesIn b n + bit b n
theorem onesIn_mono1 (b : Int) (n : Nat) : onesIn b n ≤ onesIn b (n + 1) ∧ onesIn b (n + 1) ≤ onesIn b n + 1 := by
  show onesIn b n ≤ onesIn b n + bit b n ∧ onesIn b n + bit b n ≤ _
  have := bit_cases b n; omega
theorem onesIn_mono (b : Int) (n m : Nat) (h : n ≤ m) : onesIn b n ≤ onesIn b m := by
  induction m with
  | zero => have : n = 0 := by omega
            subst this; exact Int.le_refl _
  | succ m ih =>
    rcases Nat.lt_or_ge m n with q | q
    · have : n = m + 1 := by omega
      subst this; exact Int.le_refl _
    · have := ih q; have := onesIn_mono1 b m; omega
theorem onesIn_range (b : Int) (n : Nat) : 0 ≤ onesIn b n ∧ onesIn b n ≤ n := by
  induction n with
  | zero => exact ⟨Int.le_refl _, Int.le_refl _⟩
  | succ n ih => have := onesIn_mono1 b n; omega
theorem sum_range_succ (f : Nat → Int) (n : Nat) : ((List.range (n + 1)).map f).sum = ((List.range n).map f).sum + f n := by
  rw [List.range_succ, List.map_append, List.sum_append]; simp
theorem onesIn_sum (b : Int) (n : Nat) : ((List.range n).map fun k => bit b k).sum = onesIn b n := by
  induction n with
  | zero => rfl
  | succ n ih => rw [sum_range_succ, ih]; rfl
theorem halve (b : Int) (k : Nat) : b / 2 ^ k / 2 = b / 2 ^ (k + 1) := by
  rw [Int.pow_succ, Int.ediv_ediv_of_nonneg]
  exact Int.le_of_lt (Int.pow_pos (by decide))

/-! ### rows and blocks -/
/-- all items are bits -/
def Bits (bs : List Int) : Prop := ∀ b ∈ bs, b = 0 ∨ b = 1
/-- the block of some bits (the first one counting 1) -/
def blk : List Int → Int
  | [] => 0
  | b :: bs => b + 2 * blk bs
/-- the row of bits bs as blocks, so many -/
def blksN (bs : List Int) : Nat → List Int
  | 0 => []
  | n + 1 => blk (bs.take 32) :: blksN (bs.drop 32) n
/-- the blocks of a row -/
def blks (bs : List Int) : List Int := blksN bs ((bs.length + 31) / 32)
theorem blksN_len (bs : List Int) (n : Nat) : (blksN bs n).length = n := by
  induction n generalizing bs with
  | zero => rfl
  | succ n ih => show (blksN (bs.drop 32) n).length + 1 = n + 1; rw [ih]
theorem blks_len (bs : List Int) : (blks bs).length = (bs.length + 31) / 32 := blksN_len _ _
theorem blksN_get (bs : List Int) (n j : Nat) (h : j < n) : (blksN bs n)[j]? = some (blk ((bs.drop (32 * j)).take 32)) := by
  induction n generalizing bs j with
  | zero => omega
  | succ n ih =>
    cases j with
    | zero => rfl
    | succ j =>
      show (blksN (bs.drop 32) n)[j]? = _
      rw [ih (bs.drop 32) j (by omega), List.drop_drop, show 32 + 32 * j = 32 * (j + 1) by omega]
theorem blks_get (bs : List Int) (j : Nat) (h : j < (bs.length + 31) / 32) : (blks bs)[j]? = some (blk ((bs.drop (32 * j)).take 32)) := blksN_get _ _ _ h
theorem blk_range : ∀ bs : List Int, Bits bs → 0 ≤ blk bs ∧ blk bs < 2 ^ bs.length
  | [], _ => ⟨Int.le_refl _, by decide⟩
  | b :: bs, h => by
    obtain ⟨h1, h2⟩ := blk_range bs fun x hx => h x (List.mem_cons_of_mem _ hx)
    have h3 := h b List.mem_cons_self
    have e : (2 : Int) ^ (bs.length + 1) = 2 ^ bs.length * 2 := Int.pow_succ ..
    show 0 ≤ b + 2 * blk bs ∧ b + 2 * blk bs < 2 ^ (bs.length + 1)
    omega
/-- a bit of a block -/
theorem bit_blk : ∀ (bs : List Int) (k : Nat), Bits bs → bit (blk bs) k = bs.getD k 0
  | [], k, _ => by
    show (0 : Int) / 2 ^ k % 2 = _
    rw [Int.zero_ediv]; rfl
  | b :: bs, 0, h => by
    have h3 := h b List.mem_cons_self
    show (b + 2 * blk bs) / 2 ^ 0 % 2 = b
    simp; omega
  | b :: bs, k + 1, h => by
    have h3 := h b List.mem_cons_self
    have ih := bit_blk bs k fun x hx => h x (List.mem_cons_of_mem _ hx)
    show (b + 2 * blk bs) / 2 ^ (k + 1) % 2 = (b :: bs).getD (k + 1) 0
    rw [List.getD_cons_succ, ← ih]
    show _ = blk bs / 2 ^ k % 2
    have e : (b + 2 * blk bs) / 2 = blk bs := by omega
    rw [show (2 : Int) ^ (k + 1) = 2 * 2 ^ k by rw [Int.pow_succ, Int.mul_comm], ← Int.ediv_ediv_of_nonneg (by decide), e]
theorem Bits.sub {bs cs : List Int} (h : Bits bs) (s : ∀ x ∈ cs, x ∈ bs) : Bits cs := fun x hx => h x (s x hx)
theorem Bits.take {bs : List Int} (h : Bits bs) (n : Nat) : Bits (bs.take n) := h.sub fun _ hx => List.mem_of_mem_take hx
theorem Bits.drop {bs : List Int} (h : Bits bs) (n : Nat) : Bits (bs.drop n) := h.sub fun _ hx => List.mem_of_mem_drop hx
/-- a row's blocks: each below 2 ^ 32 -/
theorem blks_range {bs : List Int} (h : Bits bs) {j : Nat} {b : Int} (e : (blks bs)[j]? = some b) : 0 ≤ b ∧ b < 4294967296 := by
  have hj : j < (bs.length + 31) / 32 := by
    have := (List.getElem?_eq_some_iff.mp e).1
    rw [blks_len] at this; exact this
  rw [blks_get bs j hj] at e
  obtain rfl := Option.some.inj e
  obtain ⟨h1, h2⟩ := blk_range _ ((h.drop (32 * j)).take 32)
  refine ⟨h1, Int.lt_of_lt_of_le h2 ?_⟩
  have : ((bs.drop (32 * j)).take 32).length ≤ 32 := by rw [List.length_take]; omega
  show (2 : Int) ^ _ ≤ 2 ^ 32
  exact_mod_cast Nat.pow_le_pow_right (show 0 < 2 by decide) this
/-- bit k of block j is bit 32 * j + k of the row -/
theorem bit_blks {bs : List Int} (h : Bits bs) {j : Nat} {b : Int} (e : (blks bs)[j]? = some b) {k : Nat} (hk : k < 32) : bit b k = bs.getD (32 * j + k) 0 := by
  have hj : j < (bs.length + 31) / 32 := by
    have := (List.getElem?_eq_some_iff.mp e).1
    rw [blks_len] at this; exact this
  rw [blks_get bs j hj] at e
  obtain rfl := Option.some.inj e
  rw [bit_blk _ _ ((h.drop (32 * j)).take 32), List.getD_eq_getElem?_getD, List.getD_eq_getElem?_getD, List.getElem?_take, if_pos hk, List.getElem?_drop]
/-- blocks are alike where their bits are -/
theorem blk_ext {x y : Int} (hx : 0 ≤ x ∧ x < 4294967296) (hy : 0 ≤ y ∧ y < 4294967296) (h : ∀ k, k < 32 → bit x k = bit y k) : x = y := by
  have key : ∀ n : Nat, n ≤ 32 → x / 2 ^ (32 - n) = y / 2 ^ (32 - n) := by
    intro n
    induction n with
    | zero =>
      intro _
      rw [Int.ediv_eq_zero_of_lt hx.1 (by exact hx.2), Int.ediv_eq_zero_of_lt hy.1 (by exact hy.2)]
    | succ n ih =>
      intro hn
      have h1 := ih (by omega)
      have h2 := h (32 - (n + 1)) (by omega)
      unfold bit at h2
      have e : 32 - n = (32 - (n + 1)) + 1 := by omega
      rw [e, ← halve, ← halve] at h1
      omega
  have := key 32 (Nat.le_refl _)
  rw [Nat.sub_self, Int.pow_zero, Int.ediv_one, Int.ediv_one] at this
  exact this

/-- blocks filled with the first i bits, zeroes behind -/
def part (bs : List Int) (n i : Nat) : List Int := blksN (bs.take i) n
theorem blk_nil : blk [] = 0 := rfl
theorem blk_snoc : ∀ (bs : List Int) (b : Int), blk (bs ++ [b]) = blk bs + b * 2 ^ bs.length
  | [], b => by show b + 2 * 0 = 0 + b * 2 ^ 0; simp
  | c :: bs, b => by
    show c + 2 * blk (bs ++ [b]) = c + 2 * blk bs + b * 2 ^ (bs.length + 1)
    rw [blk_snoc bs b, Int.pow_succ, Int.mul_add, ← Int.mul_assoc 2 b, Int.mul_comm 2 b, Int.mul_assoc b, Int.mul_comm 2 (2 ^ bs.length), Int.add_assoc]
theorem part_zero (bs : List Int) (n : Nat) : part bs n 0 = List.replicate n 0 := by
  unfold part
  rw [List.take_zero]
  induction n with
  | zero => rfl
  | succ n ih => show blk [] :: blksN [] n = _; rw [ih]; rfl
theorem part_full (bs : List Int) : part bs ((bs.length + 31) / 32) bs.length = blks bs := by
  unfold part blks; rw [List.take_length]
theorem part_len (bs : List Int) (n i : Nat) : (part bs n i).length = n := blksN_len _ _
theorem part_get (bs : List Int) (n i j : Nat) (h : j < n) : (part bs n i)[j]? = some (blk (((bs.take i).drop (32 * j)).take 32)) := blksN_get _ _ _ h
/-- one bit more: only its own block turns -/
theorem part_succ {bs : List Int} {n i : Nat} {b : Int} (hb : bs[i]? = some b) (hn : i / 32 < n) :
    part bs n (i + 1) = (part bs n i).set (i / 32) ((part bs n i).getD (i / 32) 0 + b * 2 ^ (i % 32)) := by
  have hi : i < bs.length := (List.getElem?_eq_some_iff.mp hb).1
  apply List.ext_getElem?
  intro j
  rw [List.getElem?_set, part_len]
  rcases Nat.lt_or_ge j n with hj | hj
  · rw [part_get _ _ _ _ hj]
    have et : bs.take (i + 1) = bs.take i ++ [b] := by rw [List.take_add_one, hb]; rfl
    have hl : (bs.take i).length = i := by rw [List.length_take]; omega
    rw [et]
    by_cases h : i / 32 = j
    · subst h
      rw [if_pos rfl, if_pos hn, List.getD_eq_getElem?_getD, part_get _ _ _ _ hn]
      have hd : ((bs.take i).drop (32 * (i / 32))).length = i % 32 := by rw [List.length_drop, hl]; omega
      have e2 : ((bs.take i).drop (32 * (i / 32))).take 32 = (bs.take i).drop (32 * (i / 32)) := List.take_of_length_le (by rw [hd]; omega)
      have e1 : ((bs.take i).drop (32 * (i / 32)) ++ [b]).take 32 = (bs.take i).drop (32 * (i / 32)) ++ [b] := List.take_of_length_le (by rw [List.length_append, hd]; simp; omega)
      rw [List.drop_append_of_le_length (by rw [hl]; omega), e1, e2, blk_snoc, hd]
      rfl
    · rw [if_neg h, part_get _ _ _ _ hj]
      congr 2
      rcases Nat.lt_or_ge j (i / 32) with l | l
      · rw [List.drop_append_of_le_length (by rw [hl]; omega), List.take_append_of_le_length (by rw [List.length_drop, hl]; omega)]
      · rw [List.drop_of_length_le (by rw [List.length_append, hl]; simp; omega), List.drop_of_length_le (by rw [hl]; omega)]
  · rw [List.getElem?_eq_none (by rw [part_len]; exact hj), if_neg (by omega), List.getElem?_eq_none (by rw [part_len]; exact hj)]
theorem part_range_take {bs : List Int} {i : Nat} (h : Bits (bs.take i)) {n j : Nat} (hj : j < n) (hi : i % 32 = i - 32 * j) (hij : 32 * j ≤ i) : 0 ≤ (part bs n i).getD j 0 ∧ (part bs n i).getD j 0 < 2 ^ (i % 32) := by
  rw [List.getD_eq_getElem?_getD, part_get _ _ _ _ hj]
  obtain ⟨h1, h2⟩ := blk_range _ ((h.drop (32 * j)).take 32)
  refine ⟨h1, Int.lt_of_lt_of_le h2 ?_⟩
  have : (((bs.take i).drop (32 * j)).take 32).length ≤ i % 32 := by rw [List.length_take, List.length_drop, List.length_take]; omega
  exact_mod_cast Nat.pow_le_pow_right (show 0 < 2 by decide) this
/-- a bit above a number -/
theorem or_high {x : Int} {k : Nat} (h0 : 0 ≤ x) (h1 : x < 2 ^ k) : Builtin.bitOr x (1 * 2 ^ k) = x + 1 * 2 ^ k := by
  have e := or_low (q := 1) (r := x) (k := k) (by decide) h0 h1
  rw [bitOr_nn h0 (by rw [Int.one_mul]; exact Int.le_of_lt (Int.pow_pos (by decide))), Nat.or_comm, ← bitOr_nn (by rw [Int.one_mul]; exact Int.le_of_lt (Int.pow_pos (by decide))) h0, e, Int.add_comm]

/-- packed(bits) -/
def sp_packed (K : PySem.W.Frag) : Sp := fun vs H Q E => ∃ (a : Addr) (bs : List Int), vs = [.ref a] ∧ SqL K H a (bs.map V.int) ∧ bs.length ≤ 100000 ∧
  (bs.length > 4096 → E (.ref (He.ga K "TooMany")) none H) ∧
  (bs.length ≤ 4096 → ¬ Bits bs → ∀ H', Same H H' → E (.ref (He.ga K "NoBit")) none H') ∧
  (bs.length ≤ 4096 → Bits bs → ∀ p H', H p = none → Same H H' → H' p = some (.lst ((blks bs).map V.int)) → Q (.ref p) H')
theorem len_packed (K : PySem.W.Frag) : ∀ vs H Q E, sp_packed K vs H Q E → vs.length = 1 := by
  rintro vs H Q E ⟨x, y, rfl, _⟩; rfl
def t_packed (K : PySem.W.Frag) (E : XK) : TS :=
  (tSeq (tIfS (tTest (tOp rGtI (tCB (rLen K) (tCons (tVar 0) tNil)) (tC (.int 4096))))
  (tRz (fun cls d _ H => E cls d H) (He.ga K "TooMany"))
  tNext)
  (tSeq (tAsg (tOp rRep (tLst (tCons (tC (.int 0)) tNil)) (tOp rDiv (tOp rMinus (tOp rPlus (tCB (rLen K) (tCons (tVar 0) tNil)) (tC (.int 32))) (tC (.int 1))) (tC (.int 32)))) (gName 1))
  (tSeq (tFor (iEnum K (tCons (tVar 0) tNil)) (gTup K 2 (gCons (gName 2) (gCons (gName 3) gNil)))
  (tSeq (tIfS (tAnd (tTest (tOp rNe (tVar 3) (tC (.int 0)))) (tTest (tOp rNe (tVar 3) (tC (.int 1)))))
  (tRz (fun cls d _ H => E cls d H) (He.ga K "NoBit"))
  tNext)
  (tIfS (tTest (tOp rEq (tVar 3) (tC (.int 1))))
  (tAsg (tOp rBitOr (tOp (rIxL K) (tVar 1) (tOp rDiv (tVar 2) (tC (.int 32)))) (tOp rShlW (tC (.int 1)) (tOp rMod (tVar 2) (tC (.int 32))))) (gSub (tVar 1) (tOp rDiv (tVar 2) (tC (.int 32))) rSetL))
  tNext)))
  (tRet (tVar 1)))))
abbrev n_packed : List Str := ["bits", "blocks", "at", "bit"]

theorem rd_packed (K : PySem.W.Frag) (vs : List V) (H : Hp) (Q : VK) (E : XK) (h : sp_packed K vs H Q E) : t_packed K E { nx := fun _ H' => Q .non H', rt := Q } (start n_packed vs) H := by
  obtain ⟨a, bs, rfl, hS, hl, q1, q2, q3⟩ := h
  unfold t_packed
  walk_at "st"
  refine k_lenL hS ?_
  walk_at "st"
  rw [List.length_map]
  walk_at "if" <;> intro c1
  · walk_at "st"
    exact q1 (by omega)
  have hm : bs.length ≤ 4096 := by omega
  walk_at "st"
  intro p0 hp0
  walk_at "st"
  refine k_lenL ((same_new hp0).seq hS) ?_
  walk_at "st"
  rw [List.length_map]
  have en : ((bs.length : Int) + 32 - 1) / 32 = (((bs.length + 31) / 32 : Nat) : Int) := by omega
  rw [en]
  refine k_rep (xs := [.int 0]) upd_same (by simp only [List.length_cons, List.length_nil]; omega) (by omega) fun p hp => ?_
  have hp' : H p = none := (same_new hp0).free hp
  have s0 := (same_new hp0).trans (same_new (o := .lst (List.replicate ((bs.length + 31) / 32) [V.int 0]).flatten) hp)
  walk_at "st"
  refine m_enumE (s0.seq hS) ?_
  refine loop_walk walk_enum (fun i σ H' => ∃ y z, σ = [some (.ref a), some (.ref p), y, z] ∧ i ≤ bs.length ∧ Same H H' ∧ H' p = some (.lst ((part bs ((bs.length + 31) / 32) i).map V.int)) ∧ Bits (bs.take i)) ⟨none, none, rfl, Nat.zero_le _, s0, ?_, fun x hx => by simp at hx⟩ (fun i σ H' ⟨y, z, _, _, s, _⟩ => s.seq hS) ?_ ?_
  · rw [upd_same, part_zero, List.map_replicate, rep_one]
  · rintro i v σ H1 H2 hi ⟨y, z, rfl, _, s, e, hb⟩ ⟨T, x, w, rfl, hT, rfl, ex, ew⟩
    rw [List.length_map] at hi
    obtain ⟨b, hbi, rfl⟩ := of_mapint ew
    obtain rfl : x = .int (i : Nat) := (Option.some.inj ex).symm
    have npT : p ≠ T := ne_of_none e hT
    have s2 : Same H (upd H1 T (.tup [.int (i : Nat), .int b])) := s.trans (same_new hT)
    have e2 : (upd H1 T (.tup [.int (i : Nat), .int b])) p = some (.lst ((part bs ((bs.length + 31) / 32) i).map V.int)) := by rw [upd_ne npT]; exact e
    refine m_gTup (.of upd_same) rfl ?_
    walk_at "st"
    have nobit : ∀ (c : ¬ (b = 0 ∨ b = 1)), ¬ Bits bs := fun c hB => c (hB b (List.mem_of_getElem? hbi))
    have go : (b = 0 ∨ b = 1) → Bits (bs.take (i + 1)) := by
      intro hb1 q hq
      rw [List.take_add_one, hbi] at hq
      rcases List.mem_append.mp hq with h | h
      · exact hb q h
      · have : q = b := by simpa using h
        subst this; exact hb1
    have hin : i / 32 < (bs.length + 31) / 32 := by omega
    walk_at "if" <;> intro c0
    · walk_at "st"
      walk_at "if" <;> intro c1
      · walk_at "st"
        exact q2 hm (nobit fun z => z.elim c0 c1) _ s2
      · walk_at "st"
        refine k_decT c1 ?_
        obtain rfl : b = 1 := c1
        walk_at "st"
        have hlt : i / 32 < ((part bs ((bs.length + 31) / 32) i)).length := by rw [part_len]; exact hin
        refine k_ixL (.of e2) (at_int (by omega) (i := ((i : Nat) : Int) / 32) (x := .int ((part bs ((bs.length + 31) / 32) i).getD (i / 32) 0)) ?_) ?_
        · rw [show (((i : Nat) : Int) / 32).toNat = i / 32 by omega, List.getD_eq_getElem?_getD, List.getElem?_eq_getElem hlt]
          exact mapint (List.getElem?_eq_getElem hlt)
        walk_at "st"
        have hsh : CShl 1 (((i : Nat) : Int) % 32) := by
          rw [show ((i : Nat) : Int) % 32 = ((i % 32 : Nat) : Int) by omega]
          exact shl_ok (n := 1) (by decide) (by omega)
        refine k_I hsh ?_
        walk_at "st"
        have hr := part_range_take hb (n := (bs.length + 31) / 32) (j := i / 32) hin (by omega) (by omega)
        have eor : Builtin.bitOr ((part bs ((bs.length + 31) / 32) i).getD (i / 32) 0) (1 * 2 ^ (((i : Nat) : Int) % 32).toNat) = (part bs ((bs.length + 31) / 32) i).getD (i / 32) 0 + 1 * 2 ^ (i % 32) := by
          rw [show (((i : Nat) : Int) % 32).toNat = i % 32 by omega]
          exact or_high hr.1 hr.2
        rw [eor]
        refine m_setL e2 (ixN_nat (by omega) (by rw [List.length_map, part_len]; omega)) ?_
        walk_at "st"
        refine ⟨_, _, rfl, hi, Same.mut s2 hp', ?_, go (.inr rfl)⟩
        rw [upd_same, show (((i : Nat) : Int) / 32).toNat = i / 32 by omega, part_succ hbi hin, List.map_set]
    · walk_at "st"
      obtain rfl : b = 0 := c0
      refine k_decF (by decide) ?_
      walk_at "st"
      refine ⟨_, _, rfl, hi, s2, ?_, go (.inl rfl)⟩
      rw [e2, part_succ hbi hin, Int.zero_mul, Int.add_zero]
      congr 2
      have hlt : i / 32 < ((part bs ((bs.length + 31) / 32) i)).length := by rw [part_len]; exact hin
      rw [List.getD_eq_getElem?_getD, List.getElem?_eq_getElem hlt]
      show _ = List.map V.int ((part bs ((bs.length + 31) / 32) i).set (i / 32) ((part bs ((bs.length + 31) / 32) i)[i / 32]))
      rw [List.set_getElem_self]
  · rintro σ H' ⟨y, z, rfl, _, s, e, hb⟩
    rw [List.length_map] at e hb
    walk_at "st"
    rw [List.take_length] at hb
    rw [part_full] at e
    exact q3 hm hb p H' hp' s e

/-- the ones among the first n bits of a row -/
def sumTo (bs : List Int) (n : Nat) : Int := (bs.take n).sum
theorem sumTo_succ (bs : List Int) (n : Nat) : sumTo bs (n + 1) = sumTo bs n + bs.getD n 0 := by
  unfold sumTo
  rw [List.take_add_one, List.sum_append, List.getD_eq_getElem?_getD]
  cases bs[n]? <;> simp
theorem sumTo_all (bs : List Int) {n : Nat} (h : bs.length ≤ n) : sumTo bs n = bs.sum := by
  unfold sumTo; rw [List.take_of_length_le h]
theorem sumTo_zero (bs : List Int) : sumTo bs 0 = 0 := rfl
/-- the ones of a block's first bits -/
theorem onesIn_blks {bs : List Int} (h : Bits bs) {j : Nat} {b : Int} (e : (blks bs)[j]? = some b) : ∀ k, k ≤ 32 → onesIn b k = sumTo bs (32 * j + k) - sumTo bs (32 * j)
  | 0, _ => by rw [Nat.add_zero]; show (0 : Int) = _; omega
  | k + 1, hk => by
    show onesIn b k + bit b k = _
    rw [onesIn_blks h e k (by omega), bit_blks h e (by omega), show 32 * j + (k + 1) = (32 * j + k) + 1 by omega, sumTo_succ]; omega

/-- the ones ahead of the first n blocks -/
def aheadN (bs : List Int) (n : Nat) : List Int := (List.range n).map fun j => sumTo bs (32 * j)
theorem aheadN_len (bs : List Int) (n : Nat) : (aheadN bs n).length = n := by unfold aheadN; simp
theorem aheadN_get (bs : List Int) {n j : Nat} (h : j < n) : (aheadN bs n)[j]? = some (sumTo bs (32 * j)) := by unfold aheadN; simp [h]
theorem aheadN_succ (bs : List Int) (n : Nat) : aheadN bs (n + 1) = aheadN bs n ++ [sumTo bs (32 * n)] := by unfold aheadN; rw [List.range_succ, List.map_append]; rfl
/-- the table of a row: the ones ahead of each block, and all -/
def aheadT (bs : List Int) : List Int := aheadN bs ((bs.length + 31) / 32 + 1)
theorem aheadT_len (bs : List Int) : (aheadT bs).length = (bs.length + 31) / 32 + 1 := aheadN_len _ _
theorem aheadT_get (bs : List Int) {j : Nat} (h : j ≤ (bs.length + 31) / 32) : (aheadT bs)[j]? = some (sumTo bs (32 * j)) := aheadN_get bs (by omega)
theorem sumTo_add (bs : List Int) (n m : Nat) : sumTo bs (n + m) = sumTo bs n + ((bs.drop n).take m).sum := by
  unfold sumTo; rw [List.take_add, List.sum_append]
theorem getD_bit {bs : List Int} (h : Bits bs) (k : Nat) : bs.getD k 0 = 0 ∨ bs.getD k 0 = 1 := by
  rw [List.getD_eq_getElem?_getD]
  cases e : bs[k]? with
  | none => exact .inl rfl
  | some b => exact h b (List.mem_of_getElem? e)
theorem sumTo_mono1 {bs : List Int} (h : Bits bs) (n : Nat) : sumTo bs n ≤ sumTo bs (n + 1) ∧ sumTo bs (n + 1) ≤ sumTo bs n + 1 := by
  rw [sumTo_succ]; have := getD_bit h n; omega
theorem sumTo_mono {bs : List Int} (h : Bits bs) {n m : Nat} (l : n ≤ m) : sumTo bs n ≤ sumTo bs m := by
  induction m with
  | zero => rw [show n = 0 by omega]; exact Int.le_refl _
  | succ m ih =>
    rcases Nat.lt_or_ge m n with z | z
    · rw [show n = m + 1 by omega]; exact Int.le_refl _
    · have := ih z; have := sumTo_mono1 h m; omega
theorem sumTo_range {bs : List Int} (h : Bits bs) (n : Nat) : 0 ≤ sumTo bs n ∧ sumTo bs n ≤ n := by
  induction n with
  | zero => exact ⟨Int.le_refl _, Int.le_refl _⟩
  | succ n ih => have := sumTo_mono1 h n; omega
theorem blks_getD {bs : List Int} {j : Nat} (h : j < (bs.length + 31) / 32) : (blks bs)[j]? = some ((blks bs).getD j 0) := by
  rw [List.getD_eq_getElem?_getD, List.getElem?_eq_getElem (by rw [blks_len]; exact h)]; rfl

/-! ### promises -/
/-- ones_in(b, u) -/
def sp_ones_in (_ : PySem.W.Frag) : Sp := fun vs H Q _ => ∃ (b : Int) (u : Nat), vs = [.int b, .int (u : Int)] ∧ u ≤ 1000 ∧ ∀ H', Same H H' → Q (.int (onesIn b u)) H'
theorem len_ones_in (K : PySem.W.Frag) : ∀ vs H Q E, sp_ones_in K vs H Q E → vs.length = 2 := by
  rintro vs H Q E ⟨b, u, rfl, _⟩; rfl
def t_ones_in (K : PySem.W.Frag) : TS :=
  (tRet (tCB (rSum K) (tCons (tLc (iRng1 (tCons (tVar 1) tNil)) (gName 2) tYes (tOp rAnd1 (tOp rShr (tVar 0) (tVar 2)) (tC (.int 1))) [2]) tNil)))
abbrev n_ones_in : List Str := ["block", "upto", "k"]

theorem rd_ones_in (K : PySem.W.Frag) (vs : List V) (H : Hp) (Q : VK) (E : XK) (h : sp_ones_in K vs H Q E) : t_ones_in K { nx := fun _ H' => Q .non H', rt := Q } (start n_ones_in vs) H := by
  obtain ⟨b, u, rfl, hu, q⟩ := h
  unfold t_ones_in
  walk_at "st"
  refine comp_rangeV (n := u) (f := fun k => .int (bit b k)) (by omega) (fun k H2 Q2 _ _ q2 => ?_) (fun p H' _ s e => ?_)
  · walk_at "st"
    exact q2 _ (Same.refl _)
  · walk_at "st"
    refine k_sum (ns := (List.range u).map fun k => bit b k) (.of ?_) ?_
    · rw [e, List.map_map]; rfl
    · rw [onesIn_sum]; walk_at "st"; exact q _ s

/-- ones_table(blocks), the blocks of a row -/
def sp_ones_table (K : PySem.W.Frag) : Sp := fun vs H Q _ => ∃ (a : Addr) (bs : List Int), vs = [.ref a] ∧ H a = some (.lst ((blks bs).map V.int)) ∧ bs.length ≤ 5000 ∧ Bits bs ∧ ∀ p H', H p = none → Same H H' → H' p = some (.tup ((aheadT bs).map V.int)) → Q (.ref p) H'
theorem len_ones_table (K : PySem.W.Frag) : ∀ vs H Q E, sp_ones_table K vs H Q E → vs.length = 1 := by
  rintro vs H Q E ⟨a, bs, rfl, _⟩; rfl
def t_ones_table (K : PySem.W.Frag) : TS :=
  (tSeq (tAsg (tLst (tCons (tC (.int 0)) tNil)) (gName 1))
  (tSeq (tFor (iList K (tVar 0)) (gName 2)
  (tDrop (tBM K "list" rAppend (tVar 1) (tCons (tOp rPlus (tOp (rIxL K) (tVar 1) (tUn rNeg (tC (.int 1)))) (tCall (sp_ones_in K) [] E0 (tCons (tVar 2) (tCons (tC (.int 32)) tNil)))) tNil))))
  (tRet (tCB (rTupOf K) (tCons (tVar 1) tNil)))))
abbrev n_ones_table : List Str := ["blocks", "ahead", "block"]

theorem rd_ones_table (K : PySem.W.Frag) (vs : List V) (H : Hp) (Q : VK) (E : XK) (h : sp_ones_table K vs H Q E) : t_ones_table K { nx := fun _ H' => Q .non H', rt := Q } (start n_ones_table vs) H := by
  obtain ⟨a, bs, rfl, hS, hl, hB, q⟩ := h
  unfold t_ones_table
  walk_at "st"
  intro p hp
  walk_at "st"
  refine m_iLe (.of ((same_new hp).get hS)) ?_
  refine loop_ints (ns := blks bs) (fun i σ H' => ∃ y, σ = [some (.ref a), some (.ref p), y] ∧ i ≤ (blks bs).length ∧ Same H H' ∧ H' p = some (.lst ((aheadN bs (i + 1)).map V.int))) ⟨none, rfl, Nat.zero_le _, same_new hp, by rw [upd_same]; rfl⟩ (fun i σ H' ⟨_, _, _, s, _⟩ => .of (s.get hS)) ?_ ?_
  · rintro i x σ H' hx ⟨y, rfl, hi, s, e⟩
    have hlt : i < (blks bs).length := (List.getElem?_eq_some_iff.mp hx).1
    have hlt2 := hlt
    rw [blks_len] at hlt2
    walk_at "st"
    refine k_tyL (.of e) ?_
    walk_at "st"
    refine k_ixL (.of e) (x := .int (sumTo bs (32 * i))) (by rw [aheadN_succ, List.map_append]; exact atI_last _ _) ?_
    walk_at "st"
    refine ⟨x, 32, rfl, by decide, fun H2 s2 => ?_⟩
    walk_at "st"
    refine k_app (s2.get e) (by rw [List.length_map, aheadN_len]; omega) ?_
    walk_at "st"
    have e2 := s2.get e
    refine ⟨_, rfl, hlt, Same.mut (s.trans s2) hp, ?_⟩
    rw [upd_same, aheadN_succ bs (i + 1), List.map_append, onesIn_blks hB hx 32 (Nat.le_refl _), show 32 * i + 32 = 32 * (i + 1) by omega, show sumTo bs (32 * i) + (sumTo bs (32 * (i + 1)) - sumTo bs (32 * i)) = sumTo bs (32 * (i + 1)) by omega]; rfl
  · rintro σ H' ⟨y, rfl, hi, s, e⟩
    walk_at "st"
    refine k_tupL (.of e) fun t ht => ?_
    walk_at "st"
    refine q t _ (s.gone _ ht) (s.trans (same_new ht)) ?_
    rw [upd_same, blks_len]; rfl
/-- kept_row(bits) -/
def sp_kept_row (K : PySem.W.Frag) : Sp := fun vs H Q E => ∃ (a : Addr) (bs : List Int), vs = [.ref a] ∧ SqL K H a (bs.map V.int) ∧ bs.length ≤ 100000 ∧
  (bs.length > 4096 → E (.ref (He.ga K "TooMany")) none H) ∧
  (bs.length ≤ 4096 → ¬ Bits bs → ∀ H', Same H H' → E (.ref (He.ga K "NoBit")) none H') ∧
  (bs.length ≤ 4096 → Bits bs → ∀ p t pa pb H', H p = none → H t = none → H pa = none → H pb = none → Same H H' → H' p = some (.tup [.ref t, .ref pb]) → H' t = some (.tup [.int (bs.length : Int), .ref pa]) → H' pa = some (.tup ((aheadT bs).map V.int)) → H' pb = some (.lst ((blks bs).map V.int)) → Q (.ref p) H')
theorem len_kept_row (K : PySem.W.Frag) : ∀ vs H Q E, sp_kept_row K vs H Q E → vs.length = 1 := by
  rintro vs H Q E ⟨a, bs, rfl, _⟩; rfl
def t_kept_row (K : PySem.W.Frag) (E : XK) : TS :=
  (tSeq (tAsg (tCall (sp_packed K) [] E (tCons (tVar 0) tNil)) (gName 1))
  (tRet (tTup (tCons (tTup (tCons (tCB (rLen K) (tCons (tVar 0) tNil)) (tCons (tCall (sp_ones_table K) [] E0 (tCons (tVar 1) tNil)) tNil))) (tCons (tVar 1) tNil)))))
abbrev n_kept_row : List Str := ["bits", "blocks"]

theorem rd_kept_row (K : PySem.W.Frag) (vs : List V) (H : Hp) (Q : VK) (E : XK) (h : sp_kept_row K vs H Q E) : t_kept_row K E { nx := fun _ H' => Q .non H', rt := Q } (start n_kept_row vs) H := by
  obtain ⟨a, bs, rfl, hS, hl, q1, q2, q3⟩ := h
  unfold t_kept_row
  walk_at "st"
  refine ⟨a, bs, rfl, hS, hl, q1, q2, fun hm hB pb H1 hpb s1 e1 => ?_⟩
  walk_at "st"
  refine k_lenL (s1.seq hS) ?_
  walk_at "st"
  rw [List.length_map]
  refine ⟨pb, bs, rfl, e1, by omega, hB, fun pa H2 hpa s2 e2 => ?_⟩
  walk_at "st"
  intro t ht
  walk_at "st"
  intro p hp
  walk_at "st"
  have s3 := same_new (o := .tup [.int (bs.length : Int), .ref pa]) ht
  have s4 := same_new (o := .tup [.ref t, .ref pb]) hp
  exact q3 hm hB p t pa pb _ ((s1.trans (s2.trans s3)).gone _ hp) ((s1.trans s2).gone _ ht) (s1.gone _ hpa) hpb (s1.trans (s2.trans (s3.trans s4))) upd_same (s4.get upd_same) (s4.get (s3.get e2)) (s4.get (s3.get (s2.get e1)))

theorem isK_uniq : ∀ {as bs : List Int}, as.Pairwise (· < ·) → bs.Pairwise (· < ·) → (∀ k, k ∈ as ↔ k ∈ bs) → as = bs
  | [], [], _, _, _ => rfl
  | [], b :: bs, _, _, h => by have := (h b).mpr List.mem_cons_self; simp at this
  | a :: as, [], _, _, h => by have := (h a).mp List.mem_cons_self; simp at this
  | a :: as, b :: bs, sa, sb, h => by
    obtain ⟨a1, a2⟩ := List.pairwise_cons.mp sa
    obtain ⟨b1, b2⟩ := List.pairwise_cons.mp sb
    have e : a = b := by
      rcases List.mem_cons.mp ((h a).mp List.mem_cons_self) with z | z
      · exact z
      · rcases List.mem_cons.mp ((h b).mpr List.mem_cons_self) with w | w
        · exact w.symm
        · have := a1 b w; have := b1 a z; omega
    subst e
    rw [isK_uniq a2 b2 fun k => ⟨fun hk => ?_, fun hk => ?_⟩]
    · rcases List.mem_cons.mp ((h k).mp (List.mem_cons_of_mem _ hk)) with z | z
      · have := a1 k hk; omega
      · exact z
    · rcases List.mem_cons.mp ((h k).mpr (List.mem_cons_of_mem _ hk)) with z | z
      · have := b1 k hk; omega
      · exact z

/-! rows halved by the bits of their numbers -/
/-- a stretch -/
def seg {α : Type} (xs : List α) (s e : Nat) : List α := (xs.take e).drop s
/-- how many of the first i hold p -/
def cp {α : Type} (p : α → Bool) (xs : List α) (i : Nat) : Nat := ((xs.take i).filter p).length
theorem filter_take {α : Type} (p : α → Bool) : ∀ (xs : List α) (i : Nat), (xs.take i).filter p = (xs.filter p).take (cp p xs i)
  | [], i => by simp [cp]
  | x :: xs, 0 => by simp [cp]
  | x :: xs, i + 1 => by
    have ih := filter_take p xs i
    unfold cp at ih ⊢
    rw [List.take_succ_cons, List.filter_cons, List.filter_cons]
    split
    · rw [List.length_cons, List.take_succ_cons, ← ih]
    · exact ih
theorem take_seg {α : Type} (xs : List α) {s e : Nat} (h : s ≤ e) : xs.take e = xs.take s ++ seg xs s e := by
  unfold seg
  have := List.take_append_drop s (xs.take e)
  rw [List.take_take, Nat.min_eq_left h] at this
  exact this.symm
theorem cp_mono {α : Type} (p : α → Bool) (xs : List α) {s e : Nat} (h : s ≤ e) : cp p xs s ≤ cp p xs e := by
  unfold cp
  rw [take_seg xs h, List.filter_append, List.length_append]; omega
theorem seg_filter {α : Type} (p : α → Bool) (xs : List α) {s e : Nat} (h : s ≤ e) : (seg xs s e).filter p = seg (xs.filter p) (cp p xs s) (cp p xs e) := by
  have e1 := filter_take p xs e
  rw [take_seg xs h, List.filter_append] at e1
  show _ = ((xs.filter p).take (cp p xs e)).drop (cp p xs s)
  rw [← e1]
  unfold cp
  rw [List.drop_left]
theorem seg_left {α : Type} {as bs : List α} {s e : Nat} (h : e ≤ as.length) : seg (as ++ bs) s e = seg as s e := by
  unfold seg; rw [List.take_append_of_le_length h]
theorem seg_right {α : Type} {as bs : List α} {s e : Nat} : seg (as ++ bs) (as.length + s) (as.length + e) = seg bs s e := by
  unfold seg
  rw [List.take_append, List.take_of_length_le (by omega), show as.length + e - as.length = e by omega, List.drop_append, List.drop_eq_nil_of_le (by omega), List.nil_append, show as.length + s - as.length = s by omega]
theorem seg_one {α : Type} {xs : List α} {i : Nat} {r : α} (h : xs[i]? = some r) : seg xs i (i + 1) = [r] := by
  unfold seg
  rw [List.take_add_one, h]
  have hl := (List.getElem?_eq_some_iff.mp h).1
  rw [List.drop_append, List.drop_eq_nil_of_le (by rw [List.length_take]; omega), List.length_take, show i - min i xs.length = 0 by omega]; rfl
theorem seg_head {α : Type} {xs ys : List α} {s e : Nat} {r : α} (h : seg xs s e = r :: ys) : xs[s]? = some r := by
  unfold seg at h
  have h2 : ((xs.take e).drop s)[0]? = some r := by rw [h]; rfl
  rw [List.getElem?_drop, List.getElem?_take, Nat.add_zero] at h2
  split at h2
  · exact h2
  · cases h2
theorem seg_length {α : Type} {xs : List α} {s e : Nat} (h : e ≤ xs.length) : (seg xs s e).length = e - s := by
  unfold seg; rw [List.length_drop, List.length_take]; omega
theorem seg_all {α : Type} {xs : List α} {e : Nat} (h : xs.length ≤ e) : seg xs 0 e = xs := by
  unfold seg; rw [List.drop_zero, List.take_of_length_le h]
theorem seg_map {α β : Type} (f : α → β) (xs : List α) (s e : Nat) : seg (xs.map f) s e = (seg xs s e).map f := by
  unfold seg; rw [← List.map_take, ← List.map_drop]
theorem seg_get {α : Type} {xs : List α} {s e i : Nat} (h : s + i < e) : (seg xs s e)[i]? = xs[s + i]? := by
  unfold seg; rw [List.getElem?_drop, List.getElem?_take, if_pos h]
/-- a number's bit of a weight -/
def wb (w r : Nat) : Nat := r / 2 ^ w % 2
theorem wb_le (w r : Nat) : wb w r = 0 ∨ wb w r = 1 := by unfold wb; omega
abbrev p0 (w : Nat) : Nat → Bool := fun r => decide (wb w r = 0)
abbrev p1 (w : Nat) : Nat → Bool := fun r => decide (wb w r = 1)
theorem cp_both (w : Nat) : ∀ (xs : List Nat) (i : Nat), i ≤ xs.length → cp (p0 w) xs i + cp (p1 w) xs i = i
  | xs, 0, _ => by simp [cp]
  | [], i + 1, h => by simp at h
  | x :: xs, i + 1, h => by
    have ih := cp_both w xs i (by simpa using h)
    unfold cp at ih ⊢
    rw [List.take_succ_cons, List.filter_cons, List.filter_cons]
    rcases wb_le w x with z | z
    · rw [if_pos (by simp [z]), if_neg (by simp [z])]; simp only [List.length_cons]; omega
    · rw [if_neg (by simp [z]), if_pos (by simp [z])]; simp only [List.length_cons]; omega
/-- the noughts' numbers ahead of the ones' -/
def partW (w : Nat) (row : List Nat) : List Nat := row.filter (p0 w) ++ row.filter (p1 w)
theorem partW_len (w : Nat) (row : List Nat) : (partW w row).length = row.length := by
  have := cp_both w row row.length (Nat.le_refl _)
  unfold cp at this
  rw [List.take_length] at this
  unfold partW
  rw [List.length_append]; exact this
theorem mem_partW {w : Nat} {row : List Nat} {r : Nat} : r ∈ partW w row ↔ r ∈ row := by
  unfold partW
  rw [List.mem_append, List.mem_filter, List.mem_filter]
  rcases wb_le w r with z | z <;> simp [z]
/-- the row at each level -/
def rowsW (L : Nat) (row : List Nat) : Nat → List Nat
  | 0 => row
  | l + 1 => partW (L - 1 - l) (rowsW L row l)
theorem rowsW_len (L : Nat) (row : List Nat) : ∀ l, (rowsW L row l).length = row.length
  | 0 => rfl
  | l + 1 => by show (partW _ _).length = _; rw [partW_len, rowsW_len L row l]
theorem mem_rowsW {L : Nat} {row : List Nat} {r : Nat} : ∀ {l}, r ∈ rowsW L row l ↔ r ∈ row
  | 0 => Iff.rfl
  | l + 1 => mem_partW.trans (mem_rowsW (l := l))
/-- its bits -/
def bitsW (L : Nat) (row : List Nat) (l : Nat) : List Int := (rowsW L row l).map fun r => ((wb (L - 1 - l) r : Nat) : Int)
theorem bitsW_len (L : Nat) (row : List Nat) (l : Nat) : (bitsW L row l).length = row.length := by unfold bitsW; rw [List.length_map, rowsW_len]
theorem bitsW_bits (L : Nat) (row : List Nat) (l : Nat) : Bits (bitsW L row l) := fun x hx => by
  obtain ⟨r, _, rfl⟩ := List.mem_map.mp hx
  rcases wb_le (L - 1 - l) r with z | z <;> rw [z]
  · exact .inl rfl
  · exact .inr rfl
/-- noughts, ones ahead of a place -/
def nW (L : Nat) (row : List Nat) (l i : Nat) : Nat := cp (p0 (L - 1 - l)) (rowsW L row l) i
def uW (L : Nat) (row : List Nat) (l i : Nat) : Nat := cp (p1 (L - 1 - l)) (rowsW L row l) i
theorem nuW {L : Nat} {row : List Nat} {l i : Nat} (h : i ≤ row.length) : nW L row l i + uW L row l i = i := cp_both _ _ _ (by rw [rowsW_len]; exact h)
theorem sumTo_wb (w : Nat) : ∀ (xs : List Nat) (i : Nat), sumTo (xs.map fun r => ((wb w r : Nat) : Int)) i = (cp (p1 w) xs i : Nat)
  | [], i => by simp [cp, sumTo]
  | x :: xs, 0 => by simp [cp, sumTo]
  | x :: xs, i + 1 => by
    have ih := sumTo_wb w xs i
    unfold cp at ih ⊢
    unfold sumTo at ih ⊢
    rw [List.map_cons, List.take_succ_cons, List.take_succ_cons, List.sum_cons, ih, List.filter_cons]
    rcases wb_le w x with z | z
    · rw [if_neg (by simp [z]), z]; simp
    · rw [if_pos (by simp [z]), z, List.length_cons]; push_cast; omega
theorem sumW (L : Nat) (row : List Nat) (l i : Nat) : sumTo (bitsW L row l) i = (uW L row l i : Nat) := sumTo_wb _ _ _
theorem noughtW {L : Nat} {row : List Nat} {l i : Nat} (h : i ≤ row.length) : (i : Int) - sumTo (bitsW L row l) i = (nW L row l i : Nat) := by
  rw [sumW]; have := nuW (L := L) (l := l) h; omega
/-- all noughts -/
def zW (L : Nat) (row : List Nat) (l : Nat) : Nat := nW L row l row.length
theorem zW_len (L : Nat) (row : List Nat) (l : Nat) : ((rowsW L row l).filter (p0 (L - 1 - l))).length = zW L row l := by
  unfold zW nW cp
  rw [List.take_of_length_le (by rw [rowsW_len]; exact Nat.le_refl _)]
theorem nW_mono {L : Nat} {row : List Nat} {l s e : Nat} (h : s ≤ e) : nW L row l s ≤ nW L row l e := cp_mono _ _ h
theorem uW_mono {L : Nat} {row : List Nat} {l s e : Nat} (h : s ≤ e) : uW L row l s ≤ uW L row l e := cp_mono _ _ h
theorem nW_le {L : Nat} {row : List Nat} {l e : Nat} (h : e ≤ row.length) : nW L row l e ≤ zW L row l := nW_mono h
theorem zuW {L : Nat} {row : List Nat} {l e : Nat} (h : e ≤ row.length) : zW L row l + uW L row l e ≤ row.length := by
  have h1 := uW_mono (L := L) (row := row) (l := l) h
  have h2 := nuW (L := L) (l := l) (Nat.le_refl row.length)
  unfold zW
  omega
theorem seg_n {L : Nat} {row : List Nat} {l s e : Nat} (h : s ≤ e) (he : e ≤ row.length) : (seg (rowsW L row l) s e).filter (p0 (L - 1 - l)) = seg (rowsW L row (l + 1)) (nW L row l s) (nW L row l e) := by
  rw [seg_filter _ _ h]
  show _ = seg (partW _ _) _ _
  unfold partW
  rw [seg_left (by rw [zW_len]; exact nW_le he)]; rfl
theorem seg_u {L : Nat} {row : List Nat} {l s e : Nat} (h : s ≤ e) : (seg (rowsW L row l) s e).filter (p1 (L - 1 - l)) = seg (rowsW L row (l + 1)) (zW L row l + uW L row l s) (zW L row l + uW L row l e) := by
  rw [seg_filter _ _ h]
  show _ = seg (partW _ _) _ _
  unfold partW
  rw [← zW_len, seg_right]; rfl
/-- one item, a level on -/
theorem item_n {L : Nat} {row : List Nat} {l i r : Nat} (h : (rowsW L row l)[i]? = some r) (hb : wb (L - 1 - l) r = 0) : (rowsW L row (l + 1))[nW L row l i]? = some r := by
  have hl := (List.getElem?_eq_some_iff.mp h).1
  rw [rowsW_len] at hl
  have := seg_n (L := L) (l := l) (show i ≤ i + 1 by omega) hl
  rw [seg_one h, List.filter_cons, if_pos (by simp [hb])] at this
  exact seg_head this.symm
theorem item_u {L : Nat} {row : List Nat} {l i r : Nat} (h : (rowsW L row l)[i]? = some r) (hb : wb (L - 1 - l) r = 1) : (rowsW L row (l + 1))[zW L row l + uW L row l i]? = some r := by
  have := seg_u (L := L) (row := row) (l := l) (show i ≤ i + 1 by omega)
  rw [seg_one h, List.filter_cons, if_pos (by simp [hb])] at this
  exact seg_head this.symm
/-- a number's first bits -/
def pre (L l r : Nat) : Nat := r / 2 ^ (L - l)
theorem pre_next {L l r : Nat} (h : l < L) : pre L (l + 1) r = 2 * pre L l r + wb (L - 1 - l) r := by
  unfold pre wb
  rw [show L - (l + 1) = L - 1 - l by omega, show L - l = L - 1 - l + 1 by omega, Nat.pow_succ, ← Nat.div_div_eq_div_mul]
  omega
theorem pre_end (L r : Nat) : pre L L r = r := by unfold pre; rw [Nat.sub_self]; simp
theorem pre_zero {L r : Nat} (h : r < 2 ^ L) : pre L 0 r = 0 := by unfold pre; exact Nat.div_eq_of_lt h
/-- the stretch of those that begin alike -/
theorem down_n {L : Nat} {row S : List Nat} {l s e p : Nat} (hl : l < L) (h : s ≤ e) (he : e ≤ row.length) (hS : seg (rowsW L row l) s e = S.filter fun r => pre L l r = p) : seg (rowsW L row (l + 1)) (nW L row l s) (nW L row l e) = S.filter fun r => pre L (l + 1) r = 2 * p := by
  rw [← seg_n h he, hS, List.filter_filter]
  refine List.filter_congr fun r _ => ?_
  rw [pre_next hl]
  show (decide (wb (L - 1 - l) r = 0) && decide (pre L l r = p)) = decide (2 * pre L l r + wb (L - 1 - l) r = 2 * p)
  rw [← Bool.decide_and]
  have := wb_le (L - 1 - l) r
  exact decide_eq_decide.mpr (by omega)
theorem down_u {L : Nat} {row S : List Nat} {l s e p : Nat} (hl : l < L) (h : s ≤ e) (hS : seg (rowsW L row l) s e = S.filter fun r => pre L l r = p) : seg (rowsW L row (l + 1)) (zW L row l + uW L row l s) (zW L row l + uW L row l e) = S.filter fun r => pre L (l + 1) r = 2 * p + 1 := by
  rw [← seg_u h, hS, List.filter_filter]
  refine List.filter_congr fun r _ => ?_
  rw [pre_next hl]
  show (decide (wb (L - 1 - l) r = 1) && decide (pre L l r = p)) = decide (2 * pre L l r + wb (L - 1 - l) r = 2 * p + 1)
  rw [← Bool.decide_and]
  have := wb_le (L - 1 - l) r
  exact decide_eq_decide.mpr (by omega)
/-! kinds and ranks -/
structure IsK (ks sg : List Int) : Prop where
  srt : ks.Pairwise (· < ·)
  mem : ∀ k, k ∈ ks ↔ k ∈ sg
def rk (ks : List Int) (x : Int) : Nat := ks.countP fun y => y < x
theorem rk_get : ∀ {ks : List Int} {i : Nat} {x : Int}, ks.Pairwise (· < ·) → ks[i]? = some x → rk ks x = i
  | [], i, x, _, h => by simp at h
  | k :: ks, 0, x, s, h => by
    obtain rfl : k = x := by simpa using h
    unfold rk
    rw [List.countP_cons, if_neg (by simp), Nat.add_zero, List.countP_eq_zero]
    intro y hy
    have := (List.pairwise_cons.mp s).1 y hy
    simp; omega
  | k :: ks, i + 1, x, s, h => by
    obtain ⟨s1, s2⟩ := List.pairwise_cons.mp s
    rw [List.getElem?_cons_succ] at h
    have ih := rk_get s2 h
    have := s1 x (List.mem_of_getElem? h)
    unfold rk at ih ⊢
    rw [List.countP_cons, ih, if_pos (by simpa using this)]
theorem get_rk {ks : List Int} {x : Int} (s : ks.Pairwise (· < ·)) (h : x ∈ ks) : ks[rk ks x]? = some x := by
  obtain ⟨i, hi⟩ := List.mem_iff_getElem?.mp h
  rw [rk_get s hi]; exact hi
theorem rk_lt {ks : List Int} {x : Int} (s : ks.Pairwise (· < ·)) (h : x ∈ ks) : rk ks x < ks.length := (List.getElem?_eq_some_iff.mp (get_rk s h)).1
theorem rk_le (ks : List Int) (x : Int) : rk ks x ≤ ks.length := List.countP_le_length
theorem rk_mono (ks : List Int) {x y : Int} (h : x ≤ y) : rk ks x ≤ rk ks y := by
  unfold rk
  exact List.countP_mono_left fun z _ hz => by simp at hz ⊢; omega
theorem rk_iff {ks : List Int} {x v : Int} (s : ks.Pairwise (· < ·)) (h : x ∈ ks) : rk ks x < rk ks v ↔ x < v := by
  constructor
  · intro a
    rcases Int.lt_or_le x v with z | z
    · exact z
    · have := rk_mono ks z; omega
  · intro a
    have e := get_rk s h
    have h1 := (List.getElem?_eq_some_iff.mp e).1
    -- the first rk x + 1 are below v
    have h2 : ((ks.take (rk ks x + 1)).countP fun y => y < v) = rk ks x + 1 := by
      have h3 : (ks.take (rk ks x + 1)).length = rk ks x + 1 := by rw [List.length_take]; omega
      refine Eq.trans (List.countP_eq_length.mpr fun y hy => ?_) h3
      obtain ⟨j, hj⟩ := List.mem_iff_getElem?.mp hy
      rw [List.getElem?_take] at hj
      split at hj
      · have hr := rk_get s hj
        have : y ≤ x := by
          rcases Int.lt_or_le x y with z | z
          · exfalso
            have p := List.pairwise_iff_getElem.mp s
            obtain ⟨j1, j2⟩ := List.getElem?_eq_some_iff.mp hj
            obtain ⟨i1, i2⟩ := List.getElem?_eq_some_iff.mp e
            rcases Nat.lt_or_ge j (rk ks x) with w | w
            · have := p j (rk ks x) j1 i1 w
              omega
            · have : j = rk ks x := by omega
              subst this
              omega
          · exact z
        simp; omega
      · cases hj
    have h4 := List.countP_append (p := fun y : Int => decide (y < v)) (l₁ := ks.take (rk ks x + 1)) (l₂ := ks.drop (rk ks x + 1))
    rw [List.take_append_drop, h2] at h4
    unfold rk at h4 ⊢
    omega
/-- the ranks of a row of signs -/
def ranks (ks sg : List Int) : List Nat := sg.map (rk ks)
theorem ranks_len (ks sg : List Int) : (ranks ks sg).length = sg.length := by unfold ranks; rw [List.length_map]

/-! ### the heap over places: the least power of two -/
/-- the doublings from 1 until many are reached -/
def hOf (many : Nat) : Nat := if many ≤ 1 then 0 else (many - 1).log2 + 1
theorem hOf_le (many : Nat) : many ≤ 2 ^ hOf many := by
  unfold hOf
  split
  · rw [Nat.pow_zero]; omega
  · have := Nat.lt_log2_self (n := many - 1)
    omega
theorem hOf_lt {many k : Nat} (h : k < hOf many) : 2 ^ k < many := by
  unfold hOf at h
  split at h
  · omega
  · have h1 : 2 ^ k ≤ 2 ^ (many - 1).log2 := Nat.pow_le_pow_right (by decide) (by omega)
    have h2 := Nat.log2_self_le (n := many - 1) (by omega)
    omega
theorem hOf_small {many : Nat} (h : many ≤ 4096) : hOf many ≤ 12 := by
  rcases Nat.lt_or_ge 12 (hOf many) with z | z
  · have := hOf_lt z; omega
  · exact z

/-- how many levels -/
def lvK (ks : List Int) : Nat := hOf ks.length
/-- the blocks of a level -/
def eachB (sg : List Int) : Nat := (sg.length + 31) / 32
def bitsK (ks sg : List Int) (l : Nat) : List Int := bitsW (lvK ks) (ranks ks sg) l
theorem bitsK_len (ks sg : List Int) (l : Nat) : (bitsK ks sg l).length = sg.length := by unfold bitsK; rw [bitsW_len, ranks_len]
theorem bitsK_bits (ks sg : List Int) (l : Nat) : Bits (bitsK ks sg l) := bitsW_bits _ _ _
theorem bitsK_blks (ks sg : List Int) (l : Nat) : (blks (bitsK ks sg l)).length = eachB sg := by rw [blks_len, bitsK_len]; rfl
/-- the blocks of the first m levels -/
def sgB (ks sg : List Int) : Nat → List Int
  | 0 => []
  | m + 1 => sgB ks sg m ++ blks (bitsK ks sg m)
theorem sgB_len (ks sg : List Int) : ∀ m, (sgB ks sg m).length = m * eachB sg
  | 0 => by simp [sgB]
  | m + 1 => by unfold sgB; rw [List.length_append, sgB_len ks sg m, bitsK_blks, Nat.succ_mul]
theorem sgB_get (ks sg : List Int) {l k : Nat} : ∀ {m}, l < m → k < eachB sg → (sgB ks sg m)[l * eachB sg + k]? = (blks (bitsK ks sg l))[k]?
  | 0, h, _ => by omega
  | m + 1, h, hk => by
    unfold sgB
    rcases Nat.lt_or_ge l m with z | z
    · have h1 : l * eachB sg + eachB sg ≤ m * eachB sg := by rw [← Nat.succ_mul]; exact Nat.mul_le_mul_right _ z
      rw [List.getElem?_append_left (by rw [sgB_len]; omega)]
      exact sgB_get ks sg z hk
    · obtain rfl : l = m := by omega
      rw [List.getElem?_append_right (by rw [sgB_len]; omega), sgB_len, show l * eachB sg + k - l * eachB sg = k by omega]
theorem nodup_len {ks sg : List Int} (h : IsK ks sg) : ks.length ≤ sg.length := by
  refine List.Nodup.length_le_of_subset ?_ fun x hx => (h.mem x).mp hx
  exact h.srt.imp fun {a b} z => by omega
theorem lvK_le {ks sg : List Int} (h : IsK ks sg) (hl : sg.length ≤ 4096) : lvK ks ≤ 12 := hOf_small (Nat.le_trans (nodup_len h) hl)
theorem rank_lt {ks sg : List Int} (h : IsK ks sg) {r : Nat} (hr : r ∈ ranks ks sg) : r < ks.length ∧ r < 2 ^ lvK ks := by
  obtain ⟨x, hx, rfl⟩ := List.mem_map.mp hr
  have h1 := rk_lt h.srt ((h.mem x).mpr hx)
  exact ⟨h1, Nat.lt_of_lt_of_le h1 (hOf_le _)⟩
/-- the last number of the ones ahead -/
theorem ahead_last (bs : List Int) : atI ((aheadT bs).map V.int) (-1) = some (.int bs.sum) := by
  unfold aheadT
  rw [aheadN_succ, List.map_append]
  have := atI_last ((aheadN bs ((bs.length + 31) / 32)).map V.int) (V.int (sumTo bs (32 * ((bs.length + 31) / 32))))
  rw [sumTo_all bs (show bs.length ≤ 32 * ((bs.length + 31) / 32) by omega)] at this ⊢
  exact this
theorem zK {ks sg : List Int} (l : Nat) : (sg.length : Int) - (bitsK ks sg l).sum = (zW (lvK ks) (ranks ks sg) l : Nat) := by
  have := noughtW (L := lvK ks) (l := l) (Nat.le_refl (ranks ks sg).length)
  rw [sumTo_all _ (by rw [bitsW_len]; exact Nat.le_refl _), ranks_len] at this
  exact this.trans (by unfold zW; rw [ranks_len])

/-! for .. in reversed(range(n)) -/
def RevRK (R : It → Hp → Prop) (x : V) (H : Hp) : Prop := ∃ n, x = .int n ∧ (-(2 ^ 62) ≤ (0 : Int) ∧ (0 : Int) < 2 ^ 62 ∧ -(2 ^ 62) ≤ n ∧ n < 2 ^ 62 ∧ R (Itc (0 + (((n - 0).toNat : Nat) : Int) - 1) (-1) (n - 0).toNat) H)
theorem m_revR1 {ta : TE} {σ : L2.St} {H : Hp} {R : It → Hp → Prop} (h : ta σ H (RevRK R)) : iRevR (tRg1 ta) σ H R := h
theorem m_revRe {R : It → Hp → Prop} {n : Nat} {H : Hp} (hn : n ≤ 1000000) (r : R (Itc ((n : Int) - 1) (-1) n) H) : RevRK R (.int (n : Int)) H := by
  refine ⟨n, rfl, by decide, by decide, by omega, by omega, ?_⟩
  rw [show ((n : Int) - 0).toNat = n by omega, show (0 : Int) + (n : Int) - 1 = (n : Int) - 1 by omega]
  exact r
theorem loop_revR {n : Nat} {g : TG} {tb : TS} {nx : L2.St → Hp → Prop} {rt : VK} {σ : L2.St} {H : Hp} (Pv : Nat → L2.St → Hp → Prop) (h0 : Pv 0 σ H)
    (hs : ∀ i σ H, i < n → Pv i σ H → g (.int ((n - 1 - i : Nat) : Int)) σ H fun σ2 H2 => tb (Ends.mk (Pv (i + 1)) rt nx (Pv (i + 1))) σ2 H2) (hd : ∀ σ H, Pv n σ H → nx σ H) : LoopOk (Itc ((n : Int) - 1) (-1) n) g tb nx rt σ H :=
  loop_walk (n := n) walk_rangeC Pv h0 (fun _ _ _ _ => trivial) (fun i v σ H H' hi p hy => by
    obtain ⟨rfl, rfl⟩ := hy
    show g (.int ((n : Int) - 1 + (i : Nat) * (-1))) σ _ _
    rw [show (n : Int) - 1 + (i : Nat) * (-1) = ((n - 1 - i : Nat) : Int) by omega]
    exact hs i σ _ hi p) hd

/-- levels_for(kinds) -/
def sp_levels_for (K : PySem.W.Frag) : Sp := fun vs H Q _ => ∃ n : Nat, vs = [.int (n : Int)] ∧ n ≤ 4096 ∧ Q (.int (hOf n : Nat)) H
theorem len_levels_for (K : PySem.W.Frag) : ∀ vs H Q E, sp_levels_for K vs H Q E → vs.length = 1 := by
  rintro vs H Q E ⟨x, rfl, _⟩; rfl
def t_levels_for (K : PySem.W.Frag) : TS :=
  (tSeq (tAsg (tC (.int 0)) (gName 1))
  (tSeq (tAsg (tC (.int 1)) (gName 2))
  (tSeq (tWhile (tTest (tOp rLt (tVar 2) (tVar 0)))
  (tSeq (tAug 2 (tVar 2) (ipI fun i j => i + j))
  (tAug 1 (tC (.int 1)) (ipI fun i j => i + j))))
  (tRet (tVar 1)))))
abbrev n_levels_for : List Str := ["kinds", "levels", "room"]

theorem rd_levels_for (K : PySem.W.Frag) (vs : List V) (H : Hp) (Q : VK) (E : XK) (h : sp_levels_for K vs H Q E) : t_levels_for K { nx := fun _ H' => Q .non H', rt := Q } (start n_levels_for vs) H := by
  obtain ⟨n, rfl, hn, q⟩ := h
  have hlv := hOf_small hn
  unfold t_levels_for
  walk_at "st"
  refine loop_while (fun m σ' H' => ∃ k : Nat, m = hOf n - k ∧ k ≤ hOf n ∧ H' = H ∧ σ' = [some (.int (n : Int)), some (.int (k : Int)), some (.int ((2 ^ k : Nat) : Int))]) (hOf n) ⟨0, rfl, Nat.zero_le _, rfl, rfl⟩ ?_
  rintro m σ' H' ⟨k, rfl, hk, rfl, rfl⟩
  walk_at "st"
  walk_at "if" <;> intro c
  · have c2 : 2 ^ k < n := by exact_mod_cast c
    have hk2 : k < hOf n := by
      rcases Nat.lt_or_ge k (hOf n) with z | z
      · exact z
      · have := hOf_le n
        have := Nat.pow_le_pow_right (show 0 < 2 by decide) z
        omega
    walk_at "st"
    refine ⟨hOf n - (k + 1), by omega, k + 1, rfl, hk2, rfl, ?_⟩
    rw [show ((2 ^ (k + 1) : Nat) : Int) = ((2 ^ k : Nat) : Int) + ((2 ^ k : Nat) : Int) by rw [Nat.pow_succ]; push_cast; omega]; rfl
  have hkL : k = hOf n := by
    rcases Nat.lt_or_ge k (hOf n) with z | z
    · have := hOf_lt (many := n) (k := k) z
      have c2 : ¬ 2 ^ k < n := by exact_mod_cast c
      exact absurd this c2
    · omega
  subst hkL
  walk_at "st"
  exact q

/-- numbers of a row -/
def natL (xs : List Nat) : List Int := xs.map fun r : Nat => (r : Int)
theorem natL_len (xs : List Nat) : (natL xs).length = xs.length := by unfold natL; rw [List.length_map]
theorem wb_int (w r : Nat) : ((r : Int) / ((2 ^ w : Nat) : Int)) % 2 = ((wb w r : Nat) : Int) := by unfold wb; push_cast; rfl
theorem natL_filter (w b : Nat) (xs : List Nat) : (natL xs).filter (fun n => decide ((n / ((2 ^ w : Nat) : Int)) % 2 = (b : Int))) = natL (xs.filter fun r => decide (wb w r = b)) := by
  unfold natL
  rw [List.filter_map]
  congr 1
  refine List.filter_congr fun r _ => ?_
  show decide _ = decide _
  rw [wb_int]
  exact decide_eq_decide.mpr (by omega)

theorem range_fm {α β : Type} (l : List α) (g : α → Option β) : (List.range l.length).filterMap (fun k => (l[k]?).bind g) = l.filterMap g := by
  have h : ∀ n, n ≤ l.length → (List.range n).filterMap (fun k => (l[k]?).bind g) = (l.take n).filterMap g := by
    intro n
    induction n with
    | zero => intro _; rfl
    | succ n ih =>
      intro hn
      have e := List.getElem?_eq_getElem (show n < l.length by omega)
      rw [List.range_succ, List.filterMap_append, ih (by omega), List.take_add_one, e, List.filterMap_append]
      congr 1
      show List.filterMap _ [n] = List.filterMap g [l[n]]
      rw [List.filterMap_cons, List.filterMap_cons, e]; rfl
  rw [h _ (Nat.le_refl _), List.take_length]
theorem fm_if {α β : Type} (p : α → Bool) (f : α → β) : ∀ l : List α, l.filterMap (fun n => if p n = true then some (f n) else none) = (l.filter p).map f
  | [] => rfl
  | n :: l => by
    rw [List.filterMap_cons, List.filter_cons]
    cases p n with
    | true => rw [if_pos rfl, if_pos rfl, fm_if p f l]; rfl
    | false => rw [if_neg (by decide), if_neg (by decide), fm_if p f l]
/-- the numbers of a list that a test lets through -/
theorem comp_filterI {K : PySem.W.Frag} {σ : L2.St} {H : Hp} {Q : VK} {a : Addr} {ns : List Int} {te : TE} {tt : TT} {j : Nat} (p : Int → Bool) (hl : SqL K H a (ns.map V.int)) (hn : ns.length ≤ 100000)
    (ht : ∀ (k : Nat) (n : Int) (H1 : Hp) (Qb : Bool → Hp → Prop), ns[k]? = some n → Same H H1 → (∀ H2, Same H1 H2 → Qb (p n) H2) → tt ((wipe σ [j]).set j (some (.int n))) H1 Qb)
    (he : ∀ (n : Int) (H1 : Hp) (Q2 : VK), Q2 (.int n) H1 → te ((wipe σ [j]).set j (some (.int n))) H1 Q2)
    (q : ∀ pd H', H pd = none → Same H H' → H' pd = some (.lst ((ns.filter p).map V.int)) → Q (.ref pd) H') (hw : ∀ x, wipe ((wipe σ [j]).set j (some x)) [j] = wipe σ [j] := by intro _; rfl) : CompOk (Itl K a) (gName j) tt te [j] σ H Q := by
  refine comp_walkV (f := fun k => (ns[k]?).bind fun n => if p n = true then some (V.int n) else none) (walk_list (K := K) (xs := ns.map V.int)) (by rw [List.length_map]; exact hn) (fun H' s' => s'.seq hl) (fun k v Hb Hc Qb hk sk hy qb => ?_) (fun pm Hb hpm sb eb => ?_) hw
  · obtain ⟨rfl, hv⟩ := hy
    obtain ⟨n, en, rfl⟩ := of_mapint hv
    refine ht k n Hc Qb en sk fun H2 s2 => qb (p n) H2 s2 (fun hp Q2 H4 s4 => ⟨_, by rw [en]; show (if p n = true then _ else _) = _; rw [if_pos hp], fun q2 => he n H4 Q2 (q2 H4 (Same.refl _))⟩) fun hp => ?_
    rw [en]
    show (if p n = true then _ else _) = _
    rw [if_neg (by rw [hp]; decide)]
  · rw [List.length_map, range_fm, fm_if] at eb
    exact q pm Hb hpm sb eb

/-- dicts: keys are numbers -/
def DGetK (Q : VK) (x y : V) (H : Hp) : Prop := ∃ a v, x = .ref a ∧ DGet H a y (some v) ∧ Q v H
theorem m_dget {td ty : TE} {σ : L2.St} {H : Hp} {Q : VK} (h : td σ H fun x H1 => ty σ H1 fun y H2 => DGetK Q x y H2) : tDGet td ty σ H Q := h
theorem k_dgetE {H : Hp} {Q : VK} {a : Addr} {kvs : List (Key × V)} {i : Int} {v : V} (e : H a = some (.dK kvs)) (hv : valV kvs (.inl i) = some v) (q : Q v H) : DGetK Q (.ref a) (.int i) H :=
  ⟨a, v, rfl, by rw [← hv]; exact DGet.k (k := .inl i) e, q⟩
def DPutK (nx : Hp → Prop) (x y v : V) (H : Hp) : Prop := ∃ a H4, x = .ref a ∧ DPut H a y v H4 ∧ nx H4
theorem m_dput {td ty tv : TE} {σ : L2.St} {H : Hp} {nx bk ct : L2.St → Hp → Prop} {rt : VK} (h : tv σ H fun v H1 => td σ H1 fun x H2 => ty σ H2 fun y H3 => DPutK (nx σ) x y v H3) : sDPut td ty tv (Ends.mk nx rt bk ct) σ H := h
theorem k_dputE {H : Hp} {nx : Hp → Prop} {a : Addr} {kvs : List (Key × V)} {i : Int} {v : V} (e : H a = some (.dK kvs)) (hl : kvs.length ≤ 100000) (q : nx (upd H a (.dK (putK kvs (.inl i) v)))) : DPutK nx (.ref a) (.int i) v H :=
  ⟨a, _, rfl, DPut.k (k := .inl i) e (Nat.lt_of_le_of_lt hl (by decide)), q⟩
/-- {i: v} -/
def Disp1K (p : Addr) (Q : VK) (x y : V) (H : Hp) : Prop := H p = some (.dK []) ∧ ∃ kvs : List (Key × V), [(x, y)] = kvs.map (fun kv => (kV kv.1, kv.2)) ∧ kvs.length ≤ 15 ∧ Q (.ref p) (upd H p (.dK (mergeK [] kvs)))
theorem m_disp1 {tk tv : TE} {σ : L2.St} {H : Hp} {Q : VK} (h : ∀ p, H p = none → tk σ (upd H p (.dK [])) fun x H1 => tv σ H1 fun y H2 => Disp1K p Q x y H2) : tDisp [(tk, tv)] σ H Q := h
theorem k_disp1E {p : Addr} {H : Hp} {Q : VK} {i : Int} {y : V} (e : H p = some (.dK [])) (q : Q (.ref p) (upd H p (.dK [(.inl i, y)]))) : Disp1K p Q (.int i) y H := ⟨e, [(.inl i, y)], rfl, by simp, q⟩
theorem Same.mutD {H H' : Hp} {p : Addr} {o : HO} (e : Same H H') (h : H p = none) {kvs : List (Key × V)} (hl : H' p = some (.dK kvs)) : Same H (upd H' p o) := by
  refine ⟨fun b x hb n => by rw [upd_ne (ne_of_none hb h)]; exact e.keep b x hb n, fun b hb => e.gone b (NdefX.upd_none hb), fun P t => ?_⟩
  obtain ⟨ps, h1, ht, hc⟩ := e.tabs P t
  have np : ∀ {b : Addr} {u : HO}, H' b = some u → (∀ xs, u ≠ .dK xs) → b ≠ p := fun {b u} q d z => by
    subst z; rw [hl] at q; cases q; exact d _ rfl
  refine ⟨ps, by rw [upd_ne (np h1 fun _ z => nomatch z)]; exact h1, ht, fun pos cv q => ?_⟩
  obtain ⟨c, e1, e2⟩ := hc pos cv q
  exact ⟨c, e1, by rw [upd_ne (np e2 fun _ z => by unfold LamX.CodeO at z; cases z)]; exact e2⟩
theorem m_dnew {H : Hp} {σ : L2.St} {Q : VK} (h : ∀ p, H p = none → Q (.ref p) (upd H p (.dK []))) : tDNewK σ H Q := h
theorem Same.mutG {H H' : Hp} {p : Addr} {o o' : HO} (e : Same H H') (h : H p = none) (hl : H' p = some o') (n1 : ∀ ps, o' ≠ .tbl ps) (n2 : ∀ φ, o' ≠ .ext φ) : Same H (upd H' p o) := by
  refine ⟨fun b x hb n => by rw [upd_ne (ne_of_none hb h)]; exact e.keep b x hb n, fun b hb => e.gone b (NdefX.upd_none hb), fun P t => ?_⟩
  obtain ⟨ps, h1, ht, hc⟩ := e.tabs P t
  have np : ∀ {b : Addr} {u : HO}, H' b = some u → u ≠ o' → b ≠ p := fun {b u} q d z => by
    subst z; rw [hl] at q; exact d (Option.some.inj q).symm
  refine ⟨ps, by rw [upd_ne (np h1 fun z => n1 _ z.symm)]; exact h1, ht, fun pos cv q => ?_⟩
  obtain ⟨c, e1, e2⟩ := hc pos cv q
  exact ⟨c, e1, by rw [upd_ne (np e2 fun z => by unfold LamX.CodeO at z; exact n2 _ z.symm)]; exact e2⟩
theorem putK_mem {kvs : List (Key × V)} {k : Key} {v : V} {p : Key × V} (h : p ∈ putK kvs k v) : p.1 = k ∨ ∃ q ∈ kvs, q.1 = p.1 := by
  unfold putK at h
  split at h
  · obtain ⟨q, hq, e⟩ := List.mem_map.mp h
    refine .inr ⟨q, hq, ?_⟩
    rw [← e]
    split <;> rfl
  · rcases List.mem_append.mp h with z | z
    · exact .inr ⟨p, z, rfl⟩
    · rw [List.mem_singleton.mp z]; exact .inl rfl
theorem valV_mem {kvs : List (Key × V)} {k : Key} {v : V} (h : valV kvs k = some v) : ∃ q ∈ kvs, q.1 = k := by
  unfold valV at h
  obtain ⟨q, hq, _⟩ := Option.map_eq_some_iff.mp h
  exact ⟨q, List.mem_of_find?_eq_some hq, by simpa using List.find?_some hq⟩
/-- x in d -/
def DInK (Q : VK) (y x : V) (H : Hp) : Prop := ∃ a o, x = .ref a ∧ DGet H a y o ∧ Q (.bl o.isSome) H
theorem m_din {ty td : TE} {σ : L2.St} {H : Hp} {Q : VK} (h : ty σ H fun y H1 => td σ H1 fun x H2 => DInK Q y x H2) : tDIn ty td σ H Q := h
theorem k_dinE {H : Hp} {Q : VK} {a : Addr} {kvs : List (Key × V)} {i : Int} (e : H a = some (.dK kvs)) (q : Q (.bl (valV kvs (.inl i)).isSome) H) : DInK Q (.int i) (.ref a) H := ⟨a, _, rfl, DGet.k (k := .inl i) e, q⟩
def KeysK (R : It → Hp → Prop) (x : V) (H1 : Hp) : Prop := ∃ d o, x = .ref d ∧ ((∃ kvs, H1 d = some (.frz o (.dK kvs)) ∧ R (Itk d o kvs) H1) ∨ ∃ kvs, H1 d = some (.frz o (.dT kvs)) ∧ R (Itkt d o kvs) H1)
theorem m_keys {td : TE} {σ : L2.St} {H : Hp} {R : It → Hp → Prop} (h : td σ H (KeysK R)) : iKeys td σ H R := h
theorem k_keysE {R : It → Hp → Prop} {d : Addr} {o : Obj} {kvs : List (Key × V)} {H : Hp} (e : H d = some (.frz o (.dK kvs))) (q : R (Itk d o kvs) H) : KeysK R (.ref d) H := ⟨d, o, rfl, .inl ⟨kvs, e, q⟩⟩
theorem m_lockE {t : TE} {σ : L2.St} {H : Hp} {Q : VK} {d : Addr} {kvs : List (Key × V)} (e : H d = some (.dK kvs)) (h : ∀ od, t σ (upd H d (.frz od (.dK kvs))) fun v H' => H' d = some (.frz od (.dK kvs)) ∧ Q v (upd H' d (.dK kvs))) : tLockE t σ H Q := ⟨d, _, e, trivial, h⟩

/-- too far from nought -/
def FarS (x : Int) : Prop := x ≤ -1000000000000000000000000000000000000000000000000000000000000 ∨ 1000000000000000000000000000000000000000000000000000000000000 ≤ x
theorem wb_shr (w r : Nat) : ((r : Int) / 2 ^ w) % 2 = ((wb w r : Nat) : Int) := by unfold wb; push_cast; rfl
theorem natL_shr (w b : Nat) (xs : List Nat) : (natL xs).filter (fun n => decide ((n / 2 ^ w) % 2 = (b : Int))) = natL (xs.filter fun r => decide (wb w r = b)) := by
  unfold natL
  rw [List.filter_map]
  congr 1
  refine List.filter_congr fun r _ => ?_
  show decide _ = decide _
  rw [wb_shr]
  exact decide_eq_decide.mpr (by omega)
/-- kept_signs(signs) -/
def sp_kept_signs (K : PySem.W.Frag) : Sp := fun vs H Q E => ∃ (a : Addr) (sg U : List Int), vs = [.ref a] ∧ H a = some (.lst (sg.map V.int)) ∧ sg.length ≤ 100000 ∧
  (sg.length > 4096 → E (.ref (He.ga K "TooMany")) none H) ∧
  (sg.length ≤ 4096 → (∃ x ∈ sg, FarS x) → E (.ref (He.ga K "NoSign")) none H) ∧
  (sg.length ≤ 4096 → (∀ x ∈ sg, ¬ FarS x) → U.length ≤ 4090 ∧ (∀ x ∈ sg, x ∈ U) ∧ ∀ (ks : List Int) (p t pk pa pb : Addr) (as : List Addr) H', IsK ks sg → H p = none → H pb = none → Same H H' → H' p = some (.tup [.ref t, .ref pb]) → H' t = some (.tup [.int (sg.length : Int), .ref pk, .ref pa]) → H' pk = some (.tup (ks.map V.int)) → H' pa = some (.tup (as.map V.ref)) → as.length = lvK ks → (∀ l x, as[l]? = some x → H' x = some (.tup ((aheadT (bitsK ks sg l)).map V.int))) → H' pb = some (.lst ((sgB ks sg (lvK ks)).map V.int)) → Q (.ref p) H')
theorem len_kept_signs (K : PySem.W.Frag) : ∀ vs H Q E, sp_kept_signs K vs H Q E → vs.length = 1 := by
  rintro vs H Q E ⟨x, y, _, rfl, _⟩; rfl
def t_kept_signs (K : PySem.W.Frag) (E : XK) : TS :=
  (tSeq (tIfS (tTest (tOp rGtI (tCB (rLen K) (tCons (tVar 0) tNil)) (tC (.int 4096))))
  (tRz (fun cls d _ H => E cls d H) (He.ga K "TooMany"))
  tNext)
  (tSeq (tFor (iList K (tVar 0)) (gName 1)
  (tIfS (tOr (tTest (tOp rLe (tVar 1) (tC (.int (-1000000000000000000000000000000000000000000000000000000000000))))) (tTest (tOp rGeI (tVar 1) (tC (.int 1000000000000000000000000000000000000000000000000000000000000)))))
  (tRz (fun cls d _ H => E cls d H) (He.ga K "NoSign"))
  tNext))
  (tSeq (tAsg (tSortSet K (tVar 0)) (gName 2))
  (tSeq (tAsg tDNewK (gName 3))
  (tSeq (tFor (iEnum K (tCons (tVar 2) tNil)) (gTup K 2 (gCons (gName 4) (gCons (gName 1) gNil)))
  (sDPut (tVar 3) (tVar 1) (tVar 4)))
  (tSeq (tAsg (tLc (iList K (tVar 0)) (gName 1) tYes (tDGet (tVar 3) (tVar 1)) [1]) (gName 5))
  (tSeq (tAsg (tLst tNil) (gName 6))
  (tSeq (tAsg (tLst tNil) (gName 7))
  (tSeq (tFor (iRevR (tRg1 (tCall (sp_levels_for K) [] E0 (tCons (tCB (rLen K) (tCons (tVar 2) tNil)) tNil)))) (gName 8)
  (tSeq (tAsg (tCall (sp_kept_row K) [] E (tCons (tLc (iList K (tVar 5)) (gName 4) tYes (tOp rAnd1 (tOp rShr (tVar 4) (tVar 8)) (tC (.int 1))) [4]) tNil)) (gTup K 2 (gCons (gName 9) (gCons (gName 10) gNil))))
  (tSeq (tDrop (tBM K "list" rAppend (tVar 6) (tCons (tOp (rIxT K) (tVar 9) (tC (.int 1))) tNil)))
  (tSeq (tDrop (tBM K "list" rExtend (tVar 7) (tCons (tVar 10) tNil)))
  (tSeq (tAsg (tLc (iList K (tVar 5)) (gName 4) (tTest (tOp rEq (tOp rAnd1 (tOp rShr (tVar 4) (tVar 8)) (tC (.int 1))) (tC (.int 0)))) (tVar 4) [4]) (gName 11))
  (tAsg (tOp rCat (tVar 11) (tLc (iList K (tVar 5)) (gName 4) (tTest (tOp rEq (tOp rAnd1 (tOp rShr (tVar 4) (tVar 8)) (tC (.int 1))) (tC (.int 1)))) (tVar 4) [4])) (gName 5)))))))
  (tRet (tTup (tCons (tTup (tCons (tCB (rLen K) (tCons (tVar 0) tNil)) (tCons (tCB (rTupOf K) (tCons (tVar 2) tNil)) (tCons (tCB (rTupOf K) (tCons (tVar 6) tNil)) tNil)))) (tCons (tVar 7) tNil)))))))))))))
abbrev n_kept_signs : List Str := ["signs", "sign", "kinds", "ranks", "rank", "row", "aheads", "blocks", "weight", "tables", "some", "noughts"]

theorem rd_kept_signs (K : PySem.W.Frag) (vs : List V) (H : Hp) (Q : VK) (E : XK) (h : sp_kept_signs K vs H Q E) : t_kept_signs K E { nx := fun _ H' => Q .non H', rt := Q } (start n_kept_signs vs) H := by
  obtain ⟨a, sg, U, rfl, hS, hl0, q1, q2, q3⟩ := h
  unfold t_kept_signs
  walk_at "st"
  refine k_lenL (.of hS) ?_
  walk_at "st"
  rw [List.length_map]
  walk_at "if" <;> intro c0
  · walk_at "st"
    exact q1 (by omega)
  have hl : sg.length ≤ 4096 := by omega
  walk_at "st"
  refine m_iLe (.of hS) ?_
  refine loop_ints (ns := sg) (fun i σ' H' => ∃ (v1 : Option V), H' = H ∧ i ≤ sg.length ∧ (∀ x ∈ sg.take i, ¬ FarS x) ∧ σ' = [some (.ref a), v1, none, none, none, none, none, none, none, none, none, none]) ⟨none, rfl, Nat.zero_le _, by simp, rfl⟩ (fun i σ' H' ⟨_, e, _⟩ => e ▸ .of hS) (fun i x σ' H' hx ⟨v1, eH, hi, hf, es⟩ => ?_) (fun σ' H' ⟨v1, eH, _, hf, es⟩ => ?_)
  · subst es
    subst eH
    walk_at "st"
    walk_at "if" <;> intro c1
    · walk_at "st"
      exact q2 hl ⟨x, List.mem_of_getElem? hx, .inl c1⟩
    walk_at "st"
    walk_at "if" <;> intro c2
    · walk_at "st"
      exact q2 hl ⟨x, List.mem_of_getElem? hx, .inr c2⟩
    walk_at "st"
    refine ⟨_, rfl, (List.getElem?_eq_some_iff.mp hx).1, fun y hy => ?_, rfl⟩
    rw [List.take_add_one, hx] at hy
    rcases List.mem_append.mp hy with z | z
    · exact hf y z
    · obtain rfl : y = x := by simpa using z
      exact fun z => z.elim c1 c2
  subst es
  subst eH
  rw [List.take_length] at hf
  obtain ⟨hU, hUm, q⟩ := q3 hl hf
  walk_at "st"
  refine m_sortSet ?_
  walk_at "st"
  refine ⟨a, sg, U, rfl, .of hS, hU, hUm, fun ks p1 hsrt hmem hp1 => ?_⟩
  have hK : IsK ks sg := ⟨hsrt, hmem⟩
  have hkl := nodup_len hK
  have hlv := lvK_le hK hl
  have s1 := same_new (o := .lst (ks.map V.int)) hp1
  have e1 := upd_same (H := H') (a := p1) (o := .lst (ks.map V.int))
  generalize upd H' p1 (.lst (ks.map V.int)) = H1 at s1 e1 ⊢
  walk_at "st"
  refine m_dnew fun pd hpd => ?_
  have s2 := s1.trans (same_new (o := .dK []) hpd)
  have ed := upd_same (H := H1) (a := pd) (o := .dK [])
  have n1d : p1 ≠ pd := ne_of_none e1 hpd
  have hpd0 := s1.gone _ hpd
  replace e1 := (same_new (o := .dK []) hpd).get e1
  generalize upd H1 pd (.dK []) = H2 at s2 e1 ed ⊢
  walk_at "st"
  refine m_enumE (.of e1) ?_
  refine loop_walk walk_enum (fun i σ H2 => ∃ (v1 v4 : Option V) (kvs : List (Key × V)), σ = [some (.ref a), v1, some (.ref p1), some (.ref pd), v4, none, none, none, none, none, none, none] ∧ i ≤ ks.length ∧ Same H' H2 ∧ H2 p1 = some (.lst (ks.map V.int)) ∧ H2 pd = some (.dK kvs) ∧ kvs.length ≤ i ∧ ∀ j x, j < i → ks[j]? = some x → valV kvs (.inl x) = some (.int (j : Int))) ⟨v1, none, [], rfl, Nat.zero_le _, s2, e1, ed, Nat.le_refl _, fun j x hj => by omega⟩ (fun i σ H2 ⟨_, _, _, _, _, _, e, _⟩ => .of e) ?_ ?_
  · rintro i v σ H3 H4 hi ⟨v1, v4, kvs, rfl, _, s, e1, ed, hkv, hv⟩ ⟨T, x, w, rfl, hT, rfl, ex, ew⟩
    rw [List.length_map] at hi
    obtain ⟨b, hbi, rfl⟩ := of_mapint ew
    obtain rfl : x = .int (i : Nat) := (Option.some.inj ex).symm
    have sT := same_new (o := .tup [.int (i : Nat), .int b]) hT
    have eT := upd_same (H := H3) (a := T) (o := .tup [.int (i : Nat), .int b])
    generalize upd H3 T (.tup [.int (i : Nat), .int b]) = H5 at sT eT ⊢
    refine m_gTup (.of eT) rfl ?_
    walk_at "st"
    refine m_dput ?_
    walk_at "st"
    refine k_dputE (sT.get ed) (by omega) ?_
    have hp1 := length_putK kvs (.inl b : Key) (V.int (i : Int))
    refine ⟨_, _, _, rfl, by omega, (s.trans sT).mutD hpd0 (sT.get ed), by rw [upd_ne n1d]; exact sT.get e1, upd_same, by omega, fun j y hj hy => ?_⟩
    rw [valV_put]
    by_cases c : y = b
    · subst c
      have h1 := rk_get hsrt hy
      have h2 := rk_get hsrt hbi
      rw [if_pos rfl, show j = i by omega]
    · rw [if_neg (by intro z; exact c (Sum.inl.inj z))]
      rcases Nat.lt_or_ge j i with z | z
      · exact hv j y z hy
      · obtain rfl : j = i := by omega
        rw [hbi] at hy
        exact absurd (Option.some.inj hy).symm c
  rintro σ H3 ⟨v1, v4, kvs, rfl, _, s3, e1, ed, _, hv⟩
  rw [List.length_map] at hv
  walk_at "st"
  refine m_iLe (.of (s3.get hS)) ?_
  refine comp_listV (xs := sg.map V.int) (ys := (natL (ranks ks sg)).map V.int) (.of (s3.get hS)) (by rw [List.length_map]; omega) (by rw [List.length_map, List.length_map, natL_len, ranks_len]) (fun k x y Ha Q2 hx hy sk q2 => ?_) fun p2 H4 hp2 s4 er => ?_
  · obtain ⟨n, en, rfl⟩ := of_mapint hx
    have ey : y = .int (rk ks n : Nat) := by
      have : ((natL (ranks ks sg)).map V.int)[k]? = some (.int (rk ks n : Nat)) := by
        unfold natL ranks
        rw [List.getElem?_map, List.getElem?_map, List.getElem?_map, en]; rfl
      rw [this] at hy
      exact (Option.some.inj hy).symm
    subst ey
    have hmn := (hmem n).mpr (List.mem_of_getElem? en)
    refine m_dget ?_
    walk_at "st"
    refine k_dgetE (sk.get ed) (hv _ n (rk_lt hsrt hmn) (get_rk hsrt hmn)) ?_
    exact q2 _ (Same.refl _)
  have t4 := s3.trans s4
  replace e1 := s4.get e1
  walk_at "st"
  intro p6 hp6
  have hp6B := t4.gone _ hp6
  have s6 := t4.trans (same_new (o := .lst []) hp6)
  have e6 := upd_same (H := H4) (a := p6) (o := .lst [])
  have nr6 : p2 ≠ p6 := ne_of_none er hp6
  have n16 : p1 ≠ p6 := ne_of_none e1 hp6
  replace er := (same_new (o := .lst []) hp6).get er
  replace e1 := (same_new (o := .lst []) hp6).get e1
  generalize upd H4 p6 (.lst []) = H6 at s6 e6 er e1 ⊢
  walk_at "st"
  intro p7 hp7
  have hp7B := s6.gone _ hp7
  have s7 := s6.trans (same_new (o := .lst []) hp7)
  have e7 := upd_same (H := H6) (a := p7) (o := .lst [])
  have n67 : p6 ≠ p7 := ne_of_none e6 hp7
  have nr7 : p2 ≠ p7 := ne_of_none er hp7
  have n17 : p1 ≠ p7 := ne_of_none e1 hp7
  replace er := (same_new (o := .lst []) hp7).get er
  replace e1 := (same_new (o := .lst []) hp7).get e1
  replace e6 := (same_new (o := .lst []) hp7).get e6
  generalize upd H6 p7 (.lst []) = H7 at s7 e7 er e1 e6 ⊢
  walk_at "st"
  refine m_revR1 ?_
  walk_at "st"
  refine k_lenL (.of e1) ?_
  walk_at "st"
  rw [List.length_map]
  refine ⟨ks.length, rfl, by omega, ?_⟩
  refine m_revRe (by have : hOf ks.length = lvK ks := rfl; omega) ?_
  refine loop_revR (fun i σ' H2 => ∃ (pr : Addr) (as : List Addr) (v1 v4 v8 v9 v10 v11 : Option V), i ≤ lvK ks ∧ Same H' H2 ∧ H2 p1 = some (.lst (ks.map V.int)) ∧ H2 pr = some (.lst ((natL (rowsW (lvK ks) (ranks ks sg) i)).map V.int)) ∧ pr ≠ p6 ∧ pr ≠ p7 ∧ H2 p6 = some (.lst (as.map V.ref)) ∧ as.length = i ∧ (∀ l x, as[l]? = some x → H2 x = some (.tup ((aheadT (bitsK ks sg l)).map V.int))) ∧ H2 p7 = some (.lst ((sgB ks sg i).map V.int)) ∧ σ' = [some (.ref a), v1, some (.ref p1), some (.ref pd), v4, some (.ref pr), some (.ref p6), some (.ref p7), v8, v9, v10, v11]) ⟨p2, [], v1, v4, none, none, none, none, Nat.zero_le _, s7, e1, er, nr6, nr7, e6, rfl, fun l x e => by simp at e, e7, rfl⟩ (fun l σ' H2 hlt ⟨pr, as, v1, v4, v8, v9, v10, v11, _, s, e1, er, nr6, nr7, e6, hal, has, e7, es⟩ => ?_) (fun σ' H2 ⟨pr, as, v1, v4, v8, v9, v10, v11, _, s, e1, er, nr6, nr7, e6, hal, has, e7, es⟩ => ?_)
  · subst es
    obtain ⟨w, hw⟩ : ∃ w, w = lvK ks - 1 - l := ⟨_, rfl⟩
    have hw' : hOf ks.length - 1 - l = w := by have : hOf ks.length = lvK ks := rfl; omega
    rw [hw']
    have hl2 : l < lvK ks := hlt
    have hrl : (rowsW (lvK ks) (ranks ks sg) l).length = sg.length := by rw [rowsW_len, ranks_len]
    walk_at "st"
    refine m_iLe (.of er) ?_
    refine comp_listV (xs := (natL (rowsW (lvK ks) (ranks ks sg) l)).map V.int) (ys := (bitsK ks sg l).map V.int) (.of er) (by rw [List.length_map, natL_len]; omega) (by rw [List.length_map, List.length_map, natL_len, bitsK_len, hrl]) (fun k x y Ha Q2 hx hy sk q2 => ?_) fun p8 H8 hp8 s8 e8 => ?_
    · obtain ⟨n, en, rfl⟩ := of_mapint hx
      obtain ⟨r, erk, rfl⟩ : ∃ r : Nat, (rowsW (lvK ks) (ranks ks sg) l)[k]? = some r ∧ (r : Int) = n := by
        unfold natL at en
        rw [List.getElem?_map] at en
        exact Option.map_eq_some_iff.mp en
      have ey : y = .int ((wb w r : Nat) : Int) := by
        have : ((bitsK ks sg l).map V.int)[k]? = some (.int ((wb w r : Nat) : Int)) := by
          unfold bitsK bitsW
          rw [List.getElem?_map, List.getElem?_map, erk, hw]; rfl
        rw [this] at hy
        exact (Option.some.inj hy).symm
      subst ey
      walk_at "st"
      rw [Int.toNat_natCast, wb_shr]
      exact q2 _ (Same.refl _)
    have hBl : (bitsK ks sg l).length = sg.length := bitsK_len _ _ _
    walk_at "st"
    refine ⟨p8, bitsK ks sg l, rfl, .of e8, by omega, fun z => by omega, fun _ nb => absurd (bitsK_bits ks sg l) nb, fun _ _ p9 t9 pa9 pb9 H9 hp9 ht9 hpa9 hpb9 s9 f1 f2 f3 f4 => ?_⟩
    have s89 := s8.trans s9
    walk_at "st"
    refine m_gTup (.of f1) rfl ?_
    walk_at "st"
    refine k_tyL (.of (s89.get e6)) ?_
    walk_at "st"
    refine k_ixT (.of f2) (x := .ref pa9) rfl ?_
    walk_at "st"
    refine k_app (s89.get e6) (by rw [List.length_map]; omega) ?_
    have npb : pb9 ≠ p6 := fun z => by rw [z, s8.get e6] at hpb9; cases hpb9
    have npa : pa9 ≠ p6 := fun z => by rw [z, s8.get e6] at hpa9; cases hpa9
    have npb7 : pb9 ≠ p7 := fun z => by rw [z, s8.get e7] at hpb9; cases hpb9
    have t9' : Same H' (upd H9 p6 (.lst (as.map V.ref ++ [.ref pa9]))) := (s.trans s89).mut hp6B ⟨_, s89.get e6⟩
    have er9 : (upd H9 p6 (.lst (as.map V.ref ++ [.ref pa9]))) pr = some (.lst ((natL (rowsW (lvK ks) (ranks ks sg) l)).map V.int)) := (upd_ne nr6).trans (s89.get er)
    have e19 : (upd H9 p6 (.lst (as.map V.ref ++ [.ref pa9]))) p1 = some (.lst (ks.map V.int)) := (upd_ne n16).trans (s89.get e1)
    have e79 : (upd H9 p6 (.lst (as.map V.ref ++ [.ref pa9]))) p7 = some (.lst ((sgB ks sg l).map V.int)) := (upd_ne n67.symm).trans (s89.get e7)
    have f49 : (upd H9 p6 (.lst (as.map V.ref ++ [.ref pa9]))) pb9 = some (.lst ((blks (bitsK ks sg l)).map V.int)) := (upd_ne npb).trans f4
    have e69 : (upd H9 p6 (.lst (as.map V.ref ++ [.ref pa9]))) p6 = some (.lst ((as ++ [pa9]).map V.ref)) := by rw [upd_same, List.map_append]; rfl
    have has9 : ∀ j x, (as ++ [pa9])[j]? = some x → (upd H9 p6 (.lst (as.map V.ref ++ [.ref pa9]))) x = some (.tup ((aheadT (bitsK ks sg j)).map V.int)) := fun j x e => by
      rcases Nat.lt_or_ge j as.length with z | z
      · rw [List.getElem?_append_left z] at e
        have := s89.get (has j x e)
        exact (upd_ne fun y => by rw [y, s89.get e6] at this; cases this).trans this
      · rw [List.getElem?_append_right z] at e
        have h1 := (List.getElem?_eq_some_iff.mp e).1
        rw [List.length_singleton] at h1
        obtain rfl : j = l := by omega
        rw [show j - as.length = 0 by omega] at e
        obtain rfl := Option.some.inj e
        exact (upd_ne npa).trans f3
    generalize upd H9 p6 (.lst (as.map V.ref ++ [.ref pa9])) = H10 at t9' er9 e19 e79 f49 e69 has9 ⊢
    walk_at "st"
    refine k_tyL (.of e79) ?_
    walk_at "st"
    have hbl := blks_len (bitsK ks sg l)
    have hsb := sgB_len ks sg l
    have heb : eachB sg ≤ 129 := by unfold eachB; omega
    have hmul : l * eachB sg ≤ 12 * 129 := Nat.mul_le_mul (by omega) heb
    refine k_extend e79 f49 (by rw [List.length_map, List.length_map]; omega) ?_
    have t10 : Same H' (upd H10 p7 (.lst ((sgB ks sg l).map V.int ++ (blks (bitsK ks sg l)).map V.int))) := t9'.mut hp7B ⟨_, e79⟩
    have er10 : (upd H10 p7 (.lst ((sgB ks sg l).map V.int ++ (blks (bitsK ks sg l)).map V.int))) pr = some (.lst ((natL (rowsW (lvK ks) (ranks ks sg) l)).map V.int)) := (upd_ne nr7).trans er9
    have e110 : (upd H10 p7 (.lst ((sgB ks sg l).map V.int ++ (blks (bitsK ks sg l)).map V.int))) p1 = some (.lst (ks.map V.int)) := (upd_ne n17).trans e19
    have e610 : (upd H10 p7 (.lst ((sgB ks sg l).map V.int ++ (blks (bitsK ks sg l)).map V.int))) p6 = some (.lst ((as ++ [pa9]).map V.ref)) := (upd_ne n67).trans e69
    have e710 : (upd H10 p7 (.lst ((sgB ks sg l).map V.int ++ (blks (bitsK ks sg l)).map V.int))) p7 = some (.lst ((sgB ks sg (l + 1)).map V.int)) := by rw [upd_same, ← List.map_append]; rfl
    have has10 : ∀ j x, (as ++ [pa9])[j]? = some x → (upd H10 p7 (.lst ((sgB ks sg l).map V.int ++ (blks (bitsK ks sg l)).map V.int))) x = some (.tup ((aheadT (bitsK ks sg j)).map V.int)) := fun j x e => by
      have := has9 j x e
      exact (upd_ne fun y => by rw [y, e79] at this; cases this).trans this
    generalize upd H10 p7 (.lst ((sgB ks sg l).map V.int ++ (blks (bitsK ks sg l)).map V.int)) = H11 at t10 er10 e110 e610 e710 has10 ⊢
    walk_at "st"
    refine m_iLe (.of er10) ?_
    refine comp_filterI (fun n => decide ((n / 2 ^ w) % 2 = ((0 : Nat) : Int))) (.of er10) (by rw [natL_len]; omega) (fun k n H1 Qb hk sk qb => ?_) (fun n H1 Q2 q2 => ?_) fun p13 H13 hp13 s13 e13 => ?_
    · walk_at "st"
      rw [Int.toNat_natCast]
      exact qb _ (Same.refl _)
    · walk_at "st"
      exact q2
    rw [natL_shr] at e13
    walk_at "st"
    refine m_iLe (.of (s13.get er10)) ?_
    refine comp_filterI (fun n => decide ((n / 2 ^ w) % 2 = ((1 : Nat) : Int))) (.of (s13.get er10)) (by rw [natL_len]; omega) (fun k n H1 Qb hk sk qb => ?_) (fun n H1 Q2 q2 => ?_) fun p14 H14 hp14 s14 e14 => ?_
    · walk_at "st"
      rw [Int.toNat_natCast]
      exact qb _ (Same.refl _)
    · walk_at "st"
      exact q2
    rw [natL_shr] at e14
    have hfl : ∀ b, ((rowsW (lvK ks) (ranks ks sg) l).filter fun r => decide (wb w r = b)).length ≤ 4096 := fun b => by have := List.length_filter_le (fun r => decide (wb w r = b)) (rowsW (lvK ks) (ranks ks sg) l); omega
    refine k_catI (s14.get e13) e14 (by rw [natL_len, natL_len]; have := hfl 0; have := hfl 1; omega) fun p15 H15 hp15 s15 e15 => ?_
    have s515 := s13.trans (s14.trans s15)
    refine ⟨p15, as ++ [pa9], _, _, _, _, _, _, hl2, t10.trans s515, s515.get e110, ?_, ?_, ?_, s515.get e610, by rw [List.length_append, hal]; rfl, fun i x e => s515.get (has10 i x e), s515.get e710, rfl⟩
    · rw [e15]
      have : natL ((rowsW (lvK ks) (ranks ks sg) l).filter fun r => decide (wb w r = 0)) ++ natL ((rowsW (lvK ks) (ranks ks sg) l).filter fun r => decide (wb w r = 1)) = natL (rowsW (lvK ks) (ranks ks sg) (l + 1)) := by
        unfold natL
        rw [← List.map_append, hw]; rfl
      rw [this]
    · exact (ne_of_none ((s13.trans s14).get e610) hp15).symm
    · exact (ne_of_none ((s13.trans s14).get e710) hp15).symm
  · subst es
    change as.length = lvK ks at hal
    change H2 p7 = some (.lst ((sgB ks sg (lvK ks)).map V.int)) at e7
    walk_at "st"
    refine k_lenL (.of (s.get hS)) ?_
    walk_at "st"
    rw [List.length_map]
    refine k_tupL (.of e1) fun pk hpk => ?_
    have s4 := same_new (o := .tup (ks.map V.int)) hpk
    have e4 := upd_same (H := H2) (a := pk) (o := .tup (ks.map V.int))
    replace e6 := s4.get e6
    replace e7 := s4.get e7
    replace has : ∀ i x, as[i]? = some x → (upd H2 pk (.tup (ks.map V.int))) x = some (.tup ((aheadT (bitsK ks sg i)).map V.int)) := fun i x e => s4.get (has i x e)
    generalize upd H2 pk (.tup (ks.map V.int)) = H4 at s4 e4 e6 e7 has ⊢
    walk_at "st"
    refine k_tupL (.of e6) fun pa hpa => ?_
    have s5 := s4.trans (same_new (o := .tup (as.map V.ref)) hpa)
    have f5 := upd_same (H := H4) (a := pa) (o := .tup (as.map V.ref))
    replace e4 := (same_new (o := .tup (as.map V.ref)) hpa).get e4
    replace e7 := (same_new (o := .tup (as.map V.ref)) hpa).get e7
    replace has : ∀ i x, as[i]? = some x → (upd H4 pa (.tup (as.map V.ref))) x = some (.tup ((aheadT (bitsK ks sg i)).map V.int)) := fun i x e => (same_new (o := .tup (as.map V.ref)) hpa).get (has i x e)
    generalize upd H4 pa (.tup (as.map V.ref)) = H5 at s5 f5 e4 e7 has ⊢
    walk_at "st"
    intro t ht
    have s6 := s5.trans (same_new (o := .tup [.int (sg.length : Int), .ref pk, .ref pa]) ht)
    have f6 := upd_same (H := H5) (a := t) (o := .tup [.int (sg.length : Int), .ref pk, .ref pa])
    replace e4 := (same_new (o := .tup [.int (sg.length : Int), .ref pk, .ref pa]) ht).get e4
    replace e7 := (same_new (o := .tup [.int (sg.length : Int), .ref pk, .ref pa]) ht).get e7
    replace f5 := (same_new (o := .tup [.int (sg.length : Int), .ref pk, .ref pa]) ht).get f5
    replace has : ∀ i x, as[i]? = some x → (upd H5 t (.tup [.int (sg.length : Int), .ref pk, .ref pa])) x = some (.tup ((aheadT (bitsK ks sg i)).map V.int)) := fun i x e => (same_new (o := .tup [.int (sg.length : Int), .ref pk, .ref pa]) ht).get (has i x e)
    generalize upd H5 t (.tup [.int (sg.length : Int), .ref pk, .ref pa]) = H6 at s6 f6 f5 e4 e7 has ⊢
    walk_at "st"
    intro p hp
    have s7 := same_new (o := .tup [.ref t, .ref p7]) hp
    have tt := s.trans (s6.trans s7)
    exact q ks p t pk pa p7 as _ hK ((s.trans s6).gone _ hp) hp7B tt upd_same (s7.get f6) (s7.get e4) (s7.get f5) hal (fun i x e => s7.get (has i x e)) (s7.get e7)

/-! ### octets -/
/-- the octets of n, so many -/
def octs (n : Int) (m : Nat) : List Int := (List.range m).map fun i => n / 256 ^ i % 256
/-- the number that octets write -/
def num : List Int → Int
  | [] => 0
  | o :: os => o + 256 * num os
def Octs (ns : List Int) : Prop := ∀ n ∈ ns, 0 ≤ n ∧ n < 256
theorem octs_len (n : Int) (m : Nat) : (octs n m).length = m := by unfold octs; rw [List.length_map, List.length_range]
theorem octs_oct (n : Int) (m : Nat) : Octs (octs n m) := by
  intro x hx
  obtain ⟨i, _, rfl⟩ := List.mem_map.mp hx
  omega
theorem octs_cons (n : Int) (m : Nat) : octs n (m + 1) = n % 256 :: octs (n / 256) m := by
  unfold octs
  rw [List.range_succ_eq_map, List.map_cons, List.map_map]
  congr 1
  · simp
  · apply List.map_congr_left
    intro i _
    show n / 256 ^ (i + 1) % 256 = n / 256 / 256 ^ i % 256
    rw [Int.ediv_ediv_of_nonneg (by decide), Int.pow_succ, Int.mul_comm]
theorem pow256 (m : Nat) : (256 : Int) ^ m = 2 ^ (8 * m) := by rw [Int.pow_mul]; rfl
theorem num_octs : ∀ (m : Nat) (n : Int), 0 ≤ n → n < 256 ^ m → num (octs n m) = n
  | 0, n, h0, h1 => by
    have : n = 0 := by simp at h1; omega
    subst this; rfl
  | m + 1, n, h0, h1 => by
    rw [octs_cons]
    show n % 256 + 256 * num (octs (n / 256) m) = n
    have e : (256 : Int) ^ (m + 1) = 256 ^ m * 256 := Int.pow_succ ..
    rw [num_octs m (n / 256) (by omega) (by rw [e] at h1; exact Int.ediv_lt_of_lt_mul (by decide) h1)]
    omega
theorem num_range : ∀ ns : List Int, Octs ns → 0 ≤ num ns ∧ num ns < 256 ^ ns.length
  | [], _ => ⟨Int.le_refl _, by show (0 : Int) < 256 ^ 0; decide⟩
  | o :: os, h => by
    obtain ⟨h1, h2⟩ := num_range os fun x hx => h x (List.mem_cons_of_mem _ hx)
    obtain ⟨h3, h4⟩ := h o List.mem_cons_self
    have e : (256 : Int) ^ (os.length + 1) = 256 ^ os.length * 256 := Int.pow_succ ..
    show 0 ≤ o + 256 * num os ∧ o + 256 * num os < 256 ^ (os.length + 1)
    omega
theorem num_snoc : ∀ (ns : List Int) (o : Int), num (ns ++ [o]) = num ns + o * 256 ^ ns.length
  | [], o => by show o + 256 * 0 = 0 + o * 256 ^ 0; simp
  | n :: ns, o => by
    show n + 256 * num (ns ++ [o]) = n + 256 * num ns + o * 256 ^ (ns.length + 1)
    rw [num_snoc ns o, Int.pow_succ, Int.mul_add, ← Int.mul_assoc 256 o, Int.mul_comm 256 o, Int.mul_assoc o, Int.mul_comm 256 (256 ^ ns.length), Int.add_assoc]
theorem octs_snoc (n : Int) (m : Nat) : octs n (m + 1) = octs n m ++ [n / 256 ^ m % 256] := by
  unfold octs; rw [List.range_succ, List.map_append]; rfl
theorem natAbs_lt_of {n : Int} {k : Nat} (h0 : 0 ≤ n) (h : n < 2 ^ k) : n.natAbs < 2 ^ k := by
  have e : ((n.natAbs : Nat) : Int) = n := Int.natAbs_of_nonneg h0
  have : ((n.natAbs : Nat) : Int) < ((2 ^ k : Nat) : Int) := by rw [e]; push_cast; exact h
  exact_mod_cast this

/-- octets_of(n, m): a new list -/
def sp_octets_of (_ : PySem.W.Frag) : Sp := fun vs H Q _ => ∃ (n : Int) (m : Nat), vs = [.int n, .int (m : Int)] ∧ m ≤ 1000 ∧ 0 ≤ n ∧ n < 2 ^ 4000 ∧
  ∀ p H', H p = none → Same H H' → H' p = some (.lst ((octs n m).map V.int)) → Q (.ref p) H'
theorem len_octets_of (K : PySem.W.Frag) : ∀ vs H Q E, sp_octets_of K vs H Q E → vs.length = 2 := by
  rintro vs H Q E ⟨x, y, rfl, _⟩; rfl
theorem divp256 {n : Int} (h0 : 0 ≤ n) (h : n < 2 ^ 4000) : CDivP n 256 := by
  refine divp_ok (by decide) ?_
  have e : Builtin.Int.intBits 256 = 9 := by decide
  rw [e]
  have := intBits_le (natAbs_lt_of h0 h)
  omega
def t_octets_of (K : PySem.W.Frag) : TS :=
  (tSeq (tAsg (tLst tNil) (gName 2))
  (tSeq (tWhile (tTest (tOp rLt (tCB (rLen K) (tCons (tVar 2) tNil)) (tVar 1)))
  (tSeq (tAsg (tCB rDivmod (tCons (tVar 0) (tCons (tC (.int 256)) tNil))) (gTup K 2 (gCons (gName 0) (gCons (gName 3) gNil))))
  (tDrop (tBM K "list" rAppend (tVar 2) (tCons (tVar 3) tNil)))))
  (tRet (tVar 2))))
abbrev n_octets_of : List Str := ["number", "many", "octets", "octet"]

theorem rd_octets_of (K : PySem.W.Frag) (vs : List V) (H : Hp) (Q : VK) (E : XK) (h : sp_octets_of K vs H Q E) : t_octets_of K { nx := fun _ H' => Q .non H', rt := Q } (start n_octets_of vs) H := by
  obtain ⟨n, m, rfl, hm, h0, h1, q⟩ := h
  unfold t_octets_of
  walk_at "st"
  intro p hp
  walk_at "st"
  refine loop_while (fun k σ H' => ∃ (i : Nat) (x : Option V), i + k = m ∧ σ = [some (.int (n / 256 ^ i)), some (.int (m : Int)), some (.ref p), x] ∧ Same H H' ∧ H' p = some (.lst ((octs n i).map V.int))) m ⟨0, none, by omega, ?_, same_new hp, ?_⟩ ?_
  · rw [show n / 256 ^ 0 = n by simp]; rfl
  · rw [upd_same]; rfl
  · rintro k σ H' ⟨i, x, ek, rfl, s, e⟩
    walk_at "st"
    refine k_lenL (.of e) ?_
    walk_at "st"
    rw [List.length_map, octs_len]
    walk_at "if" <;> intro c
    · have hi : i < m := by omega
      walk_at "st"
      have g0 : 0 ≤ n / 256 ^ i := Int.ediv_nonneg h0 (Int.pow_nonneg (by decide))
      have g1 : n / 256 ^ i < 2 ^ 4000 := Int.lt_of_le_of_lt (Int.ediv_le_self _ h0) h1
      refine k_divmod (divp256 g0 g1) fun t ht => ?_
      walk_at "st"
      refine m_gTup (.of upd_same) rfl ?_
      walk_at "st"
      have npt : p ≠ t := ne_of_none e ht
      have ep : (upd H' t (.tup [.int (n / 256 ^ i / 256), .int (n / 256 ^ i % 256)])) p = some (.lst ((octs n i).map V.int)) := by rw [upd_ne npt]; exact e
      refine k_tyL (.of ep) ?_
      walk_at "st"
      refine k_app ep ?_ ?_
      · rw [List.length_map, octs_len]; omega
      · walk_at "st"
        refine ⟨k - 1, by omega, i + 1, some (.int (n / 256 ^ i % 256)), by omega, ?_, Same.mut (s.trans (same_new ht)) hp, ?_⟩
        · rw [show n / 256 ^ (i + 1) = n / 256 ^ i / 256 by rw [Int.pow_succ, Int.ediv_ediv_of_nonneg (Int.pow_nonneg (by decide))]]; rfl
        · rw [upd_same, octs_snoc, List.map_append]; rfl
    · have hi : i = m := by omega
      subst hi
      walk_at "st"
      exact q p H' hp s e

/-- numbers as octets, so many each -/
def fldO (ns : List Int) (w : Nat) : List Int := (ns.map fun n => octs n w).flatten
theorem fldO_snoc (ns : List Int) (n : Int) (w : Nat) : fldO (ns ++ [n]) w = fldO ns w ++ octs n w := by
  unfold fldO; rw [List.map_append, List.flatten_append]; simp
theorem fldO_len (ns : List Int) (w : Nat) : (fldO ns w).length = ns.length * w := by
  induction ns with
  | nil => simp [fldO]
  | cons n ns ih =>
    show (octs n w ++ fldO ns w).length = (ns.length + 1) * w
    rw [List.length_append, ih, octs_len, Nat.succ_mul]; omega
/-- fields_of(numbers, wide) -/
def sp_fields_of (K : PySem.W.Frag) : Sp := fun vs H Q _ => ∃ (a : Addr) (ns : List Int) (w : Nat), vs = [.ref a, .int (w : Int)] ∧ (SqL K H a (ns.map V.int) ∨ SqT K H a (ns.map V.int)) ∧ w ≤ 30 ∧ ns.length ≤ 5000 ∧ (∀ n ∈ ns, 0 ≤ n ∧ n < 2 ^ 4000) ∧ ∀ p H', H p = none → Same H H' → H' p = some (.lst ((fldO ns w).map V.int)) → Q (.ref p) H'
theorem len_fields_of (K : PySem.W.Frag) : ∀ vs H Q E, sp_fields_of K vs H Q E → vs.length = 2 := by
  rintro vs H Q E ⟨x, y, z, rfl, _⟩; rfl
def t_fields_of (K : PySem.W.Frag) : TS :=
  (tSeq (tAsg (tLst tNil) (gName 2))
  (tSeq (tFor (iSeq K (tVar 0)) (gName 3)
  (tDrop (tBM K "list" rExtend (tVar 2) (tCons (tCall (sp_octets_of K) [] E0 (tCons (tVar 3) (tCons (tVar 1) tNil))) tNil))))
  (tRet (tVar 2))))
abbrev n_fields_of : List Str := ["numbers", "wide", "octets", "number"]

theorem rd_fields_of (K : PySem.W.Frag) (vs : List V) (H : Hp) (Q : VK) (E : XK) (h : sp_fields_of K vs H Q E) : t_fields_of K { nx := fun _ H' => Q .non H', rt := Q } (start n_fields_of vs) H := by
  obtain ⟨a, ns, w, rfl, hS, hw, hl, hr, q⟩ := h
  unfold t_fields_of
  walk_at "st"
  intro p hp
  have s0 := same_new (o := .lst []) hp
  have e0 := upd_same (H := H) (a := p) (o := .lst [])
  generalize upd H p (.lst []) = H1 at s0 e0 ⊢
  have step : ∀ (i : Nat) (x : V) (σ' : L2.St) (H2 : Hp), (ns.map V.int)[i]? = some x → (∃ y, Same H H2 ∧ H2 p = some (.lst ((fldO (ns.take i) w).map V.int)) ∧ σ' = [some (.ref a), some (.int (w : Int)), some (.ref p), y]) → ∃ n, x = V.int n ∧ ns[i]? = some n ∧ i < ns.length ∧ 0 ≤ n ∧ n < 2 ^ 4000 := fun i x σ' H2 hx _ => by
    obtain ⟨n, hn, rfl⟩ := of_mapint hx
    exact ⟨n, rfl, hn, (List.getElem?_eq_some_iff.mp hn).1, hr n (List.mem_of_getElem? hn)⟩
  walk_at "st"
  rcases hS with hS | hS
  · refine m_seqL ?_
    walk_at "st"
    refine m_iLe (s0.seq hS) ?_
    refine loop_list (xs := ns.map V.int) (fun i σ' H2 => ∃ y, Same H H2 ∧ H2 p = some (.lst ((fldO (ns.take i) w).map V.int)) ∧ σ' = [some (.ref a), some (.int (w : Int)), some (.ref p), y]) ⟨none, s0, e0, rfl⟩ (fun i σ' H2 _ ⟨_, s, _⟩ => s.seq hS) (fun i x σ' H2 hx hP => ?_) (fun σ' H2 ⟨_, s, e, es⟩ => ?_)
    · obtain ⟨n, rfl, hn, hi, n0, n1⟩ := step i x σ' H2 hx hP
      obtain ⟨y, s, e, rfl⟩ := hP
      walk_at "st"
      refine k_tyL (.of e) ?_
      walk_at "st"
      refine ⟨n, w, rfl, by omega, n0, n1, fun p3 H3 hp3 s3 e3 => ?_⟩
      walk_at "st"
      refine k_extend (s3.get e) e3 (by rw [List.length_map, List.length_map, fldO_len, octs_len, List.length_take]; have := Nat.mul_le_mul (show min i ns.length ≤ 5000 by omega) hw; omega) ?_
      walk_at "st"
      exact ⟨_, Same.mut (s.trans s3) hp ⟨_, s3.get e⟩, by rw [upd_same, List.take_add_one, hn]; show _ = some (HO.lst ((fldO (ns.take i ++ [n]) w).map V.int)); rw [fldO_snoc, List.map_append], rfl⟩
    · subst es
      walk_at "st"
      rw [List.length_map, List.take_length] at e
      exact q p H2 hp s e
  · refine m_seqT ?_
    walk_at "st"
    refine m_iTe (s0.seqT hS) ?_
    refine loop_tup (xs := ns.map V.int) (fun i σ' H2 => ∃ y, Same H H2 ∧ H2 p = some (.lst ((fldO (ns.take i) w).map V.int)) ∧ σ' = [some (.ref a), some (.int (w : Int)), some (.ref p), y]) ⟨none, s0, e0, rfl⟩ (fun i σ' H2 _ ⟨_, s, _⟩ => s.seqT hS) (fun i x σ' H2 hx hP => ?_) (fun σ' H2 ⟨_, s, e, es⟩ => ?_)
    · obtain ⟨n, rfl, hn, hi, n0, n1⟩ := step i x σ' H2 hx hP
      obtain ⟨y, s, e, rfl⟩ := hP
      walk_at "st"
      refine k_tyL (.of e) ?_
      walk_at "st"
      refine ⟨n, w, rfl, by omega, n0, n1, fun p3 H3 hp3 s3 e3 => ?_⟩
      walk_at "st"
      refine k_extend (s3.get e) e3 (by rw [List.length_map, List.length_map, fldO_len, octs_len, List.length_take]; have := Nat.mul_le_mul (show min i ns.length ≤ 5000 by omega) hw; omega) ?_
      walk_at "st"
      exact ⟨_, Same.mut (s.trans s3) hp ⟨_, s3.get e⟩, by rw [upd_same, List.take_add_one, hn]; show _ = some (HO.lst ((fldO (ns.take i ++ [n]) w).map V.int)); rw [fldO_snoc, List.map_append], rfl⟩
    · subst es
      walk_at "st"
      rw [List.length_map, List.take_length] at e
      exact q p H2 hp s e

/-- blocks_for(many) -/
def sp_blocks_for (_ : PySem.W.Frag) : Sp := fun vs H Q _ => ∃ m : Int, vs = [.int m] ∧ Q (.int ((m + 31) / 32)) H
theorem len_blocks_for (K : PySem.W.Frag) : ∀ vs H Q E, sp_blocks_for K vs H Q E → vs.length = 1 := by
  rintro vs H Q E ⟨x, rfl, _⟩; rfl
def t_blocks_for (K : PySem.W.Frag) : TS :=
  (tRet (tOp rDiv (tOp rMinus (tOp rPlus (tVar 0) (tC (.int 32))) (tC (.int 1))) (tC (.int 32))))
abbrev n_blocks_for : List Str := ["many"]

theorem rd_blocks_for (K : PySem.W.Frag) (vs : List V) (H : Hp) (Q : VK) (E : XK) (h : sp_blocks_for K vs H Q E) : t_blocks_for K { nx := fun _ H' => Q .non H', rt := Q } (start n_blocks_for vs) H := by
  obtain ⟨m, rfl, q⟩ := h
  unfold t_blocks_for
  walk_at "st"
  rw [show m + 32 - 1 = m + 31 by omega]
  walk_at "st"
  exact q

theorem big_of {n m : Int} (h0 : 0 ≤ n) (h : n < 4294967296) : 0 ≤ n ∧ n < 2 ^ 4000 := ⟨h0, Int.lt_of_lt_of_le h (by decide +kernel)⟩
theorem blks_big {bs : List Int} (h : Bits bs) : ∀ n ∈ blks bs, 0 ≤ n ∧ n < 2 ^ 4000 := fun n hn => by
  obtain ⟨j, hj⟩ := List.mem_iff_getElem?.mp hn
  obtain ⟨h1, h2⟩ := blks_range h hj
  exact big_of (m := 0) h1 h2
theorem ahead_big {bs : List Int} (h : Bits bs) (hl : bs.length ≤ 4096) : ∀ n ∈ aheadT bs, 0 ≤ n ∧ n < 2 ^ 4000 := fun n hn => by
  obtain ⟨j, hj⟩ := List.mem_iff_getElem?.mp hn
  have hlt := (List.getElem?_eq_some_iff.mp hj).1
  rw [aheadT_len] at hlt
  rw [aheadT_get bs (by omega)] at hj
  have e : sumTo bs (32 * j) = n := Option.some.inj hj
  obtain ⟨h1, h2⟩ := sumTo_range h (32 * j)
  exact big_of (m := 0) (by omega) (by omega)

/-- over a tuple of ints, no test -/
theorem comp_tupI {K : PySem.W.Frag} {σ : L2.St} {H : Hp} {Q : VK} {a : Addr} {ns : List Int} {te : TE} {j : Nat} (f : Int → Int) (hl : SqT K H a (ns.map V.int)) (hn : ns.length ≤ 100000)
    (he : ∀ (n : Int) (H2 : Hp) (Q2 : VK), n ∈ ns → Same H H2 → Q2 (.int (f n)) H2 → te ((wipe σ [j]).set j (some (.int n))) H2 Q2)
    (q : ∀ p H', H p = none → Same H H' → H' p = some (.lst ((ns.map f).map V.int)) → Q (.ref p) H') (hw : ∀ x, wipe ((wipe σ [j]).set j (some x)) [j] = wipe σ [j] := by intro _; rfl) : CompOk (Itt K a) (gName j) tYes te [j] σ H Q := by
  refine comp_walkV (f := fun k => (ns[k]?).map fun n => V.int (f n)) (walk_tup (K := K) (xs := ns.map V.int)) (by rw [List.length_map]; exact hn) (fun H' s => s.seqT hl) (fun k x H1 H2 Qb hk s hy qb => ?_) (fun p H' hp s e => q p H' hp s ?_) hw
  · obtain ⟨rfl, ex⟩ := hy
    obtain ⟨n, en, rfl⟩ := of_mapint ex
    refine k_yes (qb true _ (Same.refl _) (fun _ Q2 H4 s4 => ⟨.int (f n), by rw [en]; rfl, fun q2 => he n H4 Q2 (List.mem_of_getElem? en) (s.trans s4) (q2 _ (Same.refl _))⟩) (fun z => by cases z))
  · rw [e, List.length_map]
    congr 2
    apply List.ext_getElem?
    intro i
    rw [List.getElem?_map, List.getElem?_map]
    have : (List.range ns.length).filterMap (fun k => (ns[k]?).map fun n => V.int (f n)) = (ns.map fun n => V.int (f n)) := by
      have : ∀ (zs : List Int) (m : Nat), zs.length = m → (List.range m).filterMap (fun k => (zs[k]?).map fun n => V.int (f n)) = zs.map fun n => V.int (f n) := by
        intro zs
        induction zs with
        | nil => intro m hm; subst hm; rfl
        | cons z zs ih =>
          intro m hm
          subst hm
          rw [List.length_cons, List.range_succ_eq_map, List.filterMap_cons]
          show V.int (f z) :: _ = _
          rw [List.filterMap_map, List.map_cons, ← ih _ rfl]
          rfl
      exact this ns _ rfl
    rw [this, List.getElem?_map, Option.map_map]
    rfl
/-- the octets of a level; of the first m levels -/
def lvO (bs : List Int) : List Int := fldO (blks bs) 4 ++ fldO (aheadT bs) 2
def lvsO (ks sg : List Int) : Nat → List Int
  | 0 => []
  | m + 1 => lvsO ks sg m ++ lvO (bitsK ks sg m)
theorem lvO_len (bs : List Int) : (lvO bs).length = 6 * ((bs.length + 31) / 32) + 2 := by
  unfold lvO
  rw [List.length_append, fldO_len, fldO_len, blks_len, aheadT_len]; omega
theorem lvsO_len (ks sg : List Int) : ∀ m, (lvsO ks sg m).length = m * (6 * eachB sg + 2)
  | 0 => by simp [lvsO]
  | m + 1 => by
    unfold lvsO
    rw [List.length_append, lvsO_len ks sg m, lvO_len, bitsK_len, Nat.add_mul m 1, Nat.one_mul]; rfl
/-- a kind, greater by 10 ** 60 -/
def upF (x : Int) : Int := x + 1000000000000000000000000000000000000000000000000000000000000
/-- a row of signs as octets -/
def signsO (ks sg : List Int) : List Int := 3 :: (fldO [(sg.length : Int), (ks.length : Int)] 2 ++ fldO (ks.map upF) 26 ++ lvsO ks sg (lvK ks))
theorem upF_big {x : Int} (h : ¬ FarS x) : 0 ≤ upF x ∧ upF x < 2 ^ 4000 := by
  unfold FarS at h
  unfold upF
  have h2 : (2000000000000000000000000000000000000000000000000000000000000 : Int) < 2 ^ 4000 := by decide +kernel
  exact ⟨by omega, Int.lt_of_lt_of_le (show _ < (2000000000000000000000000000000000000000000000000000000000000 : Int) by omega) (Int.le_of_lt h2)⟩
theorem sgB_cut (ks sg : List Int) {l m : Nat} (h : l < m) : ((sgB ks sg m).take (eachB sg * l + eachB sg)).drop (eachB sg * l) = blks (bitsK ks sg l) := by
  apply List.ext_getElem?
  intro k
  rw [List.getElem?_drop, List.getElem?_take]
  have hb := bitsK_blks ks sg l
  split
  · rename_i z
    have hk : k < eachB sg := by omega
    rw [Nat.mul_comm]
    exact sgB_get ks sg h hk
  · rename_i z
    rw [List.getElem?_eq_none (by omega)]
/-- signs_laid(tables, blocks) -/
def sp_signs_laid (K : PySem.W.Frag) : Sp := fun vs H Q _ => ∃ (t pb pk pa : Addr) (ks sg : List Int) (as : List Addr), vs = [.ref t, .ref pb] ∧ IsK ks sg ∧ sg.length ≤ 4096 ∧ (∀ x ∈ sg, ¬ FarS x) ∧ H t = some (.tup [.int (sg.length : Int), .ref pk, .ref pa]) ∧ H pk = some (.tup (ks.map V.int)) ∧ H pa = some (.tup (as.map V.ref)) ∧ as.length = lvK ks ∧ (∀ l x, as[l]? = some x → H x = some (.tup ((aheadT (bitsK ks sg l)).map V.int))) ∧ SqL K H pb ((sgB ks sg (lvK ks)).map V.int) ∧
  ∀ p H', H p = none → Same H H' → H' p = some (.lst ((signsO ks sg).map V.int)) → Q (.ref p) H'
theorem len_signs_laid (K : PySem.W.Frag) : ∀ vs H Q E, sp_signs_laid K vs H Q E → vs.length = 2 := by
  rintro vs H Q E ⟨x, y, _, _, _, _, _, rfl, _⟩; rfl
def t_signs_laid (K : PySem.W.Frag) : TS :=
  (tSeq (tAsg (tVar 0) (gTup K 3 (gCons (gName 2) (gCons (gName 3) (gCons (gName 4) gNil)))))
  (tSeq (tAsg (tCall (sp_blocks_for K) [] E0 (tCons (tVar 2) tNil)) (gName 5))
  (tSeq (tAsg (tOp rCat (tOp rCat (tLst (tCons (tC (.int 3)) tNil)) (tCall (sp_fields_of K) [] E0 (tCons (tTup (tCons (tVar 2) (tCons (tCB (rLen K) (tCons (tVar 3) tNil)) tNil))) (tCons (tC (.int 2)) tNil)))) (tCall (sp_fields_of K) [] E0 (tCons (tLc (iTup K (tVar 3)) (gName 7) tYes (tOp rPlus (tVar 7) (tC (.int 1000000000000000000000000000000000000000000000000000000000000))) [7]) (tCons (tC (.int 26)) tNil)))) (gName 6))
  (tSeq (tFor (iEnumT K (tCons (tVar 4) tNil)) (gTup K 2 (gCons (gName 8) (gCons (gName 9) gNil)))
  (tAug 6 (tOp rCat (tCall (sp_fields_of K) [] E0 (tCons (tSl (rSlL K) (tVar 1) (tPart (tOp rTimes (tVar 5) (tVar 8))) (tPart (tOp rPlus (tOp rTimes (tVar 5) (tVar 8)) (tVar 5)))) (tCons (tC (.int 4)) tNil))) (tCall (sp_fields_of K) [] E0 (tCons (tVar 9) (tCons (tC (.int 2)) tNil)))) rExt2))
  (tRet (tVar 6))))))
abbrev n_signs_laid : List Str := ["tables", "blocks", "many", "kinds", "aheads", "each", "octets", "kind", "level", "ahead"]

theorem rd_signs_laid (K : PySem.W.Frag) (vs : List V) (H : Hp) (Q : VK) (E : XK) (h : sp_signs_laid K vs H Q E) : t_signs_laid K { nx := fun _ H' => Q .non H', rt := Q } (start n_signs_laid vs) H := by
  obtain ⟨t, pb, pk, pa, ks, sg, as, rfl, hK, hl, hf, ht, hk, ha, hal, has, hb, q⟩ := h
  have hkl := nodup_len hK
  have hlv := lvK_le hK hl
  unfold t_signs_laid
  walk_at "st"
  refine m_gTup (.of ht) rfl ?_
  walk_at "st"
  refine ⟨_, rfl, ?_⟩
  rw [show ((sg.length : Int) + 31) / 32 = ((eachB sg : Nat) : Int) by unfold eachB; omega]
  walk_at "st"
  intro p1 hp1
  have s1 := same_new (o := .lst [.int 3]) hp1
  have e1 := upd_same (H := H) (a := p1) (o := .lst [.int 3])
  generalize upd H p1 (.lst [.int 3]) = H1 at s1 e1 ⊢
  walk_at "st"
  refine k_lenT (.of (s1.get hk)) ?_
  walk_at "st"
  rw [List.length_map]
  intro p2 hp2
  have s2 := s1.trans (same_new (o := .tup [.int (sg.length : Int), .int (ks.length : Int)]) hp2)
  have e12 := (same_new (o := .tup [.int (sg.length : Int), .int (ks.length : Int)]) hp2).get e1
  have e2 := upd_same (H := H1) (a := p2) (o := .tup [.int (sg.length : Int), .int (ks.length : Int)])
  generalize upd H1 p2 (.tup [.int (sg.length : Int), .int (ks.length : Int)]) = H2 at s2 e12 e2 ⊢
  walk_at "st"
  refine ⟨p2, [(sg.length : Int), (ks.length : Int)], 2, rfl, .inr (.of e2), by decide, by simp, fun n hn => ?_, fun p3 H3 hp3 s3 e3 => ?_⟩
  · rcases List.mem_cons.mp hn with z | z
    · rw [z]; exact big_of (m := 0) (by omega) (by omega)
    · rw [List.mem_singleton.mp z]; exact big_of (m := 0) (by omega) (by omega)
  have hl2 : (fldO [(sg.length : Int), (ks.length : Int)] 2).length = 4 := fldO_len _ _
  walk_at "st"
  refine k_catI (xs := [3]) (s3.get e12) e3 (by rw [hl2]; decide) fun p4 H4 hp4 s4 e4 => ?_
  have t4 := s2.trans (s3.trans s4)
  walk_at "st"
  refine m_iTe (.of (t4.get hk)) ?_
  refine comp_tupI upF (.of (t4.get hk)) (by omega) (fun n H5 Q2 hn s5 q2 => ?_) fun p5 H5 hp5 s5 e5 => ?_
  · walk_at "st"
    exact q2
  walk_at "st"
  refine ⟨p5, ks.map upF, 26, rfl, .inl (.of e5), by decide, by rw [List.length_map]; omega, fun n hn => ?_, fun p6 H6 hp6 s6 e6 => ?_⟩
  · obtain ⟨x, hx, rfl⟩ := List.mem_map.mp hn
    exact upF_big (hf x ((hK.mem x).mp hx))
  have hl6 := fldO_len (ks.map upF) 26
  rw [List.length_map] at hl6
  refine k_catI ((s5.trans s6).get e4) e6 (by rw [List.length_append, hl2, hl6, List.length_singleton]; omega) fun p7 H7 hp7 s7 e7 => ?_
  have t7 := t4.trans ((s5.trans s6).trans s7)
  have hp7H := (t4.trans (s5.trans s6)).gone _ hp7
  clear s3 e3 s4 e4 s5 e5 s6 e6 s7 s1 e1 s2 e12 e2
  walk_at "st"
  obtain ⟨Z, hZ⟩ : ∃ Z, Z = [3] ++ fldO [(sg.length : Int), (ks.length : Int)] 2 ++ fldO (ks.map upF) 26 := ⟨_, rfl⟩
  have hZl : Z.length ≤ 106501 := by rw [hZ, List.length_append, List.length_append, hl2, hl6, List.length_singleton]; omega
  rw [← hZ] at e7
  refine m_enumT ?_
  walk_at "st"
  refine m_enumTE (.of (t7.get ha)) ?_
  refine loop_walk walk_enumT (fun i σ H2 => ∃ (v8 v9 : Option V), σ = [some (.ref t), some (.ref pb), some (.int (sg.length : Int)), some (.ref pk), some (.ref pa), some (.int (eachB sg : Nat)), some (.ref p7), none, v8, v9] ∧ i ≤ lvK ks ∧ Same H H2 ∧ H2 p7 = some (.lst ((Z ++ lvsO ks sg i).map V.int))) ⟨none, none, rfl, Nat.zero_le _, t7, by rw [e7]; simp [lvsO]⟩ (fun i σ H2 ⟨_, _, _, _, s, _⟩ => .of (s.get ha)) ?_ ?_
  · rintro i v σ H3 H4 hi ⟨v8, v9, rfl, _, s, e⟩ ⟨T, x, w, rfl, hT, rfl, ex, ew⟩
    rw [List.length_map] at hi
    obtain rfl : x = .int (i : Nat) := (Option.some.inj ex).symm
    dsimp only at ew
    rw [List.getElem?_map] at ew
    obtain ⟨ai, hai, rfl⟩ := Option.map_eq_some_iff.mp ew
    have sT := same_new (o := .tup [.int (i : Nat), .ref ai]) hT
    have eT := upd_same (H := H3) (a := T) (o := .tup [.int (i : Nat), .ref ai])
    generalize upd H3 T (.tup [.int (i : Nat), .ref ai]) = H5 at sT eT ⊢
    refine m_gTup (.of eT) rfl ?_
    have s5 := s.trans sT
    have hi2 : i < lvK ks := by omega
    have heb : eachB sg ≤ 128 := by unfold eachB; omega
    have hmul : i * (6 * eachB sg + 2) ≤ 12 * 770 := Nat.mul_le_mul (by omega) (by omega)
    walk_at "st"
    refine k_slL (s5.seq hb) fun p8 hp8 => ?_
    rw [show ((eachB sg : Nat) : Int) * (i : Int) = ((eachB sg * i : Nat) : Int) by push_cast; rfl, show ((eachB sg * i : Nat) : Int) + ((eachB sg : Nat) : Int) = ((eachB sg * i + eachB sg : Nat) : Int) by push_cast; rfl, cutPart, ← List.map_take, ← List.map_drop, sgB_cut ks sg hi2]
    have s8 := same_new (o := .lst ((blks (bitsK ks sg i)).map V.int)) hp8
    have e8 := upd_same (H := H5) (a := p8) (o := .lst ((blks (bitsK ks sg i)).map V.int))
    generalize upd H5 p8 (.lst ((blks (bitsK ks sg i)).map V.int)) = H8 at s8 e8 ⊢
    walk_at "st"
    have hBl := bitsK_len ks sg i
    have hBb := bitsK_bits ks sg i
    refine ⟨p8, blks (bitsK ks sg i), 4, rfl, .inl (.of e8), by decide, by rw [blks_len]; omega, blks_big hBb, fun p9 H9 hp9 s9 e9 => ?_⟩
    walk_at "st"
    refine ⟨ai, aheadT (bitsK ks sg i), 2, rfl, .inr (.of (s9.get (s8.get (s5.get (has i ai hai))))), by decide, by rw [aheadT_len]; omega, ahead_big hBb (by omega), fun p10 H10 hp10 s10 e10 => ?_⟩
    have l9 := fldO_len (blks (bitsK ks sg i)) 4
    have l10 := fldO_len (aheadT (bitsK ks sg i)) 2
    rw [blks_len] at l9
    rw [aheadT_len] at l10
    refine k_catI (s10.get e9) e10 (by omega) fun p11 H11 hp11 s11 e11 => ?_
    have sz := sT.trans (s8.trans (s9.trans (s10.trans s11)))
    refine k_ext2 (sz.get e) e11 (by rw [List.length_map, List.length_map, List.length_append, List.length_append, lvsO_len]; omega) ?_
    walk_at "st"
    refine ⟨_, _, rfl, hi2, (s.trans sz).mut hp7H ⟨_, sz.get e⟩, ?_⟩
    rw [upd_same, ← List.map_append, List.append_assoc]; rfl
  · rintro σ H3 ⟨v8, v9, rfl, _, s, e⟩
    rw [List.length_map, hal] at e
    walk_at "st"
    refine q p7 H3 hp7H s ?_
    rw [e, hZ]; unfold signsO; simp only [List.cons_append, List.nil_append, List.append_assoc]
/-- signs_octets(signs) -/
def sp_signs_octets (K : PySem.W.Frag) : Sp := fun vs H Q E => ∃ (a : Addr) (sg U : List Int), vs = [.ref a] ∧ H a = some (.lst (sg.map V.int)) ∧ sg.length ≤ 100000 ∧
  (sg.length > 4096 → E (.ref (He.ga K "TooMany")) none H) ∧
  (sg.length ≤ 4096 → (∃ x ∈ sg, FarS x) → E (.ref (He.ga K "NoSign")) none H) ∧
  (sg.length ≤ 4096 → (∀ x ∈ sg, ¬ FarS x) → U.length ≤ 4090 ∧ (∀ x ∈ sg, x ∈ U) ∧ ∀ (ks : List Int) (p : Addr) H', IsK ks sg → H p = none → Same H H' → H' p = some (.lst ((signsO ks sg).map V.int)) → Q (.ref p) H')
theorem len_signs_octets (K : PySem.W.Frag) : ∀ vs H Q E, sp_signs_octets K vs H Q E → vs.length = 1 := by
  rintro vs H Q E ⟨x, y, _, rfl, _⟩; rfl
def t_signs_octets (K : PySem.W.Frag) (E : XK) : TS :=
  (tSeq (tAsg (tCall (sp_kept_signs K) [] E (tCons (tVar 0) tNil)) (gTup K 2 (gCons (gName 1) (gCons (gName 2) gNil))))
  (tRet (tCall (sp_signs_laid K) [] E0 (tCons (tVar 1) (tCons (tVar 2) tNil)))))
abbrev n_signs_octets : List Str := ["signs", "tables", "blocks"]

theorem rd_signs_octets (K : PySem.W.Frag) (vs : List V) (H : Hp) (Q : VK) (E : XK) (h : sp_signs_octets K vs H Q E) : t_signs_octets K E { nx := fun _ H' => Q .non H', rt := Q } (start n_signs_octets vs) H := by
  obtain ⟨a, sg, U, rfl, hS, hl0, q1, q2, q3⟩ := h
  unfold t_signs_octets
  walk_at "st"
  refine ⟨a, sg, U, rfl, hS, hl0, q1, q2, fun hl hf => ?_⟩
  obtain ⟨h1, h2, q⟩ := q3 hl hf
  refine ⟨h1, h2, fun ks p t pk pa pb as H1 hK hp hpb s1 ep et ek ea hal has eb => ?_⟩
  walk_at "st"
  refine m_gTup (.of ep) rfl ?_
  walk_at "st"
  refine ⟨t, pb, pk, pa, ks, sg, as, rfl, hK, hl, hf, et, ek, ea, hal, has, .of eb, fun p2 H2 hp2 s2 e2 => ?_⟩
  exact q ks p2 H2 hK (s1.gone _ hp2) (s1.trans s2) e2

theorem fm_some {α β : Type} (f : α → β) : ∀ l : List α, l.filterMap (fun x => some (f x)) = l.map f
  | [] => rfl
  | x :: l => by
    show f x :: l.filterMap (fun x => some (f x)) = f x :: l.map f
    rw [fm_some f l]
theorem cut_two {α : Type} {L : List α} {n : Nat} {x y : α} (h1 : L[n]? = some x) (h2 : L[n + 1]? = some y) : (L.take (n + 2)).drop n = [x, y] := by
  obtain ⟨l1, e1⟩ := List.getElem?_eq_some_iff.mp h1
  obtain ⟨l2, e2⟩ := List.getElem?_eq_some_iff.mp h2
  rw [List.drop_take, show n + 2 - n = 2 by omega, List.drop_eq_getElem_cons l1, List.drop_eq_getElem_cons l2, e1, e2]; rfl

/-- number_of(octets) -/
def sp_number_of (K : PySem.W.Frag) : Sp := fun vs H Q _ => ∃ (a : Addr) (ns : List Int), vs = [.ref a] ∧ SqL K H a (ns.map V.int) ∧ ns.length ≤ 100000 ∧ Octs ns ∧ Q (.int (num ns)) H
theorem len_number_of (K : PySem.W.Frag) : ∀ vs H Q E, sp_number_of K vs H Q E → vs.length = 1 := by
  rintro vs H Q E ⟨x, y, rfl, _⟩; rfl
def t_number_of (K : PySem.W.Frag) : TS :=
  (tSeq (tAsg (tC (.int 0)) (gName 1))
  (tSeq (tFor (iRev K (tCons (tVar 0) tNil)) (gName 2)
  (tAsg (tOp rBitOr (tOp rShlW (tVar 1) (tC (.int 8))) (tVar 2)) (gName 1)))
  (tRet (tVar 1))))
abbrev n_number_of : List Str := ["octets", "number", "octet"]

theorem rd_number_of (K : PySem.W.Frag) (vs : List V) (H : Hp) (Q : VK) (E : XK) (h : sp_number_of K vs H Q E) : t_number_of K { nx := fun _ H' => Q .non H', rt := Q } (start n_number_of vs) H := by
  obtain ⟨a, ns, rfl, hS, hl, ho, q⟩ := h
  unfold t_number_of
  walk_at "st"
  refine m_revE hS ?_
  refine loop_walk walk_rev (fun i σ H' => ∃ y, σ = [some (.ref a), some (.int (num (ns.drop (ns.length - i)))), y] ∧ H' = H) ⟨none, ?_, rfl⟩ (fun i σ H' ⟨_, _, e⟩ => e ▸ hS) ?_ ?_
  · rw [Nat.sub_zero, List.drop_length]; rfl
  · rintro i x σ H' H'' hi ⟨y, rfl, rfl⟩ ⟨rfl, hx⟩
    rw [List.length_map] at hi hx
    obtain ⟨n, hn, rfl⟩ := of_mapint hx
    have hlt : ns.length - 1 - i < ns.length := by omega
    have hdrop : ns.drop (ns.length - (i + 1)) = n :: ns.drop (ns.length - i) := by
      rw [show ns.length - (i + 1) = ns.length - 1 - i by omega, List.drop_eq_getElem_cons hlt, show ns.length - 1 - i + 1 = ns.length - i by omega]
      rw [List.getElem?_eq_getElem hlt] at hn
      rw [Option.some.inj hn]
    have hsub : Octs (ns.drop (ns.length - i)) := fun z hz => ho z (List.mem_of_mem_drop hz)
    obtain ⟨r0, r1⟩ := num_range _ hsub
    have hb : 0 ≤ n ∧ n < 256 := ho n (List.mem_of_getElem? hn)
    have hc : CShl (num (ns.drop (ns.length - i))) 8 := by
      refine shl_ok (j := 8) (n := 8 * (ns.drop (ns.length - i)).length) (natAbs_lt_of r0 ?_) ?_
      · rw [← pow256]; exact r1
      · rw [List.length_drop]; omega
    walk_at "st"
    refine ⟨some (.int n), ?_, rfl⟩
    rw [hdrop]
    have e : Builtin.bitOr (num (ns.drop (ns.length - i)) * 2 ^ (8 : Int).toNat) n = num (n :: ns.drop (ns.length - i)) := by
      rw [show (8 : Int).toNat = 8 from rfl, or_low r0 hb.1 (by omega)]
      show _ = n + 256 * num (ns.drop (ns.length - i))
      omega
    rw [← e]; rfl
  · rintro σ H' ⟨y, rfl, rfl⟩
    rw [List.length_map, Nat.sub_self, List.drop_zero]
    walk_at "st"
    exact q

/-- the numbers that octets write, so many octets each -/
def numsO (os : List Int) (w n : Nat) : List Int := (List.range n).map fun i => num ((os.drop (w * i)).take w)
theorem numsO_len (os : List Int) (w n : Nat) : (numsO os w n).length = n := by unfold numsO; rw [List.length_map, List.length_range]
theorem numsO_succ (os : List Int) (w n : Nat) : numsO os w (n + 1) = num (os.take w) :: numsO (os.drop w) w n := by
  unfold numsO
  rw [List.range_succ_eq_map, List.map_cons, List.map_map]
  congr 1
  refine List.map_congr_left fun i _ => ?_
  show num ((os.drop (w * (i + 1))).take w) = _
  rw [List.drop_drop, Nat.mul_succ, Nat.add_comm]
theorem rgC_w {w n : Nat} (hw : w = 2 ∨ w = 4 ∨ w = 26) (hn : n ≤ 10000) : RgC 0 ((w * n : Nat) : Int) w n := by
  have e : Builtin.Range.rangeSize 0 ((w * n : Nat) : Int) w = (n : Int) := by
    rw [PyProof.Rows.rangeSize_pos (by omega) (by omega)]
    rcases hw with rfl | rfl | rfl <;> omega
  have hp : ((w * n : Nat) : Int) < 1000000 := by rcases hw with rfl | rfl | rfl <;> omega
  refine ⟨by omega, by omega, ?_, e⟩
  unfold Builtin.Range.small
  rw [e]
  have f : ∀ i : Int, 0 ≤ i → i < 1000000 → Builtin.Range.rangeFitsLong i = true := fun i h0 h1 => by
    unfold Builtin.Range.rangeFitsLong
    rw [Bool.and_eq_true]
    exact ⟨decide_eq_true (by omega), decide_eq_true (by omega)⟩
  have hw0 : (0 : Int) < w := by omega
  rw [f 0 (by decide) (by decide), f _ (by omega) hp, f w (by omega) (by omega), f _ (by omega) (by omega), if_pos hw0, f _ (by omega) (by rcases hw with rfl | rfl | rfl <;> omega)]
  simp
/-- numbers_of(octets, wide) -/
def sp_numbers_of (K : PySem.W.Frag) : Sp := fun vs H Q _ => ∃ (a : Addr) (os : List Int) (w n : Nat), vs = [.ref a, .int (w : Int)] ∧ SqL K H a (os.map V.int) ∧ (w = 2 ∨ w = 4 ∨ w = 26) ∧ os.length = w * n ∧ n ≤ 5000 ∧ Octs os ∧ ∀ p H', H p = none → Same H H' → H' p = some (.lst ((numsO os w n).map V.int)) → Q (.ref p) H'
theorem len_numbers_of (K : PySem.W.Frag) : ∀ vs H Q E, sp_numbers_of K vs H Q E → vs.length = 2 := by
  rintro vs H Q E ⟨x, y, z, _, rfl, _⟩; rfl
def t_numbers_of (K : PySem.W.Frag) : TS :=
  (tRet (tLc (iRng3 (tCons (tC (.int 0)) (tCons (tCB (rLen K) (tCons (tVar 0) tNil)) (tCons (tVar 1) tNil)))) (gName 2) tYes (tCall (sp_number_of K) [] E0 (tCons (tSl (rSlL K) (tVar 0) (tPart (tVar 2)) (tPart (tOp rPlus (tVar 2) (tVar 1)))) tNil)) [2]))
abbrev n_numbers_of : List Str := ["octets", "wide", "at"]

theorem rd_numbers_of (K : PySem.W.Frag) (vs : List V) (H : Hp) (Q : VK) (E : XK) (h : sp_numbers_of K vs H Q E) : t_numbers_of K { nx := fun _ H' => Q .non H', rt := Q } (start n_numbers_of vs) H := by
  obtain ⟨a, os, w, n, rfl, hS, hw, hl, hn, ho, q⟩ := h
  unfold t_numbers_of
  walk_at "st"
  refine k_lenL hS ?_
  walk_at "st"
  rw [List.length_map, hl]
  refine m_rng3e (rgC_w hw (by omega)) ?_
  refine comp_walkV (f := fun k => some (V.int (num ((os.drop (w * k)).take w)))) walk_rangeC (by omega) (fun _ _ => trivial) (fun k x H2 H3 Qb hk s2 hy qb => ?_) (fun pl H2 hpl s2 e2 => ?_)
  · obtain ⟨rfl, rfl⟩ := hy
    refine k_yes ?_
    refine qb true _ (Same.refl _) (fun _ Q2 H4 s4 => ⟨_, rfl, fun q2 => ?_⟩) (fun z => nomatch z)
    dsimp only
    rw [show (0 : Int) + (k : Int) * (w : Int) = ((w * k : Nat) : Int) by rw [Int.zero_add, Int.mul_comm, Int.natCast_mul]]
    walk_at "st"
    refine k_slL ((s2.trans s4).seq hS) fun p1 hp1 => ?_
    rw [show ((w * k : Nat) : Int) + (w : Int) = ((w * k + w : Nat) : Int) from rfl, cutPart, ← List.map_take, ← List.map_drop, show (os.take (w * k + w)).drop (w * k) = (os.drop (w * k)).take w by rw [List.drop_take]; congr 1; omega]
    have hsub : Octs ((os.drop (w * k)).take w) := fun z hz => ho z (List.mem_of_mem_drop (List.mem_of_mem_take hz))
    have hll : ((os.drop (w * k)).take w).length ≤ 26 := by rw [List.length_take]; omega
    refine ⟨p1, _, rfl, .of upd_same, by omega, hsub, ?_⟩
    exact q2 _ (same_new hp1)
  rw [fm_some] at e2
  refine q pl H2 hpl s2 ?_
  rw [e2]; unfold numsO; rw [List.map_map]; rfl

/-- the first m bits of blocks -/
def unp (bl : List Int) (m : Nat) : List Int := (List.range m).map fun i => bit (bl.getD (i / 32) 0) (i % 32)
theorem unp_len (bl : List Int) (m : Nat) : (unp bl m).length = m := by unfold unp; simp
theorem unp_get (bl : List Int) {m i : Nat} (h : i < m) : (unp bl m)[i]? = some (bit (bl.getD (i / 32) 0) (i % 32)) := by unfold unp; simp [h]
theorem unp_bits (bl : List Int) (m : Nat) : Bits (unp bl m) := by
  intro x hx
  obtain ⟨i, _, rfl⟩ := List.mem_map.mp hx
  exact bit_cases _ _
/-- unpacked(blocks, many) -/
def sp_unpacked (K : PySem.W.Frag) : Sp := fun vs H Q E => ∃ (a : Addr) (bl : List Int) (m : Int), vs = [.ref a, .int m] ∧ SqL K H a (bl.map V.int) ∧ bl.length ≤ 3000 ∧
  ((m < 0 ∨ m > 32 * bl.length) → E (.ref (He.ga K "NoPlace")) none H) ∧
  (0 ≤ m → m ≤ 32 * bl.length → ∀ p H', H p = none → Same H H' → H' p = some (.lst ((unp bl m.toNat).map V.int)) → Q (.ref p) H')
theorem len_unpacked (K : PySem.W.Frag) : ∀ vs H Q E, sp_unpacked K vs H Q E → vs.length = 2 := by
  rintro vs H Q E ⟨x, y, z, rfl, _⟩; rfl
def t_unpacked (K : PySem.W.Frag) (E : XK) : TS :=
  (tSeq (tIfS (tOr (tTest (tOp rLt (tVar 1) (tC (.int 0)))) (tTest (tOp rGtI (tVar 1) (tOp rTimes (tC (.int 32)) (tCB (rLen K) (tCons (tVar 0) tNil))))))
  (tRz (fun cls d _ H => E cls d H) (He.ga K "NoPlace"))
  tNext)
  (tRet (tLc (iRng1 (tCons (tVar 1) tNil)) (gName 2) tYes (tOp rAnd1 (tOp rShr (tOp (rIxL K) (tVar 0) (tOp rDiv (tVar 2) (tC (.int 32)))) (tOp rMod (tVar 2) (tC (.int 32)))) (tC (.int 1))) [2])))
abbrev n_unpacked : List Str := ["blocks", "many", "at"]

theorem rd_unpacked (K : PySem.W.Frag) (vs : List V) (H : Hp) (Q : VK) (E : XK) (h : sp_unpacked K vs H Q E) : t_unpacked K E { nx := fun _ H' => Q .non H', rt := Q } (start n_unpacked vs) H := by
  obtain ⟨a, bl, m, rfl, hS, hl, q1, q2⟩ := h
  unfold t_unpacked
  walk_at "st"
  walk_at "if" <;> intro c1
  · walk_at "st"
    walk_at "st"
    exact q1 (.inl c1)
  · walk_at "st"
    refine k_lenL hS ?_
    walk_at "st"
    rw [List.length_map]
    walk_at "if" <;> intro c2
    · walk_at "st"
      exact q1 (.inr c2)
    · walk_at "st"
      have hm : 0 ≤ m := by omega
      have hm2 : m ≤ 32 * bl.length := by omega
      refine comp_rangeV (n := m.toNat) (f := fun i => .int (bit (bl.getD (i / 32) 0) (i % 32))) (by omega) (fun k H2 Q2 hk s2 qq => ?_) (fun p H' hp s e => ?_)
      · walk_at "st"
        have hlt : k / 32 < bl.length := by omega
        refine k_ixL (s2.seq hS) (at_int (by omega) (i := (k : Int) / 32) (x := .int (bl.getD (k / 32) 0)) ?_) ?_
        · rw [show ((k : Int) / 32).toNat = k / 32 by omega, List.getD_eq_getElem?_getD, List.getElem?_eq_getElem hlt]
          exact mapint (List.getElem?_eq_getElem hlt)
        walk_at "st"
        have e : (k : Int) % 32 = ((k % 32 : Nat) : Int) := by omega
        rw [e]
        exact qq _ (Same.refl _)
      · walk_at "st"
        refine q2 hm hm2 p H' hp s ?_
        rw [e]; unfold unp; rw [List.map_map]; rfl

theorem unp_blks {bs : List Int} (hB : Bits bs) : unp (blks bs) bs.length = bs := by
  apply List.ext_getElem?
  intro i
  rcases Nat.lt_or_ge i bs.length with hi | hi
  · have hj : i / 32 < (bs.length + 31) / 32 := by omega
    rw [unp_get _ hi, List.getD_eq_getElem?_getD, blks_get _ _ hj, List.getElem?_eq_getElem hi]
    have := bit_blks hB (blks_get bs _ hj) (show i % 32 < 32 by omega)
    rw [show 32 * (i / 32) + i % 32 = i by omega, List.getD_eq_getElem?_getD, List.getElem?_eq_getElem hi] at this
    rw [Option.getD_some, this]; rfl
  · rw [List.getElem?_eq_none (by rw [unp_len]; exact hi), List.getElem?_eq_none hi]

section
variable {prog : Program} {w : World} {A : Around} {R : Result → Shared → Prop} {I B : Addr} {fp wr : List Addr} {n : Nat} {P : Nat → Value → Prop} {T : Nat → Heap → Prop} {dn : Str} {dv : Value}
theorem mxd_name : (toString "max" ++ toString ".loop" : String) = "max.loop" := by decide
theorem mxd_loop (W : Walks prog w A.in1 I fp wr n P T) (bt : Nat → Nat → Bool) (cmp : CmpOf prog w A.in1 .Gt P bt) (nB : B ∉ fp) : ∀ (m j : Nat) (s : Shared) (x : Value) (c : Nat), n - (j + 1) = m → j + 1 ≤ n → T (j + 1) s.heap → P (argBest bt j) x →
    s.heap.get? B = some { cls := .type "list", dict := none, data := .seq #[x, x] c, slots := #[] } → (∀ v h' tk, P (argBest bt (n - 1)) v → (∀ b o, b ∉ wr → b ≠ B → s.heap.get? b = some o → h'.get? b = some o) → R (.ok (.ret v)) { s with heap := h', toks := tk }) →
    codeAny (model prog w) A (.builtin "max.loop" ⟨[.ref I, .none, .ref B], [(dn, dv)]⟩) R s := by
  have nw : B ∉ wr := fun h => nB (W.sub _ h)
  intro m
  induction m with
  | zero =>
    intro j s x c hm hj hT hP hB q
    have ej : j + 1 = n := by omega
    refine codeAny_builtin F.entry_max_loop (?_ : wpAny _ _ _ _ _ _); rw [Around.under_plainId F.plain_max_loop _]
    refine wpAny_bind (wpAny_seqItems hB rfl (?_ : wpAny _ A.in1 (tryCatch (pyNext (.ref I)) _ >>= _) _ _ s))
    refine wpAny_bind (wpAny_tryCatch (W.done s _ _ (ej ▸ hT) fun h1 tk old => ?_)); have hB1 := old B _ nw hB
    show wpAny _ A.in1 (updateSeq B (fun _ => #[]) >>= _) _ _ _; refine wpAny_bind ?_
    refine wpAny_updateSeq hB1 rfl (wpAny_bind (wpAny_letGo (wpAny_pure (?_ : R _ _))))
    exact q x _ tk (by rw [← ej]; exact hP) fun b o n1 n2 e => (Heap.get?_update_other _ _ (Ne.symm n2)).trans (old b o n1 e)
  | succ m ih =>
    intro j s x c hm hj hT hP hB q
    have lj : j + 1 < n := by omega
    refine codeAny_builtin F.entry_max_loop (?_ : wpAny _ _ _ _ _ _); rw [Around.under_plainId F.plain_max_loop _]
    refine wpAny_bind (wpAny_seqItems hB rfl (?_ : wpAny _ A.in1 (tryCatch (pyNext (.ref I)) _ >>= _) _ _ s))
    refine wpAny_bind (wpAny_tryCatch (W.item (j + 1) s _ _ lj hT fun v h1 tk hv hT1 old => ?_)); have hB1 := old B _ nw hB
    show wpAny _ A.in1 (tryCatch (holding [v, v] (richCompare .Gt v x >>= _)) _ >>= _) _ _ _; refine wpAny_bind (wpAny_tryCatch (wpAny_holding (wpAny_bind (cmp (j + 1) (argBest bt j) v x _ _ _ hv hP ?_))))
    refine wpAny_bind (wpAny_holding (wpAny_truthy_bool (wpAny_bind (wpAny_letGo (wpAny_pure ?_)))))
    cases eb : bt (j + 1) (argBest bt j) with
    | true =>
      simp only [if_true]; refine wpAny_bind ?_; refine wpAny_updateSeq hB1 rfl (wpAny_bind (wpAny_letGo ?_))
      rw [mxd_name]
      refine wpAny_pure ⟨plainId_quiet F.plain_max_loop _, ih (j + 1) _ v _ (by omega) lj (W.frame _ _ _ hT1 fun b hb o e => ?_) (by simp only [argBest, eb, if_true]; exact hv) (Heap.get?_update_self _ hB1 rfl) fun v2 h2 tk2 hv2 old2 => ?_⟩
      · exact (Heap.get?_update_other _ _ (fun z : B = b => nB (by rw [z]; exact hb))).trans e
      · exact q v2 h2 tk2 hv2 fun b o n1 n2 e => old2 b o n1 n2 ((Heap.get?_update_other _ _ (Ne.symm n2)).trans (old b o n1 e))
    | false =>
      simp only [Bool.false_eq_true, if_false]; refine wpAny_bind (wpAny_letGo ?_)
      rw [mxd_name]
      refine wpAny_pure ⟨plainId_quiet F.plain_max_loop _, ih (j + 1) _ x c (by omega) lj hT1 (by simp only [argBest, eb, Bool.false_eq_true, if_false]; exact hP) hB1 fun v2 h2 tk2 hv2 old2 => ?_⟩
      exact q v2 h2 tk2 hv2 fun b o n1 n2 e => old2 b o n1 n2 (old b o n1 e)
theorem mxd_first (W : Walks prog w A.in1 I fp wr n P T) (bt : Nat → Nat → Bool) (cmp : CmpOf prog w A.in1 .Gt P bt) (nB : B ∉ fp) {s : Shared} {c : Nat} (hT : T 0 s.heap) (hB : s.heap.get? B = some { cls := .type "list", dict := none, data := .seq #[] c, slots := #[] })
    (q0 : n = 0 → ∀ h' tk, (∀ b o, b ∉ wr → b ≠ B → s.heap.get? b = some o → h'.get? b = some o) → R (.ok (.ret dv)) { s with heap := h', toks := tk })
    (q : 0 < n → ∀ v h' tk, P (argBest bt (n - 1)) v → (∀ b o, b ∉ wr → b ≠ B → s.heap.get? b = some o → h'.get? b = some o) → R (.ok (.ret v)) { s with heap := h', toks := tk }) : codeAny (model prog w) A (.builtin "max.loop" ⟨[.ref I, .none, .ref B], [(dn, dv)]⟩) R s := by
  have nw : B ∉ wr := fun h => nB (W.sub _ h)
  refine codeAny_builtin F.entry_max_loop (?_ : wpAny _ _ _ _ _ _); rw [Around.under_plainId F.plain_max_loop _]
  refine wpAny_bind (wpAny_seqItems hB rfl (?_ : wpAny _ A.in1 (tryCatch (pyNext (.ref I)) _ >>= _) _ _ s))
  rcases Nat.eq_zero_or_pos n with h0 | h0
  · subst h0
    refine wpAny_bind (wpAny_tryCatch (W.done s _ _ hT fun h1 tk old => ?_))
    refine wpAny_bind (wpAny_rule (wpAny_pure (?_ : R _ _)))
    exact q0 rfl _ _ fun b o n1 _ e => old b o n1 e
  · refine wpAny_bind (wpAny_tryCatch (W.item 0 s _ _ h0 hT fun v h1 tk hv hT1 old => ?_)); have hB1 := old B _ nw hB
    show wpAny _ A.in1 (updateSeq B (fun _ => #[v, v]) >>= _) _ _ _; refine wpAny_bind ?_; refine wpAny_updateSeq hB1 rfl ?_
    rw [mxd_name]
    refine wpAny_pure ⟨plainId_quiet F.plain_max_loop _, mxd_loop W bt cmp nB _ 0 _ v _ rfl h0 (W.frame _ _ _ hT1 fun b hb o e => ?_) hv (Heap.get?_update_self _ hB1 rfl) fun v2 h2 tk2 hv2 old2 => ?_⟩
    · exact (Heap.get?_update_other _ _ (fun z : B = b => nB (by rw [z]; exact hb))).trans e
    · exact q h0 v2 h2 tk2 hv2 fun b o n1 n2 e => old2 b o n1 n2 ((Heap.get?_update_other _ _ (Ne.symm n2)).trans (old b o n1 e))
end
theorem mxd_args (a v : Value) : argsOk "max" ⟨[a], [(Str.ofString "default", v)]⟩ := by unfold argsOk; kernel_rfl
theorem mxd_walk {prog : Program} {w : World} {A : Around} {E : Value → Shared → Prop} {s : Shared} {x dv : Value} {Q : Value → Shared → Prop}
    (h : wpAny (model prog w) A.in1 (pyIter x) (fun it s₂ => ∃ I fp wr n P T bt, it = .ref I ∧ Walks prog w A.in1 I fp wr n P T ∧ T 0 s₂.heap ∧ (∀ b ∈ fp, b < s₂.heap.objs.size) ∧ CmpOf prog w A.in1 .Gt P bt ∧
      (n = 0 → ∀ h' tk, (∀ b o, b ∉ wr → s₂.heap.get? b = some o → h'.get? b = some o) → Q dv { s₂ with heap := h', toks := tk }) ∧
      (0 < n → ∀ v h' tk, P (argBest bt (n - 1)) v → (∀ b o, b ∉ wr → s₂.heap.get? b = some o → h'.get? b = some o) → Q v { s₂ with heap := h', toks := tk })) E s) :
    wpAny (model prog w) A (call (.builtin "max") [x] [(Str.ofString "default", dv)]) Q E s := by
  refine PyProof.Rows.kmk_tree F.kind_max F.plain_max F.entry_max (mxd_args x dv) ?_
  show wpAny _ A.in1 (Builtin.Builtins.bindParams "max" ["key", "default"] 0 ⟨[], [(Str.ofString "default", dv)]⟩ >>= _) _ _ s
  refine wpAny_bind (wpAny_of_eq (show Builtin.Builtins.bindParams "max" ["key", "default"] 0 ⟨[], [(Str.ofString "default", dv)]⟩ = pure [none, some dv] from rfl) (wpAny_bind (wpAny_pure ?_)))
  refine wpAny_bind (wpAny_mono h (fun it s2 ⟨I, fp, wr, n, P, T, bt, e, W, hT, hf, cmp, q0, q⟩ => ?_) fun _ _ e => e)
  subst e
  refine wpAny_bind (wpAny_newObj_type ?_)
  have nB : s2.heap.objs.size ∉ fp := fun z => Nat.lt_irrefl _ (hf _ z)
  rw [mxd_name]
  refine wpAny_pure ⟨plainId_quiet F.plain_max_loop _, mxd_first W bt cmp nB (W.frame _ _ _ hT fun b _ o e => Heap.get?_push_of_some _ e) (Heap.get?_push_size _ rfl) (fun h0 h' tk old => ?_) (fun h0 v h' tk hv old => ?_)⟩
  · exact q0 h0 h' tk fun b o n1 e => old b o n1 (Nat.ne_of_lt (Heap.lt_size e)) (Heap.get?_push_of_some _ e)
  · exact q h0 v h' tk hv fun b o n1 e => old b o n1 (Nat.ne_of_lt (Heap.lt_size e)) (Heap.get?_push_of_some _ e)
/-- max(xs, default=d) -/
def rMaxD (K : PySem.W.Frag) : List V → List V → Hp → VK → Prop := fun vs zs H Q => ∃ (a : Addr) (ns : List Int) (d : V), vs = [V.ref a] ∧ zs = [d] ∧ SqL K H a (ns.map V.int) ∧ (ns = [] → Q d H) ∧ (0 < ns.length → ∀ m, m ∈ ns → (∀ y, y ∈ ns → y ≤ m) → Q (.int m) H)
theorem cr_maxD {X : Cx} (hc : X.calm = true) : CallRK X (.builtin "max") [Str.ofString "default"] (rMaxD X.K) := by
  intro pins s σ H vs zs us ws Q I r rz h
  obtain ⟨a, ns, d, rfl, rfl, hs, q0, q⟩ := h
  obtain rfl := Vals.ref1 r
  obtain ⟨w1, rfl, e1⟩ := vals1 rz
  obtain ⟨its, rv, hl, _⟩ := I.list hs
  have hi := rv.ints
  obtain ⟨xs, e⟩ := hi.allInts.items
  have hn : numsOf (intItems xs).toList = ns := by rw [← e]; exact hi.numsOf
  rw [nums_intItems] at hn
  have hl2 := hl.isList
  rw [e] at hl2
  have hsz : xs.size = ns.length := by rw [← hn, List.length_map, Array.length_toList]
  show wpAny _ _ (call (.builtin "max") [.ref a] [(Str.ofString "default", w1)]) _ _ _
  refine mxd_walk (iter_intList hl2 fun s2 es st hfp hlI => ?_)
  subst es
  refine ⟨_, _, _, _, _, _, _, rfl, Walks.list (A := X.A.in1) (I.ok.hd hc) _ a hlI (intItems xs), st, hfp, CmpOf.ints_gt (numAt xs) (fun _ _ => intItems_at), fun h0 h' tk hk => ?_, fun h0 v h' tk hv hk => ?_⟩
  · have h1 : ns = [] := List.length_eq_zero_iff.mp (by rw [← hsz]; simpa [intItems] using h0)
    exact ⟨d, H, I.kept (old_kept hk), e1, q0 h1⟩
  · have h1 : 0 < xs.size := by simpa [intItems] using h0
    have hv2 : (intItems xs)[argBest (fun i j => decide (numAt xs i > numAt xs j)) (xs.size - 1)]? = some v := by simpa [intItems] using hv
    obtain ⟨t, rfl⟩ := intItems_at hv2
    obtain ⟨b1, b2⟩ := argBest_gt (numAt xs) (xs.size - 1)
    refine ⟨.int _, H, I.kept (old_kept hk), ⟨_, rfl⟩, q (by omega) _ ?_ fun y hy => ?_⟩
    · rw [numAt_eq, ← hn]; exact PySem.getD_mem (by rw [List.length_map, Array.length_toList]; omega)
    · rw [← hn] at hy
      obtain ⟨j, hj, rfl⟩ := mem_getD hy
      rw [List.length_map, Array.length_toList] at hj
      rw [← numAt_eq]; exact b2 j (by omega)
/-- its reading -/
def tMaxD (K : PySem.W.Frag) (t tk : TA) : TE := tCKw (rMaxD K) t tk
theorem m_maxD {K : PySem.W.Frag} {σ : L2.St} {H : Hp} {Q : VK} {t tk : TA} (h : t σ H fun vs H1 => tk σ H1 fun zs H2 => rMaxD K vs zs H2 Q) : tMaxD K t tk σ H Q := h
theorem k_maxD {K : PySem.W.Frag} {H : Hp} {Q : VK} {a : Addr} {ns : List Int} {d : V} (h : SqL K H a (ns.map V.int)) (q0 : ns = [] → Q d H) (q : 0 < ns.length → ∀ m, m ∈ ns → (∀ y, y ∈ ns → y ≤ m) → Q (.int m) H) : rMaxD K [.ref a] [d] H Q := ⟨a, ns, d, rfl, rfl, h, q0, q⟩
theorem k_maxDI {K : PySem.W.Frag} {H : Hp} {Q : VK} {a : Addr} {ns : List Int} {d : Int} (h : SqL K H a (ns.map V.int)) (q : ∀ g : Int, Q (.int g) H) : rMaxD K [.ref a] [.int d] H Q := k_maxD h (fun _ => q d) fun _ m _ _ => q m
theorem k_maxD1 {K : PySem.W.Frag} {H : Hp} {Q : VK} {a : Addr} {ns : List Int} {d : Int} (h : SqL K H a (ns.map V.int)) (q : ∀ M : Int, (∀ y, y ∈ ns → y ≤ M) → (M = d ∨ M ∈ ns) → Q (.int M) H) : rMaxD K [.ref a] [.int d] H Q := k_maxD h (fun z => q d (by rw [z]; intro y hy; cases hy) (.inl rfl)) fun _ m hm ha => q m ha (.inr hm)

/-- row_long(many) -/
def sp_row_long (_ : PySem.W.Frag) : Sp := fun vs H Q _ => ∃ m : Int, vs = [.int m] ∧ Q (.int (6 * ((m + 31) / 32) + 2)) H
theorem len_row_long (K : PySem.W.Frag) : ∀ vs H Q E, sp_row_long K vs H Q E → vs.length = 1 := by
  rintro vs H Q E ⟨x, rfl, _⟩; rfl
def t_row_long (K : PySem.W.Frag) : TS :=
  (tRet (tOp rPlus (tOp rTimes (tC (.int 6)) (tCall (sp_blocks_for K) [] E0 (tCons (tVar 0) tNil))) (tC (.int 2))))
abbrev n_row_long : List Str := ["many"]

theorem rd_row_long (K : PySem.W.Frag) (vs : List V) (H : Hp) (Q : VK) (E : XK) (h : sp_row_long K vs H Q E) : t_row_long K { nx := fun _ H' => Q .non H', rt := Q } (start n_row_long vs) H := by
  obtain ⟨m, rfl, q⟩ := h
  unfold t_row_long
  walk_at "st"
  refine ⟨m, rfl, ?_⟩
  walk_at "st"
  exact q

/-- same_again(octets, again) -/
def sp_same_again (K : PySem.W.Frag) : Sp := fun vs H Q E => ∃ (a b : Addr) (os rs : List Int), vs = [.ref a, .ref b] ∧ SqL K H a (os.map V.int) ∧ SqL K H b (rs.map V.int) ∧
  (os ≠ rs → E (.ref (He.ga K "NoOctets")) none H) ∧ (os = rs → Q .non H)
theorem len_same_again (K : PySem.W.Frag) : ∀ vs H Q E, sp_same_again K vs H Q E → vs.length = 2 := by
  rintro vs H Q E ⟨x, y, z, _, rfl, _⟩; rfl
def t_same_again (K : PySem.W.Frag) (E : XK) : TS :=
  (tIfS (tTest (tOp (rNeD K) (tVar 0) (tVar 1)))
  (tRz (fun cls d _ H => E cls d H) (He.ga K "NoOctets"))
  tNext)
abbrev n_same_again : List Str := ["octets", "again"]

theorem rd_same_again (K : PySem.W.Frag) (vs : List V) (H : Hp) (Q : VK) (E : XK) (h : sp_same_again K vs H Q E) : t_same_again K E { nx := fun _ H' => Q .non H', rt := Q } (start n_same_again vs) H := by
  obtain ⟨a, b, os, rs, rfl, hS, hR, q1, q2⟩ := h
  unfold t_same_again
  walk_at "st"
  refine k_neL hS hR ?_
  by_cases c : os = rs
  · rw [decide_eq_true c]
    walk_at "st"
    exact q2 c
  · rw [decide_eq_false c]
    walk_at "st"
    exact q1 c

theorem fm_con {α β : Type} {f : α → Option β} {g : α → β} : ∀ {l : List α}, (∀ i ∈ l, f i = some (g i)) → l.filterMap f = l.map g
  | [], _ => rfl
  | x :: l, h => by
    rw [List.filterMap_cons_some (h x List.mem_cons_self), List.map_cons, fm_con fun i hi => h i (List.mem_cons_of_mem _ hi)]
theorem fm_opt {α : Type} (os : List Int) (g : Int → α) : (List.range os.length).filterMap (fun i => os[i]?.map g) = os.map g := by
  rw [fm_con (g := fun i => g (os.getD i 0)) fun i hi => by
    rw [List.getD_eq_getElem?_getD, List.getElem?_eq_getElem (List.mem_range.mp hi)]; rfl]
  refine List.ext_getElem? fun i => ?_
  rcases Nat.lt_or_ge i os.length with hi | hi
  · rw [List.getElem?_map, List.getElem?_range hi, List.getElem?_map, List.getElem?_eq_getElem hi, Option.map_some, Option.map_some, List.getD_eq_getElem?_getD, List.getElem?_eq_getElem hi]; rfl
  · rw [List.getElem?_eq_none (by rw [List.length_map, List.length_range]; exact hi), List.getElem?_eq_none (by rw [List.length_map]; exact hi)]
/-- head_of(octets, kind, wide) -/
def sp_head_of (K : PySem.W.Frag) : Sp := fun vs H Q E => ∃ (a : Addr) (os : List Int) (k : Int) (w : Nat), vs = [.ref a, .int k, .int (w : Int)] ∧ SqL K H a (os.map V.int) ∧ 3 ≤ w ∧ w ≤ 100 ∧ os.length ≤ 100000 ∧
  (∀ H', Same H H' → (os.length < w ∨ ¬ Octs os ∨ os.getD 0 0 ≠ k ∨ 4096 < num ((os.take 3).drop 1)) → E (.ref (He.ga K "NoOctets")) none H') ∧
  (w ≤ os.length → Octs os → os.getD 0 0 = k → num ((os.take 3).drop 1) ≤ 4096 → ∀ p H', H p = none → Same H H' → H' p = some (.tup [.int (num ((os.take 3).drop 1)), .int (num ((os.take w).drop 3))]) → Q (.ref p) H')
theorem len_head_of (K : PySem.W.Frag) : ∀ vs H Q E, sp_head_of K vs H Q E → vs.length = 3 := by
  rintro vs H Q E ⟨x, y, z, _, rfl, _⟩; rfl
def t_head_of (K : PySem.W.Frag) (E : XK) : TS :=
  (tSeq (tIfS (tOr (tTest (tOp rLt (tCB (rLen K) (tCons (tVar 0) tNil)) (tVar 2))) (tOr (tNot (tB (tCB (rAll K) (tCons (tLc (iList K (tVar 0)) (gName 3) tYes (tChain rLe rLt (tC (.int 0)) (tVar 3) (tC (.int 256))) [3]) tNil)))) (tTest (tOp rNe (tOp (rIxL K) (tVar 0) (tC (.int 0))) (tVar 1)))))
  (tRz (fun cls d _ H => E cls d H) (He.ga K "NoOctets"))
  tNext)
  (tSeq (tAsg (tCall (sp_number_of K) [] E0 (tCons (tSl (rSlL K) (tVar 0) (tPart (tC (.int 1))) (tPart (tC (.int 3)))) tNil)) (gName 4))
  (tSeq (tIfS (tTest (tOp rGtI (tVar 4) (tC (.int 4096))))
  (tRz (fun cls d _ H => E cls d H) (He.ga K "NoOctets"))
  tNext)
  (tRet (tTup (tCons (tVar 4) (tCons (tCall (sp_number_of K) [] E0 (tCons (tSl (rSlL K) (tVar 0) (tPart (tC (.int 3))) (tPart (tVar 2))) tNil)) tNil)))))))
abbrev n_head_of : List Str := ["octets", "kind", "wide", "octet", "many"]

theorem rd_head_of (K : PySem.W.Frag) (vs : List V) (H : Hp) (Q : VK) (E : XK) (h : sp_head_of K vs H Q E) : t_head_of K E { nx := fun _ H' => Q .non H', rt := Q } (start n_head_of vs) H := by
  obtain ⟨a, os, k, w, rfl, hS, hw, hw2, hl, q1, q2⟩ := h
  unfold t_head_of
  walk_at "st"
  refine k_lenL hS ?_
  walk_at "st"
  rw [List.length_map]
  walk_at "if" <;> intro c1
  · walk_at "st"
    exact q1 H (Same.refl _) (.inl (by omega))
  walk_at "st"
  refine m_iLe hS ?_
  refine comp_walkV (f := fun i => os[i]?.map fun o => V.bl (decide (0 ≤ o ∧ o < 256))) (walk_list (K := K) (xs := os.map V.int)) (by rw [List.length_map]; omega) (fun H' s' => s'.seq hS) (fun i v Hb Hc Qb hk sk hy qb => ?_) (fun pm Hb hpm sb eb => ?_)
  · obtain ⟨rfl, ev⟩ := hy
    obtain ⟨o, ho, rfl⟩ := of_mapint ev
    refine k_yes ?_
    refine qb true _ (Same.refl _) (fun _ Q2 H4 s4 => ⟨_, by rw [ho]; rfl, fun q2 => ?_⟩) (fun z => nomatch z)
    walk_at "st"
    by_cases z0 : 0 ≤ o
    · rw [if_pos (decide_eq_true z0)]
      walk_at "st"
      by_cases z1 : o < 256
      · rw [decide_eq_true z1]
        have := q2 _ (Same.refl _)
        dsimp only at this
        rw [decide_eq_true (show 0 ≤ o ∧ o < 256 from ⟨z0, z1⟩)] at this
        exact this
      · rw [decide_eq_false z1]
        have := q2 _ (Same.refl _)
        dsimp only at this
        rw [decide_eq_false (show ¬ (0 ≤ o ∧ o < 256) from fun z => z1 z.2)] at this
        exact this
    · rw [if_neg (by simpa using z0)]
      have := q2 _ (Same.refl _)
      dsimp only at this
      rw [decide_eq_false (show ¬ (0 ≤ o ∧ o < 256) from fun z => z0 z.1)] at this
      exact this
  rw [List.length_map, fm_opt] at eb
  have eb : Hb pm = some (.lst ((os.map fun o => decide (0 ≤ o ∧ o < 256)).map V.bl)) := by rw [eb, List.map_map]; rfl
  have hall : (os.map fun o => decide (0 ≤ o ∧ o < 256)).all id = true ↔ Octs os := by
    rw [List.all_map, List.all_eq_true]
    exact ⟨fun h x hx => of_decide_eq_true (h x hx), fun h x hx => decide_eq_true (h x hx)⟩
  refine ⟨pm, _, rfl, .of eb, ?_⟩
  generalize (os.map fun o => decide (0 ≤ o ∧ o < 256)).all id = bb at hall ⊢
  cases bb with
  | false =>
    walk_at "st"
    exact q1 Hb sb (.inr (.inl fun z => by have := hall.mpr z; cases this))
  | true =>
    have ho : Octs os := hall.mp rfl
    walk_at "st"
    have h0 : 0 < os.length := by omega
    refine k_ixL (sb.seq hS) (at_int (i := 0) (by decide) (mapint (List.getElem?_eq_getElem h0))) ?_
    walk_at "st"
    have e0 : os.getD 0 0 = os[0] := by rw [List.getD_eq_getElem?_getD, List.getElem?_eq_getElem h0]; rfl
    walk_at "if" <;> intro c2
    · walk_at "st"
      exact q1 Hb sb (.inr (.inr (.inl (by rw [e0]; exact c2))))
    walk_at "st"
    refine k_slL (sb.seq hS) fun l1 hl1 => ?_
    rw [show (1 : Int) = ((1 : Nat) : Int) from rfl, show (3 : Int) = ((3 : Nat) : Int) from rfl, cutPart, ← List.map_take, ← List.map_drop]
    have o1 : Octs ((os.take 3).drop 1) := fun z hz => ho z (List.mem_of_mem_take (List.mem_of_mem_drop hz))
    have o2 : Octs ((os.take w).drop 3) := fun z hz => ho z (List.mem_of_mem_take (List.mem_of_mem_drop hz))
    have s1 := sb.trans (same_new (o := .lst (((os.take 3).drop 1).map V.int)) hl1)
    refine ⟨l1, _, rfl, .of upd_same, by rw [List.length_drop, List.length_take]; omega, o1, ?_⟩
    generalize upd Hb l1 (.lst (((os.take 3).drop 1).map V.int)) = H1 at s1 ⊢
    walk_at "st"
    walk_at "if" <;> intro c3
    · walk_at "st"
      exact q1 H1 s1 (.inr (.inr (.inr (by omega))))
    walk_at "st"
    refine k_slL (s1.seq hS) fun l2 hl2 => ?_
    rw [cutPart, ← List.map_take, ← List.map_drop]
    have s2 := s1.trans (same_new (o := .lst (((os.take w).drop 3).map V.int)) hl2)
    refine ⟨l2, _, rfl, .of upd_same, by rw [List.length_drop, List.length_take]; omega, o2, ?_⟩
    generalize upd H1 l2 (.lst (((os.take w).drop 3).map V.int)) = H2 at s2 ⊢
    walk_at "st"
    intro p hp
    exact q2 (by omega) ho (by rw [e0]; exact c2) (by omega) p _ (s2.gone _ hp) (s2.trans (same_new hp)) upd_same

--#base
theorem octs_append {a b : List Int} (h1 : Octs a) (h2 : Octs b) : Octs (a ++ b) := fun x hx => (List.mem_append.mp hx).elim (h1 x) (h2 x)
theorem fldO_oct (ns : List Int) (w : Nat) : Octs (fldO ns w) := fun x hx => by
  obtain ⟨l, hl, hx⟩ := List.mem_flatten.mp hx
  obtain ⟨n, _, rfl⟩ := List.mem_map.mp hl
  exact octs_oct n w x hx
theorem fldO_one (n : Int) (w : Nat) : fldO [n] w = octs n w := by unfold fldO; simp
theorem numsO_fldO (w : Nat) : ∀ ns : List Int, (∀ n ∈ ns, 0 ≤ n ∧ n < 256 ^ w) → numsO (fldO ns w) w ns.length = ns
  | [], _ => rfl
  | n :: ns, h => by
    obtain ⟨h1, h2⟩ := h n List.mem_cons_self
    have e : fldO (n :: ns) w = octs n w ++ fldO ns w := by unfold fldO; rw [List.map_cons, List.flatten_cons]
    have el := octs_len n w
    rw [List.length_cons, numsO_succ, e]
    have e1 : (octs n w ++ fldO ns w).take w = octs n w := by
      rw [List.take_append_of_le_length (by rw [el]; exact Nat.le_refl _), List.take_of_length_le (by rw [el]; exact Nat.le_refl _)]
    have e2 : (octs n w ++ fldO ns w).drop w = fldO ns w := by
      rw [List.drop_append_of_le_length (by rw [el]; exact Nat.le_refl _), List.drop_of_length_le (by rw [el]; exact Nat.le_refl _), List.nil_append]
    rw [e1, e2, num_octs w n h1 h2, numsO_fldO w ns fun x hx => h x (List.mem_cons_of_mem _ hx)]
theorem blks_lt {bs : List Int} (hB : Bits bs) : ∀ n ∈ blks bs, 0 ≤ n ∧ n < 256 ^ 4 := fun n hn => by
  obtain ⟨j, hj⟩ := List.mem_iff_getElem?.mp hn
  obtain ⟨h1, h2⟩ := blks_range hB hj
  exact ⟨h1, h2⟩
/-- some octets: a kind, a row's number of bits, its blocks, and more -/
def lay (k : Int) (bs T : List Int) : List Int := k :: (octs (bs.length : Int) 2 ++ (fldO (blks bs) 4 ++ T))
theorem lay_len (k : Int) (bs T : List Int) : (lay k bs T).length = 3 + 4 * ((bs.length + 31) / 32) + T.length := by
  unfold lay
  rw [List.length_cons, List.length_append, List.length_append, fldO_len, blks_len, octs_len]; omega
theorem lay_oct {k : Int} {bs T : List Int} (hk : 0 ≤ k ∧ k < 256) (hT : Octs T) : Octs (lay k bs T) := fun x hx => by
  unfold lay at hx
  rcases List.mem_cons.mp hx with rfl | hx
  · exact hk
  · exact octs_append (octs_oct _ _) (octs_append (fldO_oct _ _) hT) x hx
theorem lay_many {k : Int} {bs T : List Int} (h : bs.length ≤ 4096) : num (((lay k bs T).take 3).drop 1) = (bs.length : Int) := by
  unfold lay
  rw [List.take_succ_cons, List.drop_succ_cons, List.drop_zero, List.take_append_of_le_length (by rw [octs_len]; exact Nat.le_refl _), List.take_of_length_le (by rw [octs_len]; exact Nat.le_refl _)]
  exact num_octs 2 _ (by omega) (by show ((bs.length : Nat) : Int) < 256 ^ 2; omega)
theorem lay_mid (k : Int) (bs T : List Int) : ((lay k bs T).take (3 + 4 * ((bs.length + 31) / 32))).drop 3 = fldO (blks bs) 4 := by
  have l1 : (k :: octs (bs.length : Int) 2).length = 3 := by rw [List.length_cons, octs_len]
  have l2 : (fldO (blks bs) 4).length = 4 * ((bs.length + 31) / 32) := by rw [fldO_len, blks_len, Nat.mul_comm]
  rw [show lay k bs T = (k :: octs (bs.length : Int) 2) ++ (fldO (blks bs) 4 ++ T) from rfl]
  rw [← l1, List.take_length_add_append, List.drop_left, ← l2, List.take_left]
/-- the octets tell the bits -/
theorem lay_bits {k : Int} {bs T : List Int} (hB : Bits bs) : unp (numsO (((lay k bs T).take (3 + 4 * ((bs.length + 31) / 32))).drop 3) 4 ((bs.length + 31) / 32)) bs.length = bs := by
  have e := numsO_fldO 4 (blks bs) (blks_lt hB)
  rw [blks_len] at e
  rw [lay_mid, e, unp_blks hB]

/-! a row of signs as octets, by any numbers of its kinds -/
def lvsR (L : Nat) (row : List Nat) : Nat → List Int
  | 0 => []
  | m + 1 => lvsR L row m ++ lvO (bitsW L row m)
theorem lvsR_len (L : Nat) (row : List Nat) : ∀ m, (lvsR L row m).length = m * (6 * ((row.length + 31) / 32) + 2)
  | 0 => by simp [lvsR]
  | m + 1 => by
    unfold lvsR
    rw [List.length_append, lvsR_len L row m, lvO_len, bitsW_len, Nat.add_mul m 1, Nat.one_mul]
def laidO (ks : List Int) (row : List Nat) : List Int := 3 :: (fldO [(row.length : Int), (ks.length : Int)] 2 ++ fldO (ks.map upF) 26 ++ lvsR (hOf ks.length) row (hOf ks.length))
theorem lvsR_K (ks sg : List Int) : ∀ m, lvsR (lvK ks) (ranks ks sg) m = lvsO ks sg m
  | 0 => rfl
  | m + 1 => by unfold lvsR lvsO; rw [lvsR_K ks sg m]; rfl
theorem laidO_K (ks sg : List Int) : laidO ks (ranks ks sg) = signsO ks sg := by
  unfold laidO signsO
  rw [ranks_len, ← lvsR_K]; rfl

/-! a row of signs as octets, and back -/
theorem lvO_oct (bs : List Int) : Octs (lvO bs) := octs_append (fldO_oct _ _) (fldO_oct _ _)
theorem lvsR_oct (L : Nat) (row : List Nat) : ∀ m, Octs (lvsR L row m)
  | 0 => fun x hx => by cases hx
  | m + 1 => octs_append (lvsR_oct L row m) (lvO_oct _)
theorem lvsR_split (L : Nat) (row : List Nat) {l : Nat} : ∀ {m}, l < m → ∃ T, lvsR L row m = lvsR L row l ++ (lvO (bitsW L row l) ++ T)
  | 0, h => absurd h (Nat.not_lt_zero _)
  | m + 1, h => by
    rcases Nat.lt_or_ge l m with z | z
    · obtain ⟨T, e⟩ := lvsR_split L row (m := m) z
      exact ⟨T ++ lvO (bitsW L row m), by show lvsR L row m ++ _ = _; rw [e]; simp only [List.append_assoc]⟩
    · obtain rfl : l = m := by omega
      exact ⟨[], by rw [List.append_nil]; rfl⟩
/-- the bits of a level, as they are read -/
def bitsR (os : List Int) (m l : Nat) : List Int := unp (numsO ((os.take ((6 * ((m + 31) / 32) + 2) * l + 4 * ((m + 31) / 32))).drop ((6 * ((m + 31) / 32) + 2) * l)) 4 ((m + 31) / 32)) m
theorem bitsR_len (os : List Int) (m l : Nat) : (bitsR os m l).length = m := unp_len _ _
theorem bitsR_bits (os : List Int) (m l : Nat) : Bits (bitsR os m l) := unp_bits _ _
theorem bitsR_good {L l : Nat} (row : List Nat) (h : l < L) : bitsR (lvsR L row L) row.length l = bitsW L row l := by
  obtain ⟨T, e⟩ := lvsR_split L row h
  have l1 : (lvsR L row l).length = (6 * ((row.length + 31) / 32) + 2) * l := by rw [lvsR_len, Nat.mul_comm]
  have l2 : (fldO (blks (bitsW L row l)) 4).length = 4 * ((row.length + 31) / 32) := by rw [fldO_len, blks_len, bitsW_len, Nat.mul_comm]
  have e3 : lvsR L row L = lvsR L row l ++ (fldO (blks (bitsW L row l)) 4 ++ (fldO (aheadT (bitsW L row l)) 2 ++ T)) := by rw [e]; unfold lvO; simp only [List.append_assoc]
  have e4 := numsO_fldO 4 (blks (bitsW L row l)) (blks_lt (bitsW_bits L row l))
  rw [blks_len, bitsW_len] at e4
  have e5 := unp_blks (bitsW_bits L row l)
  rw [bitsW_len] at e5
  unfold bitsR
  rw [e3, ← l1, ← l2, List.take_length_add_append, List.drop_left, List.take_left, e4, e5]
/-- ranks one level farther -/
def upR (rs : List Int) (prs : List (Nat × Int)) : List Int := prs.foldl (fun rs x => rs.set x.1 (2 * rs.getD x.1 0 + x.2)) rs
theorem upR_len : ∀ (prs : List (Nat × Int)) (rs : List Int), (upR rs prs).length = rs.length
  | [], _ => rfl
  | x :: t, rs => by
    show (upR (rs.set x.1 _) t).length = _
    rw [upR_len t, List.length_set]
theorem upR_nn : ∀ (prs : List (Nat × Int)) (rs : List Int), (∀ x ∈ prs, 0 ≤ x.2) → (∀ r ∈ rs, 0 ≤ r) → ∀ r ∈ upR rs prs, 0 ≤ r
  | [], _, _, h => h
  | x :: t, rs, hb, h => by
    refine upR_nn t _ (fun y hy => hb y (List.mem_cons_of_mem _ hy)) fun r hr => ?_
    rcases List.mem_or_eq_of_mem_set hr with z | z
    · exact h r z
    · have h1 := hb x List.mem_cons_self
      have h2 : 0 ≤ rs.getD x.1 0 := by
        rw [List.getD_eq_getElem?_getD]
        cases e : rs[x.1]? with
        | none => exact Int.le_refl _
        | some y => exact h y (List.mem_of_getElem? e)
      omega
theorem upR_snoc (rs : List Int) (prs : List (Nat × Int)) (x : Nat × Int) : upR rs (prs ++ [x]) = (upR rs prs).set x.1 (2 * (upR rs prs).getD x.1 0 + x.2) := by
  unfold upR
  rw [List.foldl_append]; rfl
theorem upR_get (f : Nat → Int) : ∀ (prs : List (Nat × Int)) (rs : List Int), (prs.map (·.1)).Nodup → (∀ x ∈ prs, x.2 = f x.1) → ∀ i, (upR rs prs)[i]? = if i ∈ prs.map (·.1) then rs[i]?.map (fun r => 2 * r + f i) else rs[i]?
  | [], rs, _, _, i => by simp [upR]
  | x :: t, rs, hn, hf, i => by
    obtain ⟨h1, h2⟩ := List.nodup_cons.mp hn
    show (upR (rs.set x.1 _) t)[i]? = _
    rw [upR_get f t _ h2 (fun y hy => hf y (List.mem_cons_of_mem _ hy)) i, hf x List.mem_cons_self]
    by_cases c : i = x.1
    · subst c
      rw [if_neg h1, if_pos (show x.1 ∈ (x :: t).map (·.1) from List.mem_cons_self), List.getElem?_set_self', List.getD_eq_getElem?_getD]
      cases e : rs[x.1]? with
      | none => rfl
      | some y => rfl
    · rw [List.getElem?_set_ne (Ne.symm c)]
      have : i ∈ (x :: t).map (·.1) ↔ i ∈ t.map (·.1) := by rw [List.map_cons, List.mem_cons]; simp [c]
      by_cases c2 : i ∈ t.map (·.1)
      · rw [if_pos c2, if_pos (this.mpr c2)]
      · rw [if_neg c2, if_neg fun z => c2 (this.mp z)]
/-- their order for the next level -/
def ordN (prs : List (Nat × Int)) : List Nat := (prs.filter fun x => decide (x.2 = 0)).map (·.1) ++ (prs.filter fun x => !decide (x.2 = 0)).map (·.1)
theorem ordN_perm (prs : List (Nat × Int)) : (ordN prs).Perm (prs.map (·.1)) := by
  unfold ordN
  rw [← List.map_append]
  exact (List.filter_append_perm _ prs).map _
/-- order and ranks behind so many levels -/
def rdL (os : List Int) (m : Nat) : Nat → List Nat × List Int
  | 0 => (List.range m, List.replicate m 0)
  | l + 1 => (ordN ((rdL os m l).1.zip (bitsR os m l)), upR (rdL os m l).2 ((rdL os m l).1.zip (bitsR os m l)))
theorem zip_fst {α β : Type} : ∀ {as : List α} {bs : List β}, as.length = bs.length → (as.zip bs).map (·.1) = as
  | [], _, _ => by simp
  | a :: as, [], h => by simp at h
  | a :: as, b :: bs, h => by
    rw [List.zip_cons_cons, List.map_cons, zip_fst (Nat.succ.inj h)]
theorem zip_self {α β : Type} (f : α → β) : ∀ as : List α, as.zip (as.map f) = as.map fun i => (i, f i)
  | [] => rfl
  | a :: as => by rw [List.map_cons, List.zip_cons_cons, zip_self f as, List.map_cons]
theorem rdL_perm (os : List Int) (m : Nat) : ∀ l, (rdL os m l).1.Perm (List.range m)
  | 0 => List.Perm.refl _
  | l + 1 => by
    have h := rdL_perm os m l
    refine (ordN_perm _).trans ?_
    rw [zip_fst (by rw [h.length_eq, List.length_range, bitsR_len])]
    exact h
theorem rdL_ord (os : List Int) (m l : Nat) : (rdL os m l).1.length = m := by rw [(rdL_perm os m l).length_eq, List.length_range]
theorem rdL_lt (os : List Int) (m l : Nat) {i : Nat} : i ∈ (rdL os m l).1 ↔ i < m := by rw [(rdL_perm os m l).mem_iff, List.mem_range]
theorem rdL_len (os : List Int) (m : Nat) : ∀ l, (rdL os m l).2.length = m
  | 0 => List.length_replicate
  | l + 1 => by
    show (upR _ _).length = _
    rw [upR_len, rdL_len os m l]
theorem rdL_nn (os : List Int) (m : Nat) : ∀ l, ∀ r ∈ (rdL os m l).2, 0 ≤ r
  | 0 => fun r hr => by rw [List.eq_of_mem_replicate hr]; exact Int.le_refl _
  | l + 1 => upR_nn _ _ (fun x hx => by
      have := bitsR_bits os m l x.2 (List.of_mem_zip hx).2
      omega) (rdL_nn os m l)
theorem rdL_good {L : Nat} {os : List Int} {row : List Nat} (hr : ∀ r ∈ row, r < 2 ^ L) (hb : ∀ l, l < L → bitsR os row.length l = bitsW L row l) : ∀ l, l ≤ L → rowsW L row l = (rdL os row.length l).1.map (fun i => row.getD i 0) ∧ (rdL os row.length l).2 = row.map fun r => ((pre L l r : Nat) : Int)
  | 0, _ => by
    refine ⟨?_, ?_⟩
    · apply List.ext_getElem?
      intro i
      show row[i]? = ((List.range row.length).map _)[i]?
      rcases Nat.lt_or_ge i row.length with z | z
      · rw [List.getElem?_map, List.getElem?_range z, List.getElem?_eq_getElem z, Option.map_some, List.getD_eq_getElem?_getD, List.getElem?_eq_getElem z]; rfl
      · rw [List.getElem?_eq_none z, List.getElem?_eq_none (by rw [List.length_map, List.length_range]; exact z)]
    · show List.replicate row.length 0 = _
      symm
      rw [List.eq_replicate_iff]
      refine ⟨by rw [List.length_map], fun b hb => ?_⟩
      obtain ⟨r, h1, rfl⟩ := List.mem_map.mp hb
      rw [pre_zero (hr r h1)]; rfl
  | l + 1, hl => by
    obtain ⟨h1, h2⟩ := rdL_good hr hb l (by omega)
    have hp := rdL_perm os row.length l
    have hm := fun i => rdL_lt os row.length l (i := i)
    have e := hb l (by omega)
    show partW (L - 1 - l) (rowsW L row l) = (ordN ((rdL os row.length l).1.zip (bitsR os row.length l))).map _ ∧ upR (rdL os row.length l).2 ((rdL os row.length l).1.zip (bitsR os row.length l)) = _
    rw [h2]
    generalize (rdL os row.length l).1 = ord at h1 hp hm ⊢
    rw [e]
    unfold bitsW
    rw [h1, List.map_map, zip_self]
    refine ⟨?_, ?_⟩
    · unfold partW ordN
      rw [List.map_append, List.filter_map, List.filter_map, List.filter_map, List.filter_map, List.map_map, List.map_map, List.map_map, List.map_map]
      congr 1
      · congr 1
        refine List.filter_congr fun i _ => ?_
        show decide (wb _ _ = 0) = decide (((wb _ _ : Nat) : Int) = 0)
        exact decide_eq_decide.mpr (by omega)
      · congr 1
        refine List.filter_congr fun i _ => ?_
        show decide (wb _ _ = 1) = !decide (((wb _ _ : Nat) : Int) = 0)
        rcases wb_le (L - 1 - l) (row.getD i 0) with z | z <;> rw [z] <;> rfl
    · apply List.ext_getElem?
      intro i
      have hmm : (ord.map fun i => (i, ((fun r => ((wb (L - 1 - l) r : Nat) : Int)) ∘ fun i => row.getD i 0) i)).map (·.1) = ord := by rw [List.map_map]; exact List.map_id _
      rw [upR_get (fun i => ((wb (L - 1 - l) (row.getD i 0) : Nat) : Int)) _ _ (by rw [hmm]; exact hp.nodup_iff.mpr List.nodup_range) (fun x hx => by obtain ⟨y, _, rfl⟩ := List.mem_map.mp hx; rfl) i, hmm, List.getElem?_map, List.getElem?_map]
      cases e : row[i]? with
      | none => simp
      | some r =>
        rw [if_pos ((hm i).mpr (List.getElem?_eq_some_iff.mp e).1), List.getD_eq_getElem?_getD, e]
        simp only [Option.map_some, Option.getD_some]
        rw [pre_next (by omega)]
        congr 1
theorem rdL_end {L : Nat} {row : List Nat} (hr : ∀ r ∈ row, r < 2 ^ L) : (rdL (lvsR L row L) row.length L).2 = natL row := by
  rw [(rdL_good hr (fun l h => bitsR_good row h) L (Nat.le_refl _)).2]
  unfold natL
  exact List.map_congr_left fun r _ => by rw [pre_end]
/-! what octets of a row of signs are -/
structure SgK (os ks sg : List Int) : Prop where
  kk : IsK ks sg
  big : sg.length ≤ 4096
  far : ∀ x ∈ sg, ¬ FarS x
  eq : os = signsO ks sg
theorem sgO_cut (ks sg : List Int) : signsO ks sg = 3 :: (octs (sg.length : Int) 2 ++ (octs (ks.length : Int) 2 ++ (fldO (ks.map upF) 26 ++ lvsR (lvK ks) (ranks ks sg) (lvK ks)))) := by
  unfold signsO
  rw [lvsR_K]
  unfold fldO
  simp
theorem SgK.len {os ks sg : List Int} (h : SgK os ks sg) : os.length = 5 + 26 * ks.length + hOf ks.length * (6 * ((sg.length + 31) / 32) + 2) := by
  rw [h.eq, sgO_cut, List.length_cons, List.length_append, List.length_append, List.length_append, octs_len, octs_len, fldO_len, List.length_map, lvsR_len, ranks_len]
  unfold lvK; omega
theorem SgK.oct {os ks sg : List Int} (h : SgK os ks sg) : Octs os := by
  rw [h.eq, sgO_cut]
  intro x hx
  rcases List.mem_cons.mp hx with rfl | hx
  · decide
  · exact octs_append (octs_oct _ _) (octs_append (octs_oct _ _) (octs_append (fldO_oct _ _) (lvsR_oct _ _ _))) x hx
theorem SgK.many {os ks sg : List Int} (h : SgK os ks sg) : num ((os.take 3).drop 1) = (sg.length : Int) := by
  have := h.big
  rw [h.eq, sgO_cut, List.take_succ_cons, List.drop_succ_cons, List.drop_zero, List.take_append_of_le_length (by rw [octs_len]; exact Nat.le_refl _), List.take_of_length_le (by rw [octs_len]; exact Nat.le_refl _)]
  exact num_octs 2 _ (by omega) (by show ((sg.length : Nat) : Int) < 256 ^ 2; omega)
theorem SgK.cnt {os ks sg : List Int} (h : SgK os ks sg) : num ((os.take 5).drop 3) = (ks.length : Int) := by
  have := h.big
  have := nodup_len h.kk
  have l1 : (3 :: octs (sg.length : Int) 2).length = 3 := by rw [List.length_cons, octs_len]
  have l2 := octs_len (ks.length : Int) 2
  have e : (os.take (3 + 2)).drop 3 = octs (ks.length : Int) 2 := by
    rw [h.eq, sgO_cut, ← List.cons_append]
    conv => lhs; rw [← l1, List.take_length_add_append, List.drop_left]
    rw [List.take_append_of_le_length (by rw [octs_len]; exact Nat.le_refl _), List.take_of_length_le (by rw [octs_len]; exact Nat.le_refl _)]
  rw [show os.take 5 = os.take (3 + 2) from rfl, e]
  exact num_octs 2 _ (by omega) (by show ((ks.length : Nat) : Int) < 256 ^ 2; omega)
theorem upF_26 {x : Int} (h : ¬ FarS x) : 0 ≤ upF x ∧ upF x < 256 ^ 26 := by
  unfold FarS at h
  unfold upF
  have h2 : (2000000000000000000000000000000000000000000000000000000000000 : Int) < 256 ^ 26 := by decide +kernel
  exact ⟨by omega, Int.lt_of_lt_of_le (show _ < (2000000000000000000000000000000000000000000000000000000000000 : Int) by omega) (Int.le_of_lt h2)⟩
theorem sgO_cut5 (ks sg : List Int) : ∃ A, A.length = 5 ∧ signsO ks sg = A ++ (fldO (ks.map upF) 26 ++ lvsR (lvK ks) (ranks ks sg) (lvK ks)) := by
  refine ⟨3 :: (octs (sg.length : Int) 2 ++ octs (ks.length : Int) 2), by rw [List.length_cons, List.length_append, octs_len, octs_len], ?_⟩
  rw [sgO_cut]; simp only [List.cons_append, List.append_assoc]
theorem SgK.kinds {os ks sg : List Int} (h : SgK os ks sg) : numsO ((os.take (5 + 26 * ks.length)).drop 5) 26 ks.length = ks.map upF := by
  obtain ⟨A, hA, e⟩ := sgO_cut5 ks sg
  have l2 : (fldO (ks.map upF) 26).length = 26 * ks.length := by rw [fldO_len, List.length_map, Nat.mul_comm]
  have e4 := numsO_fldO 26 (ks.map upF) fun n hn => by
    obtain ⟨x, hx, rfl⟩ := List.mem_map.mp hn
    exact upF_26 (h.far x ((h.kk.mem x).mp hx))
  rw [List.length_map] at e4
  rw [h.eq, e, ← hA, ← l2, List.take_length_add_append, List.drop_left, List.take_left, e4]
theorem SgK.rest {os ks sg : List Int} (h : SgK os ks sg) : os.drop (5 + 26 * ks.length) = lvsR (lvK ks) (ranks ks sg) (lvK ks) := by
  obtain ⟨A, hA, e⟩ := sgO_cut5 ks sg
  have l2 : (fldO (ks.map upF) 26).length = 26 * ks.length := by rw [fldO_len, List.length_map, Nat.mul_comm]
  rw [h.eq, e, ← List.append_assoc, ← hA, ← l2, ← List.length_append, List.drop_left]
theorem SgK.ranks {os ks sg : List Int} (h : SgK os ks sg) : (rdL (os.drop (5 + 26 * ks.length)) sg.length (lvK ks)).2 = natL (Tw.ranks ks sg) := by
  have := rdL_end (L := lvK ks) (row := Tw.ranks ks sg) fun r hr => (rank_lt h.kk hr).2
  rw [ranks_len] at this
  rw [h.rest, this]
theorem SgK.inj {os ks sg ks' sg' : List Int} (h : SgK os ks sg) (g : SgK os ks' sg') : sg = sg' := by
  have e1 : sg.length = sg'.length := by have := h.many; rw [g.many] at this; omega
  have e2 : ks.length = ks'.length := by have := h.cnt; rw [g.cnt] at this; omega
  have e3 := h.kinds
  rw [e2, g.kinds] at e3
  have e4 := h.ranks
  unfold lvK at e4
  rw [e1, e2] at e4
  have e5 := g.ranks
  unfold lvK at e5
  rw [e4] at e5
  have e6 : ks' = ks := (List.map_inj_right fun x y z => by unfold upF at z; omega).mp e3
  subst e6
  apply List.ext_getElem?
  intro i
  have e7 : (Tw.ranks ks' sg) = Tw.ranks ks' sg' := (List.map_inj_right fun x y z => by omega).mp (show (Tw.ranks ks' sg).map (fun r : Nat => (r : Int)) = (Tw.ranks ks' sg').map (fun r : Nat => (r : Int)) from e5)
  have e8 := congrArg (fun l => l[i]?) e7
  unfold Tw.ranks at e8
  simp only [List.getElem?_map] at e8
  cases x1 : sg[i]? with
  | none => rw [List.getElem?_eq_none (by have := List.getElem?_eq_none_iff.mp x1; omega)]
  | some a =>
    cases x2 : sg'[i]? with
    | none => have := List.getElem?_eq_none_iff.mp x2; have := (List.getElem?_eq_some_iff.mp x1).1; omega
    | some b =>
      rw [x1, x2] at e8
      have e9 : rk ks' a = rk ks' b := by simpa using e8
      have g1 := get_rk h.kk.srt ((h.kk.mem a).mpr (List.mem_of_getElem? x1))
      have g2 := get_rk g.kk.srt ((g.kk.mem b).mpr (List.mem_of_getElem? x2))
      rw [e9, g2] at g1
      rw [Option.some.inj g1]

--#base
/-- list(range(n)) -/
def ints0 (n : Nat) : List Int := (List.range n).map fun i : Nat => (i : Int)
theorem ints0_len (n : Nat) : (ints0 n).length = n := by unfold ints0; rw [List.length_map, List.length_range]
def Rg1K (Q : VK) (x : V) (H : Hp) : Prop := ∃ n, x = .int n ∧ RgOk 0 n ∧ ∀ q, H q = none → Q (.ref q) (upd H q (.lst (rgV 0 n)))
theorem k_lstRg {ta : TE} {σ : L2.St} {H : Hp} {Q : VK} (h : ta σ H (Rg1K Q)) : tLstRg (tRg1 ta) σ H Q := h
theorem k_lstRgE {H : Hp} {Q : VK} {n : Int} (h0 : 0 ≤ n ∧ n ≤ 1000000) (q : ∀ l H', H l = none → Same H H' → H' l = some (.lst ((ints0 n.toNat).map V.int)) → Q (.ref l) H') : Rg1K Q (.int n) H := by
  refine ⟨n, rfl, RgOk.of_le (by omega) (by omega) (by omega) (by omega), fun p hp => ?_⟩
  have e : rgV 0 n = (ints0 n.toNat).map V.int := by
    unfold rgV ints0
    rw [Int.sub_zero, List.map_map]
    congr 1
    funext i
    show V.int (0 + (i : Int)) = V.int (i : Int)
    rw [Int.zero_add]
  rw [e]
  exact q p _ hp (same_new hp) upd_same

/-- over two lists of numbers side by side, told which -/
theorem loop_zipG {K : PySem.W.Frag} {g : TG} {tb : TS} {nx : L2.St → Hp → Prop} {rt : VK} {σ : L2.St} {H : Hp} {a b : Addr} {xs ys : List Int} (Pv : Nat → L2.St → Hp → Prop) (h0 : Pv 0 σ H) (hl : ∀ i σ H, Pv i σ H → SqL K H a (xs.map V.int) ∧ SqL K H b (ys.map V.int))
    (hs : ∀ i (x y : Int) (T : Addr) σ H H', xs[i]? = some x → ys[i]? = some y → Pv i σ H → Same H H' → H' T = some (.tup [.int x, .int y]) → g (.ref T) σ H' fun σ2 H2 => tb (Ends.mk (Pv (i + 1)) rt nx (Pv (i + 1))) σ2 H2) (hd : ∀ σ H, Pv (min xs.length ys.length) σ H → nx σ H) : LoopOk (Itz K a b) g tb nx rt σ H := by
  refine loop_walk (walk_zip (n := min xs.length ys.length) (xs := xs.map V.int) (ys := ys.map V.int) (by simp)) Pv h0 (fun i σ H p => hl i σ H p) (fun i v σ H H' hi p hy => ?_) hd
  obtain ⟨T, x, w, rfl, hT, rfl, ex, ew⟩ := hy
  obtain ⟨dp, hdp, rfl⟩ := of_mapint ew
  obtain ⟨ah, hah, rfl⟩ := of_mapint ex
  exact hs i ah dp T σ H _ hah hdp p (same_new hT) upd_same
def pt0 (prs : List (Nat × Int)) : List Nat := (prs.filter fun x => decide (x.2 = 0)).map (·.1)
def pt1 (prs : List (Nat × Int)) : List Nat := (prs.filter fun x => !decide (x.2 = 0)).map (·.1)
theorem pt0_len (prs : List (Nat × Int)) : (pt0 prs).length ≤ prs.length := by unfold pt0; rw [List.length_map]; exact List.length_filter_le _ _
theorem pt1_len (prs : List (Nat × Int)) : (pt1 prs).length ≤ prs.length := by unfold pt1; rw [List.length_map]; exact List.length_filter_le _ _
theorem pt0_yes (prs : List (Nat × Int)) (j : Nat) : pt0 (prs ++ [(j, 0)]) = pt0 prs ++ [j] := by unfold pt0; simp
theorem pt0_no (prs : List (Nat × Int)) (j : Nat) : pt0 (prs ++ [(j, 1)]) = pt0 prs := by unfold pt0; simp
theorem pt1_yes (prs : List (Nat × Int)) (j : Nat) : pt1 (prs ++ [(j, 1)]) = pt1 prs ++ [j] := by unfold pt1; simp
theorem pt1_no (prs : List (Nat × Int)) (j : Nat) : pt1 (prs ++ [(j, 0)]) = pt1 prs := by unfold pt1; simp
theorem zip_step {as : List Nat} {bs : List Int} {k j : Nat} {y : Int} (h1 : as[k]? = some j) (h2 : bs[k]? = some y) : (as.zip bs).take (k + 1) = (as.zip bs).take k ++ [(j, y)] := by
  rw [List.take_add_one, show (as.zip bs)[k]? = some (j, y) by rw [List.getElem?_zip_eq_some]; exact ⟨h1, h2⟩]; rfl
theorem natL_snoc (as : List Nat) (j : Nat) : natL (as ++ [j]) = natL as ++ [(j : Int)] := by unfold natL; rw [List.map_append]; rfl
theorem natL_get {as : List Nat} {k : Nat} {x : Int} (h : (natL as)[k]? = some x) : ∃ j : Nat, as[k]? = some j ∧ (j : Int) = x := by
  unfold natL at h
  rw [List.getElem?_map] at h
  exact Option.map_eq_some_iff.mp h
/-- ranks_in(octets, many, levels) -/
def sp_ranks_in (K : PySem.W.Frag) : Sp := fun vs H Q _ => ∃ (a : Addr) (os : List Int) (m L : Nat), vs = [.ref a, .int (m : Int), .int (L : Int)] ∧ SqL K H a (os.map V.int) ∧ Octs os ∧ os.length = (6 * ((m + 31) / 32) + 2) * L ∧ m ≤ 4096 ∧ L ≤ 12 ∧ ∀ p H', H p = none → Same H H' → H' p = some (.lst ((rdL os m L).2.map V.int)) → Q (.ref p) H'
theorem len_ranks_in (K : PySem.W.Frag) : ∀ vs H Q E, sp_ranks_in K vs H Q E → vs.length = 3 := by
  rintro vs H Q E ⟨x, y, _, _, rfl, _⟩; rfl
def t_ranks_in (K : PySem.W.Frag) (E : XK) : TS :=
  (tSeq (tAsg (tOp rRep (tLst (tCons (tC (.int 0)) tNil)) (tVar 1)) (gName 3))
  (tSeq (tAsg (tLstRg (tRg1 (tVar 1))) (gName 4))
  (tSeq (tFor (iRng1 (tCons (tVar 2) tNil)) (gName 5)
  (tSeq (tAsg (tOp rTimes (tCall (sp_row_long K) [] E0 (tCons (tVar 1) tNil)) (tVar 5)) (gName 6))
  (tSeq (tAsg (tCall (sp_unpacked K) [] E (tCons (tCall (sp_numbers_of K) [] E0 (tCons (tSl (rSlL K) (tVar 0) (tPart (tVar 6)) (tPart (tOp rPlus (tVar 6) (tOp rTimes (tC (.int 4)) (tCall (sp_blocks_for K) [] E0 (tCons (tVar 1) tNil)))))) (tCons (tC (.int 4)) tNil))) (tCons (tVar 1) tNil))) (gName 7))
  (tSeq (tAsg (tLst (tCons (tLst tNil) (tCons (tLst tNil) tNil))) (gName 8))
  (tSeq (tFor (iZip K (tCons (tVar 4) (tCons (tVar 7) tNil))) (gTup K 2 (gCons (gName 9) (gCons (gName 10) gNil)))
  (tSeq (tAsg (tOp rPlus (tOp rTimes (tC (.int 2)) (tOp (rIxL K) (tVar 3) (tVar 9))) (tVar 10)) (gSub (tVar 3) (tVar 9) rSetL))
  (tDrop (tBM K "list" rAppend (tOp (rIxL K) (tVar 8) (tVar 10)) (tCons (tVar 9) tNil)))))
  (tAsg (tOp rCat (tOp (rIxL K) (tVar 8) (tC (.int 0))) (tOp (rIxL K) (tVar 8) (tC (.int 1)))) (gName 4)))))))
  (tRet (tVar 3)))))
abbrev n_ranks_in : List Str := ["octets", "many", "levels", "ranks", "order", "level", "start", "bits", "parts", "at", "bit"]

theorem rd_ranks_in (K : PySem.W.Frag) (vs : List V) (H : Hp) (Q : VK) (E : XK) (h : sp_ranks_in K vs H Q E) : t_ranks_in K E { nx := fun _ H' => Q .non H', rt := Q } (start n_ranks_in vs) H := by
  obtain ⟨a, os, m, L, rfl, hS, hO, hl, hm, hL, q⟩ := h
  unfold t_ranks_in
  walk_at "st"
  intro pz hpz
  have s1 := same_new (o := .lst [.int 0]) hpz
  have e1 := upd_same (H := H) (a := pz) (o := .lst [.int 0])
  generalize upd H pz (.lst [.int 0]) = H1 at s1 e1 ⊢
  walk_at "st"
  refine k_rep (xs := [.int 0]) e1 (by simp only [List.length_cons, List.length_nil]; omega) (by omega) fun p3 hp3 => ?_
  have hp3H := s1.gone _ hp3
  have s2 := s1.trans (same_new (o := .lst (List.replicate m [V.int 0]).flatten) hp3)
  have e3 : (upd H1 p3 (.lst (List.replicate m [V.int 0]).flatten)) p3 = some (.lst ((rdL os m 0).2.map V.int)) := by
    rw [upd_same]
    show _ = some (HO.lst ((List.replicate m (0 : Int)).map V.int))
    rw [List.map_replicate, List.flatten_replicate_singleton]
  generalize upd H1 p3 (.lst (List.replicate m [V.int 0]).flatten) = H2 at s2 e3 ⊢
  clear s1 e1 hp3 hpz
  walk_at "st"
  refine k_lstRg ?_
  walk_at "st"
  refine k_lstRgE (by omega) fun p4 H3 hp4 s3 e4 => ?_
  rw [Int.toNat_natCast] at e4
  have n34 : p3 ≠ p4 := ne_of_none e3 hp4
  replace e3 := s3.get e3
  have t3 := s2.trans s3
  replace e4 : H3 p4 = some (.lst ((natL (rdL os m 0).1).map V.int)) := e4
  clear s2 s3 hp4
  walk_at "st"
  obtain ⟨B, hB⟩ : ∃ B, B = (m + 31) / 32 := ⟨_, rfl⟩
  rw [← hB] at hl
  refine loop_range0 (fun l σ' H' => ∃ (po : Addr) (v5 v6 v7 v8 v9 v10 : Option V), l ≤ L ∧ Same H H' ∧ H' p3 = some (.lst ((rdL os m l).2.map V.int)) ∧ H' po = some (.lst ((natL (rdL os m l).1).map V.int)) ∧ p3 ≠ po ∧ σ' = [some (.ref a), some (.int (m : Int)), some (.int (L : Int)), some (.ref p3), some (.ref po), v5, v6, v7, v8, v9, v10]) ⟨p4, none, none, none, none, none, none, Nat.zero_le _, t3, e3, e4, n34, rfl⟩ ?_ ?_
  · clear e3 e4 n34 t3
    rintro l σ' H4 hlL ⟨po, v5, v6, v7, v8, v9, v10, _, t4, e3, eo, n3o, rfl⟩
    have hmul : (6 * B + 2) * (l + 1) ≤ (6 * B + 2) * L := Nat.mul_le_mul_left _ hlL
    rw [Nat.mul_succ] at hmul
    walk_at "st"
    refine ⟨_, rfl, ?_⟩
    walk_at "st"
    rw [show (6 * ((((m : Nat) : Int) + 31) / 32) + 2) * (l : Int) = (((6 * B + 2) * l : Nat) : Int) by rw [hB]; push_cast; rfl]
    refine ⟨_, rfl, ?_⟩
    walk_at "st"
    refine k_slL (t4.seq hS) fun l1 hl1 => ?_
    rw [show (((6 * B + 2) * l : Nat) : Int) + 4 * ((((m : Nat) : Int) + 31) / 32) = (((6 * B + 2) * l + 4 * B : Nat) : Int) by rw [hB]; push_cast; rfl, cutPart, ← List.map_take, ← List.map_drop]
    have oB : Octs ((os.take ((6 * B + 2) * l + 4 * B)).drop ((6 * B + 2) * l)) := fun z hz => hO z (List.mem_of_mem_take (List.mem_of_mem_drop hz))
    have lB : ((os.take ((6 * B + 2) * l + 4 * B)).drop ((6 * B + 2) * l)).length = 4 * B := by rw [List.length_drop, List.length_take]; omega
    have eB : unp (numsO ((os.take ((6 * B + 2) * l + 4 * B)).drop ((6 * B + 2) * l)) 4 B) m = bitsR os m l := by rw [hB]; rfl
    generalize (os.take ((6 * B + 2) * l + 4 * B)).drop ((6 * B + 2) * l) = mid at oB lB eB ⊢
    have s5 := same_new (o := .lst (mid.map V.int)) hl1
    have e5 := upd_same (H := H4) (a := l1) (o := .lst (mid.map V.int))
    generalize upd H4 l1 (.lst (mid.map V.int)) = H5 at s5 e5 ⊢
    walk_at "st"
    refine ⟨l1, mid, 4, B, rfl, .of e5, .inr (.inl rfl), lB, by omega, oB, fun p6 H6 hp6 s6 e6 => ?_⟩
    walk_at "st"
    refine ⟨p6, _, m, rfl, .of e6, by rw [numsO_len]; omega, fun c => ?_, fun _ _ pb H7 hpb s7 eb => ?_⟩
    · rw [numsO_len] at c; omega
    rw [Int.toNat_natCast, eB] at eb
    have s47 := (s5.trans s6).trans s7
    have t7 := t4.trans s47
    have n3b : p3 ≠ pb := ne_of_none ((s5.trans s6).get e3) hpb
    replace e3 := s47.get e3
    replace eo := s47.get eo
    clear s5 e5 s6 e6 s7 s47 hpb hp6 hl1 eB oB lB t4
    walk_at "st"
    intro q0 hq0
    have s8 := same_new (o := .lst []) hq0
    have e0 := upd_same (H := H7) (a := q0) (o := .lst [])
    have hq0H := t7.gone _ hq0
    have n03 : q0 ≠ p3 := (ne_of_none e3 hq0).symm
    have n0o : q0 ≠ po := (ne_of_none eo hq0).symm
    have n0b : q0 ≠ pb := (ne_of_none eb hq0).symm
    replace e3 := s8.get e3
    replace eo := s8.get eo
    replace eb := s8.get eb
    have t8 := t7.trans s8
    generalize upd H7 q0 (.lst []) = H8 at e0 e3 eo eb t8 ⊢
    clear s8 t7
    walk_at "st"
    intro q1 hq1
    have s9 := same_new (o := .lst []) hq1
    have e1 := upd_same (H := H8) (a := q1) (o := .lst [])
    have hq1H := t8.gone _ hq1
    have n13 : q1 ≠ p3 := (ne_of_none e3 hq1).symm
    have n1o : q1 ≠ po := (ne_of_none eo hq1).symm
    have n1b : q1 ≠ pb := (ne_of_none eb hq1).symm
    have n10 : q1 ≠ q0 := (ne_of_none e0 hq1).symm
    replace e3 := s9.get e3
    replace eo := s9.get eo
    replace eb := s9.get eb
    replace e0 := s9.get e0
    have t9 := t8.trans s9
    generalize upd H8 q1 (.lst []) = H9 at e0 e1 e3 eo eb t9 ⊢
    clear s9 t8
    walk_at "st"
    intro pp hpp
    have s10 := same_new (o := .lst [.ref q0, .ref q1]) hpp
    have ep := upd_same (H := H9) (a := pp) (o := .lst [.ref q0, .ref q1])
    have np3 : p3 ≠ pp := ne_of_none e3 hpp
    have np0 : q0 ≠ pp := ne_of_none e0 hpp
    have np1 : q1 ≠ pp := ne_of_none e1 hpp
    replace e3 := s10.get e3
    replace eo := s10.get eo
    replace eb := s10.get eb
    replace e0 := s10.get e0
    replace e1 := s10.get e1
    have t10 := t9.trans s10
    generalize upd H9 pp (.lst [.ref q0, .ref q1]) = H10 at e0 e1 e3 eo eb ep t10 ⊢
    clear s10 t9 hpp hq0 hq1
    have hol := rdL_ord os m l
    have hbl := bitsR_len os m l
    have hrl := rdL_len os m l
    have hbb := bitsR_bits os m l
    have hlt := fun i => rdL_lt os m l (i := i)
    have eN : rdL os m (l + 1) = (ordN ((rdL os m l).1.zip (bitsR os m l)), upR (rdL os m l).2 ((rdL os m l).1.zip (bitsR os m l))) := rfl
    generalize (rdL os m l).1 = ord at hol hlt eN eo ⊢
    generalize (rdL os m l).2 = rs at hrl eN e3 ⊢
    generalize bitsR os m l = bs at hbl hbb eN eb ⊢
    have hzl : ∀ k, ((ord.zip bs).take k).length ≤ 4096 := fun k => by rw [List.length_take, List.length_zip]; omega
    walk_at "st"
    refine m_zipE (.of eo) (.of eb) ?_
    refine loop_zipG (xs := natL ord) (ys := bs) (fun k σ' H' => ∃ (v9 v10 : Option V), Same H H' ∧ H' p3 = some (.lst ((upR rs ((ord.zip bs).take k)).map V.int)) ∧ H' po = some (.lst ((natL ord).map V.int)) ∧ H' pb = some (.lst (bs.map V.int)) ∧ H' q0 = some (.lst ((natL (pt0 ((ord.zip bs).take k))).map V.int)) ∧ H' q1 = some (.lst ((natL (pt1 ((ord.zip bs).take k))).map V.int)) ∧ H' pp = some (.lst [.ref q0, .ref q1]) ∧ σ' = [some (.ref a), some (.int (m : Int)), some (.int (L : Int)), some (.ref p3), some (.ref po), some (.int (l : Int)), some (.int (((6 * B + 2) * l : Nat) : Int)), some (.ref pb), some (.ref pp), v9, v10]) ⟨_, _, t10, e3, eo, eb, e0, e1, ep, rfl⟩ (fun k σ' H' ⟨_, _, _, _, eo, eb, _⟩ => ⟨.of eo, .of eb⟩) ?_ ?_
    · clear t10 e3 eo eb e0 e1 ep eN
      rintro k x y T σ' H11 H12 hx hy ⟨v9, v10, t, e3, eo, eb, e0, e1, ep, rfl⟩ sT eT
      obtain ⟨j, hj, rfl⟩ := natL_get hx
      have hjm : j < m := (hlt j).mp (List.mem_of_getElem? hj)
      have hy01 := hbb y (List.mem_of_getElem? hy)
      have hz := zip_step hj hy
      have hz2 := hzl k
      rw [hz]
      generalize (ord.zip bs).take k = prs at e3 e0 e1 hz2 ⊢
      have hul : (upR rs prs).length = m := by rw [upR_len, hrl]
      rw [upR_snoc]
      dsimp only
      generalize upR rs prs = us at e3 hul ⊢
      obtain ⟨r, hr⟩ : ∃ r, us[j]? = some r := ⟨_, List.getElem?_eq_getElem (by omega)⟩
      have hrD : us.getD j 0 = r := by rw [List.getD_eq_getElem?_getD, hr]; rfl
      rw [hrD]
      replace e3 := sT.get e3
      replace eo := sT.get eo
      replace eb := sT.get eb
      replace e0 := sT.get e0
      replace e1 := sT.get e1
      replace ep := sT.get ep
      have t2 := t.trans sT
      clear t sT
      refine m_gTup (.of eT) rfl ?_
      walk_at "st"
      refine k_ixL (.of e3) (at_int (by omega) (by rw [Int.toNat_natCast]; exact mapint hr)) ?_
      walk_at "st"
      refine m_setL e3 (ixN_nat (by omega) (by rw [List.length_map]; omega)) ?_
      rw [Int.toNat_natCast, ← List.map_set]
      have t3 : Same H (upd H12 p3 (.lst ((us.set j (2 * r + y)).map V.int))) := t2.mut hp3H ⟨_, e3⟩
      have e3' := upd_same (H := H12) (a := p3) (o := .lst ((us.set j (2 * r + y)).map V.int))
      replace eo := (upd_ne (o := .lst ((us.set j (2 * r + y)).map V.int)) n3o.symm).trans eo
      replace eb := (upd_ne (o := .lst ((us.set j (2 * r + y)).map V.int)) n3b.symm).trans eb
      replace e0 := (upd_ne (o := .lst ((us.set j (2 * r + y)).map V.int)) n03).trans e0
      replace e1 := (upd_ne (o := .lst ((us.set j (2 * r + y)).map V.int)) n13).trans e1
      replace ep := (upd_ne (o := .lst ((us.set j (2 * r + y)).map V.int)) np3.symm).trans ep
      generalize upd H12 p3 (.lst ((us.set j (2 * r + y)).map V.int)) = H13 at t3 e3' eo eb e0 e1 ep ⊢
      clear e3 eT t2
      walk_at "st"
      have h0 := pt0_len prs
      have h1 := pt1_len prs
      rcases hy01 with rfl | rfl
      · refine k_ixL (.of ep) (at_int (by decide) rfl) ?_
        walk_at "st"
        refine k_tyL (.of e0) ?_
        walk_at "st"
        refine k_app e0 (by rw [List.length_map, natL_len]; omega) ?_
        walk_at "st"
        refine ⟨_, _, t3.mut hq0H ⟨_, e0⟩, (upd_ne n03.symm).trans e3', (upd_ne n0o.symm).trans eo, (upd_ne n0b.symm).trans eb, ?_, (upd_ne n10).trans (by rw [pt1_no]; exact e1), (upd_ne np0.symm).trans ep, rfl⟩
        rw [upd_same, pt0_yes, natL_snoc, List.map_append]; rfl
      · refine k_ixL (.of ep) (at_int (by decide) rfl) ?_
        walk_at "st"
        refine k_tyL (.of e1) ?_
        walk_at "st"
        refine k_app e1 (by rw [List.length_map, natL_len]; omega) ?_
        walk_at "st"
        refine ⟨_, _, t3.mut hq1H ⟨_, e1⟩, (upd_ne n13.symm).trans e3', (upd_ne n1o.symm).trans eo, (upd_ne n1b.symm).trans eb, (upd_ne n10.symm).trans (by rw [pt0_no]; exact e0), ?_, (upd_ne np1.symm).trans ep, rfl⟩
        rw [upd_same, pt1_yes, natL_snoc, List.map_append]; rfl
    · clear t10 e3 eo eb e0 e1 ep
      rintro σ' H11 ⟨v9, v10, t, e3, eo, eb, e0, e1, ep, rfl⟩
      have ez : (ord.zip bs).take (min (natL ord).length bs.length) = ord.zip bs := List.take_of_length_le (by rw [List.length_zip, natL_len]; exact Nat.le_refl _)
      rw [ez] at e3 e0 e1
      walk_at "st"
      refine k_ixL (.of ep) (at_int (by decide) rfl) ?_
      walk_at "st"
      refine k_ixL (.of ep) (at_int (by decide) rfl) ?_
      walk_at "st"
      have hz3 : (ord.zip bs).length ≤ 4096 := by rw [List.length_zip]; omega
      have h0 := pt0_len (ord.zip bs)
      have h1 := pt1_len (ord.zip bs)
      refine k_catI e0 e1 (by rw [natL_len, natL_len]; omega) fun pn H14 hpn s14 en => ?_
      refine ⟨pn, _, _, _, _, _, _, hlL, t.trans s14, by rw [eN]; exact s14.get e3, ?_, ne_of_none e3 hpn, rfl⟩
      rw [eN, en]
      show _ = some (HO.lst ((natL (pt0 (ord.zip bs) ++ pt1 (ord.zip bs))).map V.int))
      unfold natL
      rw [List.map_append (f := fun r : Nat => (r : Int))]
  · rintro σ' H4 ⟨po, v5, v6, v7, v8, v9, v10, _, t4, e3, eo, n3o, rfl⟩
    walk_at "st"
    exact q p3 H4 hp3H t4 e3

--#base
/-- signs_long(many, count) -/
def sp_signs_long (_ : PySem.W.Frag) : Sp := fun vs H Q _ => ∃ m n : Nat, vs = [.int (m : Int), .int (n : Int)] ∧ n ≤ 4096 ∧ Q (.int ((5 + 26 * n + hOf n * (6 * ((m + 31) / 32) + 2) : Nat) : Int)) H
theorem len_signs_long (K : PySem.W.Frag) : ∀ vs H Q E, sp_signs_long K vs H Q E → vs.length = 2 := by
  rintro vs H Q E ⟨x, y, rfl, _⟩; rfl
def t_signs_long (K : PySem.W.Frag) : TS :=
  (tRet (tOp rPlus (tOp rPlus (tC (.int 5)) (tOp rTimes (tC (.int 26)) (tVar 1))) (tOp rTimes (tCall (sp_levels_for K) [] E0 (tCons (tVar 1) tNil)) (tCall (sp_row_long K) [] E0 (tCons (tVar 0) tNil)))))
abbrev n_signs_long : List Str := ["many", "count"]

theorem rd_signs_long (K : PySem.W.Frag) (vs : List V) (H : Hp) (Q : VK) (E : XK) (h : sp_signs_long K vs H Q E) : t_signs_long K { nx := fun _ H' => Q .non H', rt := Q } (start n_signs_long vs) H := by
  obtain ⟨m, n, rfl, hn, q⟩ := h
  unfold t_signs_long
  walk_at "st"
  refine ⟨n, rfl, hn, ?_⟩
  have hh : hOf n ≤ 12 := hOf_small hn
  walk_at "st"
  refine ⟨_, rfl, ?_⟩
  walk_at "st"
  rw [show (5 : Int) + 26 * (n : Int) + ((hOf n : Nat) : Int) * (6 * ((((m : Nat) : Int) + 31) / 32) + 2) = ((5 + 26 * n + hOf n * (6 * ((m + 31) / 32) + 2) : Nat) : Int) by push_cast; rfl]
  exact q
theorem kinds_back (ks : List Int) : (ks.map upF).map (fun x => x - 1000000000000000000000000000000000000000000000000000000000000) = ks := by
  rw [List.map_map]
  conv => rhs; rw [← List.map_id ks]
  refine List.map_congr_left fun x _ => ?_
  show upF x - _ = x
  unfold upF; omega
def nearB (x : Int) : Bool := decide (-1000000000000000000000000000000000000000000000000000000000000 < x) && decide (x < 1000000000000000000000000000000000000000000000000000000000000)
theorem nearB_iff {x : Int} : nearB x = true ↔ ¬ FarS x := by unfold nearB FarS; rw [Bool.and_eq_true, decide_eq_true_iff, decide_eq_true_iff]; omega
/-- the signs of kinds and ranks -/
def sgn (kd rs : List Int) : List Int := rs.map fun r => kd.getD r.toNat 0
theorem sgn_back {ks sg : List Int} (h : IsK ks sg) : sgn ks (natL (Tw.ranks ks sg)) = sg := by
  unfold sgn natL Tw.ranks
  rw [List.map_map, List.map_map]
  conv => rhs; rw [← List.map_id sg]
  refine List.map_congr_left fun x hx => ?_
  show ks.getD ((rk ks x : Nat) : Int).toNat 0 = x
  rw [Int.toNat_natCast, List.getD_eq_getElem?_getD, get_rk h.srt ((h.mem x).mpr hx)]; rfl
/-- read_signs(octets) -/
def sp_read_signs (K : PySem.W.Frag) : Sp := fun vs H Q E => ∃ (a : Addr) (os : List Int), vs = [.ref a] ∧ SqL K H a (os.map V.int) ∧ os.length ≤ 60000 ∧
  (∀ H', Same H H' → (∀ ks sg, ¬ SgK os ks sg) → E (.ref (He.ga K "NoOctets")) none H') ∧
  (∀ ks sg, SgK os ks sg → ∀ p H', H p = none → Same H H' → H' p = some (.lst (sg.map V.int)) → Q (.ref p) H')
theorem len_read_signs (K : PySem.W.Frag) : ∀ vs H Q E, sp_read_signs K vs H Q E → vs.length = 1 := by
  rintro vs H Q E ⟨x, y, rfl, _⟩; rfl
def t_read_signs (K : PySem.W.Frag) (E : XK) : TS :=
  (tSeq (tAsg (tCall (sp_head_of K) [] E (tCons (tVar 0) (tCons (tC (.int 3)) (tCons (tC (.int 5)) tNil)))) (gTup K 2 (gCons (gName 1) (gCons (gName 2) gNil))))
  (tSeq (tIfS (tOr (tTest (tOp rGtI (tVar 2) (tVar 1))) (tTest (tOp rNe (tCB (rLen K) (tCons (tVar 0) tNil)) (tCall (sp_signs_long K) [] E0 (tCons (tVar 1) (tCons (tVar 2) tNil))))))
  (tRz (fun cls d _ H => E cls d H) (He.ga K "NoOctets"))
  tNext)
  (tSeq (tAsg (tOp rPlus (tC (.int 5)) (tOp rTimes (tC (.int 26)) (tVar 2))) (gName 3))
  (tSeq (tAsg (tLc (iList K (tCall (sp_numbers_of K) [] E0 (tCons (tSl (rSlL K) (tVar 0) (tPart (tC (.int 5))) (tPart (tVar 3))) (tCons (tC (.int 26)) tNil)))) (gName 5) tYes (tOp rMinus (tVar 5) (tC (.int 1000000000000000000000000000000000000000000000000000000000000))) [5]) (gName 4))
  (tSeq (tAsg (tCall (sp_ranks_in K) [] E (tCons (tSl (rSlL K) (tVar 0) (tPart (tVar 3)) tNoPart) (tCons (tVar 1) (tCons (tCall (sp_levels_for K) [] E0 (tCons (tVar 2) tNil)) tNil)))) (gName 6))
  (tSeq (tIfS (tOr (tNot (tB (tCB (rAll K) (tCons (tLc (iList K (tVar 4)) (gName 7) tYes (tChain rLt rLt (tC (.int (-1000000000000000000000000000000000000000000000000000000000000))) (tVar 7) (tC (.int 1000000000000000000000000000000000000000000000000000000000000))) [7]) tNil)))) (tTest (tOp rGeI (tMaxD K (tCons (tVar 6) tNil) (tCons (tUn rNeg (tC (.int 1))) tNil)) (tVar 2))))
  (tRz (fun cls d _ H => E cls d H) (He.ga K "NoOctets"))
  tNext)
  (tSeq (tAsg (tLc (iList K (tVar 6)) (gName 9) tYes (tOp (rIxL K) (tVar 4) (tVar 9)) [9]) (gName 8))
  (tSeq (tDrop (tCall (sp_same_again K) [] E (tCons (tVar 0) (tCons (tCall (sp_signs_octets K) [] E (tCons (tVar 8) tNil)) tNil))))
  (tRet (tVar 8))))))))))
abbrev n_read_signs : List Str := ["octets", "many", "count", "stop", "kinds", "number", "ranks", "kind", "signs", "rank"]

theorem rd_read_signs (K : PySem.W.Frag) (vs : List V) (H : Hp) (Q : VK) (E : XK) (h : sp_read_signs K vs H Q E) : t_read_signs K E { nx := fun _ H' => Q .non H', rt := Q } (start n_read_signs vs) H := by
  obtain ⟨a, os, rfl, hS, hl, q1, q2⟩ := h
  unfold t_read_signs
  walk_at "st"
  refine ⟨a, os, 3, 5, rfl, hS, by decide, by decide, by omega, fun H' s' c => q1 H' s' ?_, fun h1 h2 h3 h4 pt H1 hpt s1 e1 => ?_⟩
  · intro ks sg g
    have := g.len
    rcases c with c | c | c | c
    · omega
    · exact c g.oct
    · exact c (by rw [g.eq]; rfl)
    · rw [g.many] at c; have := g.big; omega
  have o1 : Octs ((os.take 3).drop 1) := fun z hz => h2 z (List.mem_of_mem_take (List.mem_of_mem_drop hz))
  have o2 : Octs ((os.take 5).drop 3) := fun z hz => h2 z (List.mem_of_mem_take (List.mem_of_mem_drop hz))
  obtain ⟨m, hm⟩ := Int.eq_ofNat_of_zero_le (num_range _ o1).1
  obtain ⟨n, hn⟩ := Int.eq_ofNat_of_zero_le (num_range _ o2).1
  have hmany : ∀ ks sg, SgK os ks sg → sg.length = m ∧ ks.length = n := fun ks sg g => by
    have := g.many
    have := g.cnt
    omega
  rw [hm] at h4
  rw [hm, hn] at e1
  clear o1 o2 hm hn
  refine m_gTup (.of e1) rfl ?_
  walk_at "st"
  walk_at "if" <;> intro c1
  · walk_at "st"
    refine q1 H1 s1 fun ks sg g => ?_
    have := hmany ks sg g
    have := nodup_len g.kk
    omega
  walk_at "st"
  refine k_lenL (s1.seq hS) ?_
  walk_at "st"
  refine ⟨m, n, rfl, by omega, ?_⟩
  walk_at "st"
  rw [List.length_map]
  walk_at "if" <;> intro c2
  · walk_at "st"
    refine q1 H1 s1 fun ks sg g => ?_
    have h5 := hmany ks sg g
    have h6 := g.len
    rw [h5.1, h5.2] at h6
    omega
  have hlen : os.length = 5 + 26 * n + hOf n * (6 * ((m + 31) / 32) + 2) := by omega
  clear c2
  have hL12 : hOf n ≤ 12 := hOf_small (by omega)
  walk_at "st"
  refine k_slL (s1.seq hS) fun l1 hl1 => ?_
  rw [show (5 : Int) + 26 * (n : Int) = ((5 + 26 * n : Nat) : Int) by push_cast; rfl, show (5 : Int) = ((5 : Nat) : Int) from rfl, cutPart, ← List.map_take, ← List.map_drop]
  have oB : Octs ((os.take (5 + 26 * n)).drop 5) := fun z hz => h2 z (List.mem_of_mem_take (List.mem_of_mem_drop hz))
  have lB : ((os.take (5 + 26 * n)).drop 5).length = 26 * n := by rw [List.length_drop, List.length_take]; omega
  have hkd : ∀ ks sg, SgK os ks sg → numsO ((os.take (5 + 26 * n)).drop 5) 26 n = ks.map upF := fun ks sg g => by rw [← (hmany ks sg g).2]; exact g.kinds
  generalize (os.take (5 + 26 * n)).drop 5 = mid at oB lB hkd ⊢
  have s2 := s1.trans (same_new (o := .lst (mid.map V.int)) hl1)
  have e2 := upd_same (H := H1) (a := l1) (o := .lst (mid.map V.int))
  generalize upd H1 l1 (.lst (mid.map V.int)) = H2 at s2 e2 ⊢
  walk_at "st"
  refine ⟨l1, mid, 26, n, rfl, .of e2, .inr (.inr rfl), lB, by omega, oB, fun p3 H3 hp3 s3 e3 => ?_⟩
  have hnl := numsO_len mid 26 n
  generalize numsO mid 26 n = nu at hkd e3 hnl ⊢
  clear oB lB e2 hl1
  walk_at "st"
  refine m_iLe (.of e3) ?_
  refine comp_listV (xs := nu.map V.int) (ys := (nu.map fun x => x - 1000000000000000000000000000000000000000000000000000000000000).map V.int) (.of e3) (by rw [List.length_map]; omega) (by rw [List.length_map, List.length_map, List.length_map]) (fun k x y Ha Q2 hx hy sk q2 => ?_) fun p4 H4 hp4 s4 e4 => ?_
  · obtain ⟨z, ez, rfl⟩ := of_mapint hx
    have ey : y = .int (z - 1000000000000000000000000000000000000000000000000000000000000) := by
      rw [List.getElem?_map, List.getElem?_map, ez] at hy
      exact (Option.some.inj hy).symm
    subst ey
    walk_at "st"
    exact q2 _ (Same.refl _)
  obtain ⟨kd, hkdE⟩ : ∃ kd, kd = nu.map fun x => x - 1000000000000000000000000000000000000000000000000000000000000 := ⟨_, rfl⟩
  have hkl : kd.length = n := by rw [hkdE, List.length_map, hnl]
  have hkd2 : ∀ ks sg, SgK os ks sg → kd = ks := fun ks sg g => by rw [hkdE, hkd ks sg g, kinds_back]
  rw [← hkdE] at e4
  clear hkd hnl hkdE
  have s14 := s2.trans (s3.trans s4)
  walk_at "st"
  refine k_slL (s14.seq hS) fun l5 hl5 => ?_
  rw [cutDrop, ← List.map_drop]
  have oB : Octs (os.drop (5 + 26 * n)) := fun z hz => h2 z (List.mem_of_mem_drop hz)
  have lB : (os.drop (5 + 26 * n)).length = (6 * ((m + 31) / 32) + 2) * hOf n := by rw [List.length_drop, Nat.mul_comm (6 * ((m + 31) / 32) + 2)]; omega
  have hrs : ∀ ks sg, SgK os ks sg → (rdL (os.drop (5 + 26 * n)) m (hOf n)).2 = natL (Tw.ranks ks sg) := fun ks sg g => by
    have := hmany ks sg g
    rw [← this.1, ← this.2]; exact g.ranks
  generalize os.drop (5 + 26 * n) = od at oB lB hrs ⊢
  have s5 := s14.trans (same_new (o := .lst (od.map V.int)) hl5)
  have e5 := upd_same (H := H4) (a := l5) (o := .lst (od.map V.int))
  replace e4 := (same_new (o := .lst (od.map V.int)) hl5).get e4
  generalize upd H4 l5 (.lst (od.map V.int)) = H5 at s5 e5 e4 ⊢
  walk_at "st"
  refine ⟨n, rfl, by omega, ?_⟩
  walk_at "st"
  refine ⟨l5, od, m, hOf n, rfl, .of e5, oB, lB, by omega, hL12, fun p6 H6 hp6 s6 e6 => ?_⟩
  have hrl := rdL_len od m (hOf n)
  have hr0 := rdL_nn od m (hOf n)
  generalize (rdL od m (hOf n)).2 = rs at hrs hrl hr0 e6 ⊢
  have s16 := s5.trans s6
  replace e4 := s6.get e4
  clear s2 e3 s3 s4 s14 hl5 oB lB s5 e5 s6 hp6
  walk_at "st"
  refine m_iLe (.of e4) ?_
  refine comp_listV (xs := kd.map V.int) (ys := (kd.map nearB).map V.bl) (.of e4) (by rw [List.length_map]; omega) (by rw [List.length_map, List.length_map, List.length_map]) (fun k x y Ha Q2 hx hy sk q2 => ?_) fun p7 H7 hp7 s7 e7 => ?_
  · obtain ⟨z, ez, rfl⟩ := of_mapint hx
    have ey : y = .bl (nearB z) := by
      rw [List.getElem?_map, List.getElem?_map, ez] at hy
      exact (Option.some.inj hy).symm
    subst ey
    unfold nearB at q2
    walk_at "st"
    by_cases z0 : -1000000000000000000000000000000000000000000000000000000000000 < z
    · rw [if_pos (decide_eq_true z0)]
      walk_at "st"
      rw [decide_eq_true z0, Bool.true_and] at q2
      exact q2 _ (Same.refl _)
    · rw [if_neg (by simpa using z0)]
      rw [decide_eq_false z0, Bool.false_and] at q2
      exact q2 _ (Same.refl _)
  have hall : (kd.map nearB).all id = true ↔ ∀ x ∈ kd, ¬ FarS x := by
    rw [List.all_map, List.all_eq_true]
    exact ⟨fun h x hx => nearB_iff.mp (h x hx), fun h x hx => nearB_iff.mpr (h x hx)⟩
  refine ⟨p7, _, rfl, .of e7, ?_⟩
  have s17 := s16.trans s7
  replace e4 := s7.get e4
  replace e6 := s7.get e6
  clear s16 s7
  generalize (kd.map nearB).all id = bb at hall ⊢
  cases bb with
  | false =>
    walk_at "st"
    refine q1 H7 s17 fun ks sg g => ?_
    have := hall.mpr fun x hx => g.far x ((g.kk.mem x).mp (by rw [← hkd2 ks sg g]; exact hx))
    cases this
  | true =>
  have hnf := hall.mp rfl
  clear hall e7 hp7
  walk_at "st"
  have hbad : ∀ M ∈ rs, (n : Int) ≤ M → ∀ ks sg, ¬ SgK os ks sg := fun M hM c ks sg g => by
    rw [hrs ks sg g] at hM
    unfold natL at hM
    obtain ⟨r, hr, rfl⟩ := List.mem_map.mp hM
    have h1 := (rank_lt g.kk hr).1
    have h2 := (hmany ks sg g).2
    omega
  refine k_maxD1 (.of e6) fun M hM hMi => ?_
  walk_at "st"
  walk_at "if" <;> intro c3
  · walk_at "st"
    refine q1 H7 s17 ?_
    rcases hMi with z | z
    · omega
    · exact hbad M z c3
  have hrn : ∀ r ∈ rs, r.toNat < kd.length := fun r hr => by
    have := hM r hr
    have := hr0 r hr
    omega
  clear hbad hMi
  walk_at "st"
  refine m_iLe (.of e6) ?_
  refine comp_listV (xs := rs.map V.int) (ys := (sgn kd rs).map V.int) (.of e6) (by rw [List.length_map]; omega) (by unfold sgn; rw [List.length_map, List.length_map, List.length_map]) (fun k x y Ha Q2 hx hy sk q2 => ?_) fun p8 H8 hp8 s8 e8 => ?_
  · obtain ⟨z, ez, rfl⟩ := of_mapint hx
    have hzn := hrn z (List.mem_of_getElem? ez)
    have hz0 := hr0 z (List.mem_of_getElem? ez)
    have ey : y = .int (kd.getD z.toNat 0) := by
      unfold sgn at hy
      rw [List.getElem?_map, List.getElem?_map, ez] at hy
      exact (Option.some.inj hy).symm
    subst ey
    walk_at "st"
    refine k_ixL (.of (sk.get e4)) (at_int hz0 (mapint (List.getElem?_eq_getElem hzn))) ?_
    rw [List.getD_eq_getElem?_getD, List.getElem?_eq_getElem hzn] at q2
    exact q2 _ (Same.refl _)
  have hsg : ∀ ks sg, SgK os ks sg → sgn kd rs = sg := fun ks sg g => by rw [hkd2 ks sg g, hrs ks sg g, sgn_back g.kk]
  have hsl : (sgn kd rs).length = m := by unfold sgn; rw [List.length_map, hrl]
  have hsm : ∀ x ∈ sgn kd rs, x ∈ kd := fun x hx => by
    unfold sgn at hx
    obtain ⟨r, hr, rfl⟩ := List.mem_map.mp hx
    rw [List.getD_eq_getElem?_getD, List.getElem?_eq_getElem (hrn r hr)]
    exact List.getElem_mem _
  generalize sgn kd rs = so at e8 hsg hsl hsm ⊢
  have s18 := s17.trans s8
  have hp8H := s17.gone _ hp8
  clear s17 s8 e6 e4 hp8 hrs hrl hr0 hM hrn hkd2
  walk_at "st"
  refine ⟨p8, so, kd, rfl, e8, by omega, fun c => absurd c (by omega), fun _ ⟨x, hx, hf⟩ => absurd hf (hnf x (hsm x hx)), fun _ _ => ⟨by omega, hsm, fun ks p9 H9 hK hp9 s9 e9 => ?_⟩⟩
  walk_at "st"
  refine ⟨a, p9, os, signsO ks so, rfl, (s18.trans s9).seq hS, .of e9, fun c => q1 H9 (s18.trans s9) fun ks' sg' g => c ?_, fun c => ?_⟩
  · obtain rfl := hsg ks' sg' g
    obtain rfl := isK_uniq hK.srt g.kk.srt (fun k => (hK.mem k).trans (g.kk.mem k).symm)
    exact g.eq
  walk_at "st"
  exact q2 ks so ⟨hK, by omega, fun x hx => hnf x (hsm x hx), c⟩ p8 H9 hp8H (s18.trans s9) (s9.get e8)

--#base
theorem rgC_32 {n : Nat} (hn : n ≤ 100000) : RgC 0 (n : Int) 32 ((n + 31) / 32) := by
  have e : Builtin.Range.rangeSize 0 (n : Int) 32 = (((n + 31) / 32 : Nat) : Int) := by
    rw [PyProof.Rows.rangeSize_pos (by decide) (by omega)]; omega
  refine ⟨by decide, by decide, ?_, e⟩
  unfold Builtin.Range.small
  rw [e]
  have f : ∀ i : Int, 0 ≤ i → i < 1000000 → Builtin.Range.rangeFitsLong i = true := fun i h0 h1 => by
    unfold Builtin.Range.rangeFitsLong
    rw [Bool.and_eq_true]
    exact ⟨decide_eq_true (by omega), decide_eq_true (by omega)⟩
  rw [f 0 (by decide) (by decide), f n (by omega) (by omega), f 32 (by decide) (by decide), f _ (by omega) (by omega), if_pos (by decide), f _ (by omega) (by omega)]
  simp

theorem idx_all (xs : List Int) : (xs.map V.int).all flatV = true := List.all_eq_true.mpr fun y hy => by
  obtain ⟨n, _, rfl⟩ := List.mem_map.mp hy
  rfl
/-- kinds.index(sign) -/
theorem k_indexK {K : PySem.W.Frag} {H : Hp} {Q : VK} {a : Addr} {ks : List Int} {x : Int} (hS : SqL K H a (ks.map V.int)) (s : ks.Pairwise (· < ·)) (h : x ∈ ks) (q : Q (.int (rk ks x : Nat)) H) : rIndex K (.ref a) [.int x] H Q := by
  have e := get_rk s h
  refine ⟨a, _, .int x, rk ks x, .int x, rfl, rfl, hS, rfl, idx_all ks, mapint e, by simp [eqV], fun m z hm hz => ?_, q⟩
  obtain ⟨n, en, rfl⟩ := of_mapint hz
  have hr := rk_get s en
  have : n ≠ x := fun w => by rw [w] at hr; omega
  simp [eqV, this]
theorem divW_pow (w : Nat) (h : w ≤ 100) (i : Int) : CDivW i ((2 ^ w : Nat) : Int) := by
  refine ⟨by have := Nat.two_pow_pos w; omega, ?_⟩
  rw [Int.natAbs_natCast, Nat.log2_two_pow]; omega
/-- a stretch's block, from its last bit on -/
theorem blk_drop {cs : List Int} {i : Nat} {b : Int} (h : cs[cs.length - 1 - i]? = some b) (hi : i < cs.length) : 2 * blk (cs.drop (cs.length - i)) + b = blk (cs.drop (cs.length - (i + 1))) := by
  have hlt : cs.length - 1 - i < cs.length := by omega
  rw [show cs.length - (i + 1) = cs.length - 1 - i by omega, List.drop_eq_getElem_cons hlt, show cs.length - 1 - i + 1 = cs.length - i by omega]
  rw [List.getElem?_eq_getElem hlt] at h
  rw [Option.some.inj h]
  show _ = b + 2 * _
  omega
theorem blks_take_succ {bs : List Int} {i : Nat} (h : i < (bs.length + 31) / 32) : (blks bs).take (i + 1) = (blks bs).take i ++ [blk ((bs.take (32 * i + 32)).drop (32 * i))] := by
  rw [List.take_add_one, blks_get bs i h, List.drop_take, show 32 * i + 32 - 32 * i = 32 by omega]; rfl

/-- _law_two(number) -/
def sp_law_two (_ : PySem.W.Frag) : Sp := fun vs H Q _ => ∃ n : Int, vs = [.int n] ∧ 0 ≤ n ∧ n < 65536 ∧ ∀ p H', H p = none → Same H H' → H' p = some (.lst ((octs n 2).map V.int)) → Q (.ref p) H'
theorem len_law_two (K : PySem.W.Frag) : ∀ vs H Q E, sp_law_two K vs H Q E → vs.length = 1 := by
  rintro vs H Q E ⟨x, rfl, _⟩; rfl
def t_law_two (K : PySem.W.Frag) : TS :=
  (tRet (tLst (tCons (tOp rMod (tVar 0) (tC (.int 256))) (tCons (tOp rDiv (tVar 0) (tC (.int 256))) tNil))))
abbrev n_law_two : List Str := ["_law_number"]

theorem rd_law_two (K : PySem.W.Frag) (vs : List V) (H : Hp) (Q : VK) (E : XK) (h : sp_law_two K vs H Q E) : t_law_two K { nx := fun _ H' => Q .non H', rt := Q } (start n_law_two vs) H := by
  obtain ⟨n, rfl, h0, h1, q⟩ := h
  unfold t_law_two
  walk_at "st"
  intro p hp
  refine q p _ hp (same_new hp) ?_
  rw [upd_same]
  show _ = some (HO.lst (([n / 256 ^ 0 % 256, n / 256 ^ 1 % 256] : List Int).map V.int))
  rw [show n / 256 ^ 0 % 256 = n % 256 by simp, show n / 256 ^ 1 % 256 = n / 256 by rw [Int.pow_succ, Int.pow_zero, Int.one_mul]; omega]; rfl
theorem rgC_8 {n : Nat} (hn : n ≤ 100000) : RgC 0 (n : Int) 8 ((n + 7) / 8) := by
  have e : Builtin.Range.rangeSize 0 (n : Int) 8 = (((n + 7) / 8 : Nat) : Int) := by
    rw [PyProof.Rows.rangeSize_pos (by decide) (by omega)]; omega
  refine ⟨by decide, by decide, ?_, e⟩
  unfold Builtin.Range.small
  rw [e]
  have f : ∀ i : Int, 0 ≤ i → i < 1000000 → Builtin.Range.rangeFitsLong i = true := fun i h0 h1 => by
    unfold Builtin.Range.rangeFitsLong
    rw [Bool.and_eq_true]
    exact ⟨decide_eq_true (by omega), decide_eq_true (by omega)⟩
  rw [f 0 (by decide) (by decide), f n (by omega) (by omega), f 8 (by decide) (by decide), f _ (by omega) (by omega), if_pos (by decide), f _ (by omega) (by omega)]
  simp

/-- _law_many(number) -/
def sp_law_many (_ : PySem.W.Frag) : Sp := fun vs H Q _ => ∃ n : Int, vs = [.int n] ∧ 0 ≤ n ∧ n < 2 ^ 4000 ∧ ∀ p H', H p = none → Same H H' → H' p = some (.lst ((octs n 26).map V.int)) → Q (.ref p) H'
theorem len_law_many (K : PySem.W.Frag) : ∀ vs H Q E, sp_law_many K vs H Q E → vs.length = 1 := by
  rintro vs H Q E ⟨x, rfl, _⟩; rfl
def t_law_many (K : PySem.W.Frag) : TS :=
  (tSeq (tAsg (tLst tNil) (gName 1))
  (tSeq (tFor (iRng1 (tCons (tC (.int 26)) tNil)) (gName 2)
  (tSeq (tDrop (tBM K "list" rAppend (tVar 1) (tCons (tOp rMod (tVar 0) (tC (.int 256))) tNil)))
  (tAsg (tOp rDiv (tVar 0) (tC (.int 256))) (gName 0))))
  (tRet (tVar 1))))
abbrev n_law_many : List Str := ["_law_number", "_law_octets", "_law_k"]

theorem rd_law_many (K : PySem.W.Frag) (vs : List V) (H : Hp) (Q : VK) (E : XK) (h : sp_law_many K vs H Q E) : t_law_many K { nx := fun _ H' => Q .non H', rt := Q } (start n_law_many vs) H := by
  obtain ⟨n, rfl, h0, h1, q⟩ := h
  unfold t_law_many
  walk_at "st"
  intro p hp
  have s0 := same_new (o := .lst []) hp
  have e0 := upd_same (H := H) (a := p) (o := .lst [])
  generalize upd H p (.lst []) = H1 at s0 e0 ⊢
  walk_at "st"
  refine loop_range0 (fun k σ' H' => ∃ v2 : Option V, k ≤ 26 ∧ Same H H' ∧ H' p = some (.lst ((octs n k).map V.int)) ∧ σ' = [some (.int (n / 256 ^ k)), some (.ref p), v2]) ⟨none, Nat.zero_le _, s0, e0, by rw [Int.pow_zero, Int.ediv_one]; rfl⟩ (fun k σ' H' hk ⟨v2, _, s, e, es⟩ => ?_) (fun σ' H' ⟨v2, _, s, e, es⟩ => ?_)
  · subst es
    walk_at "st"
    refine k_tyL (.of e) ?_
    walk_at "st"
    refine k_app e (by rw [List.length_map, octs_len]; omega) ?_
    walk_at "st"
    refine ⟨some (.int (k : Int)), hk, s.mut hp ⟨_, e⟩, by rw [upd_same, octs_snoc, List.map_append]; rfl, ?_⟩
    rw [Int.ediv_ediv_of_nonneg (Int.pow_nonneg (by decide)), ← Int.pow_succ]; rfl
  · subst es
    walk_at "st"
    exact q p H' hp s e

/-! a block as octets -/
theorem blk_split : ∀ {bs : List Int} (k : Nat), Bits bs → blk bs / 2 ^ k = blk (bs.drop k) ∧ blk bs % 2 ^ k = blk (bs.take k)
  | bs, 0, _ => ⟨by rw [List.drop_zero]; simp, by rw [List.take_zero]; simp [blk]⟩
  | [], k + 1, _ => ⟨by rw [List.drop_nil]; simp [blk], by rw [List.take_nil]; simp [blk]⟩
  | b :: bs, k + 1, h => by
    have hb := h b List.mem_cons_self
    obtain ⟨h1, h2⟩ := blk_split (bs := bs) k fun x hx => h x (List.mem_cons_of_mem _ hx)
    have e : blk (b :: bs) = b + 2 * blk bs := rfl
    have p : (0 : Int) < 2 ^ k := Int.pow_pos (by decide)
    have d := Int.emod_add_mul_ediv (blk bs) (2 ^ k)
    have l := Int.emod_lt_of_pos (blk bs) p
    have n := Int.emod_nonneg (blk bs) (show (2 : Int) ^ k ≠ 0 by omega)
    rw [List.drop_succ_cons, List.take_succ_cons, ← h1, show blk (b :: bs.take k) = b + 2 * blk (bs.take k) from rfl, ← h2, e]
    generalize blk bs = x at d l n ⊢
    generalize x / 2 ^ k = u at d ⊢
    generalize x % 2 ^ k = v at d l n ⊢
    have hp : (2 : Int) ^ (k + 1) = 2 * 2 ^ k := by rw [Int.pow_succ, Int.mul_comm]
    rw [hp]
    generalize (2 : Int) ^ k = m at *
    have e2 : b + 2 * x = (b + 2 * v) + (2 * m) * u := by rw [← d, Int.mul_assoc]; omega
    rw [e2]
    constructor
    · rw [Int.add_mul_ediv_left _ _ (by omega), Int.ediv_eq_zero_of_lt (by omega) (by omega)]; omega
    · rw [Int.add_mul_emod_self_left, Int.emod_eq_of_lt (by omega) (by omega)]
/-- the octet i of a row's bits -/
def octAt (bs : List Int) (i : Nat) : Int := blk ((bs.drop (8 * i)).take 8)
theorem octs_blk {bs : List Int} (h : Bits bs) (m : Nat) : octs (blk bs) m = (List.range m).map (octAt bs) := by
  unfold octs
  refine List.map_congr_left fun i _ => ?_
  rw [pow256, (blk_split (8 * i) h).1, show (256 : Int) = 2 ^ 8 by decide, (blk_split 8 (h.drop _)).2]; rfl
theorem octAt_drop (bs : List Int) (n i : Nat) : octAt (bs.drop (8 * n)) i = octAt bs (n + i) := by
  unfold octAt
  rw [List.drop_drop]; congr 3; omega
theorem octAt_take32 (bs : List Int) {i : Nat} (hi : i < 4) : octAt (bs.take 32) i = octAt bs i := by
  unfold octAt
  rw [List.drop_take, List.take_take]; congr 2; omega
theorem octAt_nil {bs : List Int} {i : Nat} (h : bs.length ≤ 8 * i) : octAt bs i = 0 := by
  unfold octAt; rw [List.drop_of_length_le h]; rfl
/-- the blocks' octets are the row's bits, by eight -/
theorem fldO_blks {bs : List Int} (h : Bits bs) : ∀ n : Nat, fldO (blksN bs n) 4 = (List.range (4 * n)).map (octAt bs) := by
  intro n
  induction n generalizing bs with
  | zero => rfl
  | succ n ih =>
    show octs (blk (bs.take 32)) 4 ++ fldO (blksN (bs.drop 32) n) 4 = _
    rw [octs_blk (h.take 32), ih (h.drop 32), show 4 * (n + 1) = 4 + 4 * n by omega, List.range_add, List.map_append]
    congr 1
    · refine List.map_congr_left fun i hi => ?_
      exact octAt_take32 bs (List.mem_range.mp hi)
    · rw [List.map_map]
      refine List.map_congr_left fun i _ => ?_
      rw [show (32 : Nat) = 8 * 4 from rfl, octAt_drop]; rfl
theorem fldO_two (ns : List Int) : fldO ns 2 = (ns.map fun n => ([n % 256, n / 256 % 256] : List Int)).flatten := by
  unfold fldO
  congr 1
  refine List.map_congr_left fun n _ => ?_
  show [n / 256 ^ 0 % 256, n / 256 ^ 1 % 256] = _
  simp

/-- _law_level(bits) -/
def sp_law_level (K : PySem.W.Frag) : Sp := fun vs H Q _ => ∃ (a : Addr) (bs : List Int), vs = [.ref a] ∧ H a = some (.lst (bs.map V.int)) ∧ Bits bs ∧ bs.length ≤ 5000 ∧ ∀ p H', H p = none → Same H H' → H' p = some (.lst ((lvO bs).map V.int)) → Q (.ref p) H'
theorem len_law_level (K : PySem.W.Frag) : ∀ vs H Q E, sp_law_level K vs H Q E → vs.length = 1 := by
  rintro vs H Q E ⟨x, y, rfl, _⟩; rfl
def t_law_level (K : PySem.W.Frag) : TS :=
  (tSeq (tAsg (tLst tNil) (gName 1))
  (tSeq (tFor (iRng3 (tCons (tC (.int 0)) (tCons (tCB (rLen K) (tCons (tVar 0) tNil)) (tCons (tC (.int 8)) tNil)))) (gName 2)
  (tSeq (tAsg (tC (.int 0)) (gName 3))
  (tSeq (tFor (iRev K (tCons (tSl (rSlL K) (tVar 0) (tPart (tVar 2)) (tPart (tOp rPlus (tVar 2) (tC (.int 8))))) tNil)) (gName 4)
  (tAsg (tOp rPlus (tOp rTimes (tC (.int 2)) (tVar 3)) (tVar 4)) (gName 3)))
  (tDrop (tBM K "list" rAppend (tVar 1) (tCons (tVar 3) tNil))))))
  (tSeq (tWhile (tTest (tOp rNe (tOp rMod (tCB (rLen K) (tCons (tVar 1) tNil)) (tC (.int 4))) (tC (.int 0))))
  (tDrop (tBM K "list" rAppend (tVar 1) (tCons (tC (.int 0)) tNil))))
  (tSeq (tDrop (tBM K "list" rExtend (tVar 1) (tCons (tLst (tCons (tC (.int 0)) (tCons (tC (.int 0)) tNil))) tNil)))
  (tSeq (tAsg (tC (.int 0)) (gName 5))
  (tSeq (tFor (iRng3 (tCons (tC (.int 0)) (tCons (tCB (rLen K) (tCons (tVar 0) tNil)) (tCons (tC (.int 32)) tNil)))) (gName 2)
  (tSeq (tAsg (tOp rPlus (tVar 5) (tCB (rSum K) (tCons (tSl (rSlL K) (tVar 0) (tPart (tVar 2)) (tPart (tOp rPlus (tVar 2) (tC (.int 32))))) tNil))) (gName 5))
  (tDrop (tBM K "list" rExtend (tVar 1) (tCons (tCall (sp_law_two K) [] E0 (tCons (tVar 5) tNil)) tNil)))))
  (tRet (tVar 1))))))))
abbrev n_law_level : List Str := ["_law_bits", "_law_octets", "_law_start", "_law_octet", "_law_bit", "_law_ones"]

theorem rd_law_level (K : PySem.W.Frag) (vs : List V) (H : Hp) (Q : VK) (E : XK) (h : sp_law_level K vs H Q E) : t_law_level K { nx := fun _ H' => Q .non H', rt := Q } (start n_law_level vs) H := by
  obtain ⟨a, bs, rfl, ha, hB, hl, q⟩ := h
  unfold t_law_level
  walk_at "st"
  intro p hp
  have s0 := same_new (o := .lst []) hp
  have e0 := upd_same (H := H) (a := p) (o := .lst [])
  generalize upd H p (.lst []) = H1 at s0 e0 ⊢
  walk_at "st"
  refine k_lenL (.of (s0.get ha)) ?_
  walk_at "st"
  rw [List.length_map]
  refine m_rng3e (rgC_8 (by omega)) ?_
  refine loop_walk walk_rangeC (fun i σ H2 => ∃ v2 v3 v4, i ≤ (bs.length + 7) / 8 ∧ Same H H2 ∧ H2 p = some (.lst (((List.range i).map (octAt bs)).map V.int)) ∧ σ = [some (.ref a), some (.ref p), v2, v3, v4, none]) ⟨none, none, none, Nat.zero_le _, s0, e0, rfl⟩ (fun _ _ _ _ => trivial) ?_ ?_
  · rintro i x σ H2 H3 hi ⟨v2, v3, v4, _, s, e, rfl⟩ ⟨hH, rfl⟩
    subst hH
    dsimp only
    rw [show (0 : Int) + ((i : Nat) : Int) * 8 = ((8 * i : Nat) : Int) by omega]
    walk_at "st"
    refine k_slL (.of (s.get ha)) fun p1 hp1 => ?_
    rw [show ((8 * i : Nat) : Int) + 8 = ((8 * i + 8 : Nat) : Int) by omega, cutPart, ← List.map_take, ← List.map_drop, show (bs.take (8 * i + 8)).drop (8 * i) = (bs.drop (8 * i)).take 8 by rw [List.drop_take]; congr 1; omega]
    obtain ⟨cs, ecs⟩ : ∃ cs, cs = (bs.drop (8 * i)).take 8 := ⟨_, rfl⟩
    have eo : octAt bs i = blk cs := by rw [ecs]; rfl
    rw [← ecs]
    have s1 := same_new (o := .lst (cs.map V.int)) hp1
    have e1 := upd_same (H := H3) (a := p1) (o := .lst (cs.map V.int))
    have ex := s1.get e
    generalize upd H3 p1 (.lst (cs.map V.int)) = H4 at s1 e1 ex ⊢
    walk_at "st"
    refine m_revE (.of e1) ?_
    rw [List.length_map]
    refine loop_walk (n := cs.length) (by have := walk_rev (K := K) (a := p1) (xs := cs.map V.int); rw [List.length_map] at this; exact this) (fun k σ H5 => ∃ y, H4 = H5 ∧ k ≤ cs.length ∧ σ = [some (.ref a), some (.ref p), some (.int ((8 * i : Nat) : Int)), some (.int (blk (cs.drop (cs.length - k)))), y, none]) ⟨_, rfl, Nat.zero_le _, by rw [Nat.sub_zero, List.drop_length]; rfl⟩ (fun k σ H5 ⟨_, e, _⟩ => by rw [← e]; exact SqL.of e1) ?_ ?_
    · rintro k v σ H5 H6 hlt ⟨y, rfl, hk, rfl⟩ ⟨rfl, hv⟩
      obtain ⟨b, hb, rfl⟩ := of_mapint hv
      have hk2 : cs.length - 1 - k < cs.length := by omega
      have ed : cs.drop (cs.length - (k + 1)) = b :: cs.drop (cs.length - k) := by
        rw [show cs.length - (k + 1) = cs.length - 1 - k by omega, List.drop_eq_getElem_cons hk2, show cs.length - 1 - k + 1 = cs.length - k by omega]
        congr 1
        exact (List.getElem?_eq_some_iff.mp hb).2
      walk_at "st"
      refine ⟨some (.int b), rfl, by omega, ?_⟩
      rw [ed, show blk (b :: cs.drop (cs.length - k)) = 2 * blk (cs.drop (cs.length - k)) + b by show b + 2 * _ = _; omega]; rfl
    · rintro σ H5 ⟨y, rfl, _, rfl⟩
      rw [Nat.sub_self, List.drop_zero]
      walk_at "st"
      refine k_tyL (.of ex) ?_
      walk_at "st"
      refine k_app ex (by rw [List.length_map, List.length_map, List.length_range]; omega) ?_
      refine ⟨_, _, _, hi, Same.mut (s.trans s1) hp ⟨_, ex⟩, ?_, rfl⟩
      rw [upd_same, ← eo, List.range_succ, List.map_append, List.map_append]; rfl
  rintro σ H2 ⟨v2, v3, v4, _, s, e, rfl⟩
  walk_at "st"
  refine loop_while (fun m σ H3 => ∃ k : Nat, m = 4 * ((bs.length + 31) / 32) - k ∧ (bs.length + 7) / 8 ≤ k ∧ k ≤ 4 * ((bs.length + 31) / 32) ∧ Same H H3 ∧ H3 p = some (.lst (((List.range k).map (octAt bs)).map V.int)) ∧ σ = [some (.ref a), some (.ref p), v2, v3, v4, none]) (4 * ((bs.length + 31) / 32) - (bs.length + 7) / 8) ⟨(bs.length + 7) / 8, rfl, Nat.le_refl _, by omega, s, e, rfl⟩ ?_
  rintro m σ H3 ⟨k, rfl, hk1, hk2, s, e, rfl⟩
  walk_at "st"
  refine k_lenL (.of e) ?_
  walk_at "st"
  rw [List.length_map, List.length_map, List.length_range]
  walk_at "if" <;> intro c
  · refine m_wbody ?_
    walk_at "st"
    refine k_tyL (.of e) ?_
    walk_at "st"
    refine k_app e (by rw [List.length_map, List.length_map, List.length_range]; omega) ?_
    refine ⟨4 * ((bs.length + 31) / 32) - (k + 1), by omega, k + 1, rfl, by omega, by omega, Same.mut s hp ⟨_, e⟩, ?_, rfl⟩
    rw [upd_same, List.range_succ, List.map_append, List.map_append]
    show _ = some (HO.lst (_ ++ [V.int (octAt bs k)]))
    rw [octAt_nil (show bs.length ≤ 8 * k by omega)]
  obtain rfl : k = 4 * ((bs.length + 31) / 32) := by omega
  obtain ⟨E, eE⟩ : ∃ E, E = (List.range (4 * ((bs.length + 31) / 32))).map (octAt bs) := ⟨_, rfl⟩
  have eEl : E.length = 4 * ((bs.length + 31) / 32) := by rw [eE, List.length_map, List.length_range]
  have eEb : fldO (blks bs) 4 = E := by rw [eE]; exact fldO_blks hB _
  rw [← eE] at e
  walk_at "st"
  refine k_tyL (.of e) ?_
  walk_at "st"
  intro p4 hp4
  have s4 := same_new (o := .lst [.int 0, .int 0]) hp4
  have e4 := upd_same (H := H3) (a := p4) (o := .lst [.int 0, .int 0])
  have ex := s4.get e
  generalize upd H3 p4 (.lst [.int 0, .int 0]) = H4 at s4 e4 ex ⊢
  walk_at "st"
  refine k_extend ex e4 (by rw [List.length_map]; simp only [List.length_cons, List.length_nil]; omega) ?_
  have s5 : Same H (upd H4 p (.lst (E.map V.int ++ [V.int 0, V.int 0]))) := Same.mut (s.trans s4) hp ⟨_, ex⟩
  have e5 := upd_same (H := H4) (a := p) (o := .lst (E.map V.int ++ [V.int 0, V.int 0]))
  rw [show E.map V.int ++ [V.int 0, V.int 0] = (E ++ fldO (aheadN bs 1) 2).map V.int by rw [List.map_append]; rfl] at s5 e5 ⊢
  generalize upd H4 p (.lst ((E ++ fldO (aheadN bs 1) 2).map V.int)) = H5 at s5 e5 ⊢
  walk_at "st"
  refine k_lenL (.of (s5.get ha)) ?_
  walk_at "st"
  rw [List.length_map]
  refine m_rng3e (rgC_32 (by omega)) ?_
  refine loop_walk walk_rangeC (fun i σ H6 => ∃ v2, i ≤ (bs.length + 31) / 32 ∧ Same H H6 ∧ H6 p = some (.lst ((E ++ fldO (aheadN bs (i + 1)) 2).map V.int)) ∧ σ = [some (.ref a), some (.ref p), v2, v3, v4, some (.int (sumTo bs (32 * i)))]) ⟨_, Nat.zero_le _, s5, e5, rfl⟩ (fun _ _ _ _ => trivial) ?_ ?_
  · rintro i x σ H6 H7 hi ⟨v2, _, s, e, rfl⟩ ⟨hH, rfl⟩
    subst hH
    dsimp only
    rw [show (0 : Int) + ((i : Nat) : Int) * 32 = ((32 * i : Nat) : Int) by omega]
    walk_at "st"
    refine k_slL (.of (s.get ha)) fun p1 hp1 => ?_
    rw [show ((32 * i : Nat) : Int) + 32 = ((32 * i + 32 : Nat) : Int) by omega, cutPart, ← List.map_take, ← List.map_drop, show (bs.take (32 * i + 32)).drop (32 * i) = (bs.drop (32 * i)).take 32 by rw [List.drop_take]; congr 1; omega]
    have s1 := same_new (o := .lst (((bs.drop (32 * i)).take 32).map V.int)) hp1
    have ex := s1.get e
    walk_at "st"
    refine k_sum (.of upd_same) ?_
    generalize upd H7 p1 (.lst (((bs.drop (32 * i)).take 32).map V.int)) = H8 at s1 ex ⊢
    walk_at "st"
    rw [← sumTo_add, show 32 * i + 32 = 32 * (i + 1) by omega]
    walk_at "st"
    refine k_tyL (.of ex) ?_
    walk_at "st"
    obtain ⟨r1, r2⟩ := sumTo_range hB (32 * (i + 1))
    refine ⟨_, rfl, r1, by omega, fun p9 H9 hp9 s9 e9 => ?_⟩
    walk_at "st"
    have hal := fldO_len (aheadN bs (i + 1)) 2
    rw [aheadN_len] at hal
    refine k_extend (s9.get ex) e9 (by rw [List.length_map, List.length_map, List.length_append, octs_len]; omega) ?_
    refine ⟨_, hi, Same.mut (s.trans (s1.trans s9)) hp ⟨_, s9.get ex⟩, ?_, rfl⟩
    rw [upd_same, aheadN_succ bs (i + 1), fldO_snoc]
    simp only [List.map_append, List.append_assoc]
  rintro σ H6 ⟨v2, _, s, e, rfl⟩
  walk_at "st"
  refine q p _ hp s ?_
  rw [e]
  unfold lvO
  rw [eEb]; rfl

theorem putK_len (kvs : List (Key × V)) (k : Key) (v : V) : (putK kvs k v).length ≤ kvs.length + 1 := by
  unfold putK
  split
  · rw [List.length_map]; omega
  · rw [List.length_append]; exact Nat.le_refl _
theorem laidO_len (ks : List Int) (row : List Nat) : (laidO ks row).length = 5 + 26 * ks.length + hOf ks.length * (6 * ((row.length + 31) / 32) + 2) := by
  unfold laidO
  rw [List.length_cons, List.length_append, List.length_append, fldO_len, fldO_len, List.length_map, lvsR_len]
  show _ = _
  simp only [List.length_cons, List.length_nil]
  omega
/-- _law_laid(kinds, signs) -/
def sp_law_laid (K : PySem.W.Frag) : Sp := fun vs H Q _ => ∃ (a b : Addr) (ks sg : List Int), vs = [.ref a, .ref b] ∧ H a = some (.lst (ks.map V.int)) ∧ H b = some (.lst (sg.map V.int)) ∧ sg.length ≤ 4096 ∧ ks.length ≤ 3000 ∧ (∀ x ∈ ks, ¬ FarS x) ∧ (∀ x ∈ sg, x ∈ ks) ∧
  ∀ (os : List Int) p H', os.length ≤ 9500 + 26 * ks.length → (IsK ks sg → os = signsO ks sg) → H p = none → Same H H' → H' p = some (.lst (os.map V.int)) → Q (.ref p) H'
theorem len_law_laid (K : PySem.W.Frag) : ∀ vs H Q E, sp_law_laid K vs H Q E → vs.length = 2 := by
  rintro vs H Q E ⟨x, y, _, _, rfl, _⟩; rfl
def t_law_laid (K : PySem.W.Frag) : TS :=
  (tSeq (tAsg (tOp rCat (tOp rCat (tLst (tCons (tC (.int 3)) tNil)) (tCall (sp_law_two K) [] E0 (tCons (tCB (rLen K) (tCons (tVar 1) tNil)) tNil))) (tCall (sp_law_two K) [] E0 (tCons (tCB (rLen K) (tCons (tVar 0) tNil)) tNil))) (gName 2))
  (tSeq (tAsg tDNewK (gName 3))
  (tSeq (tFor (iRng1 (tCons (tCB (rLen K) (tCons (tVar 0) tNil)) tNil)) (gName 4)
  (tSeq (sDPut (tVar 3) (tOp (rIxL K) (tVar 0) (tVar 4)) (tVar 4))
  (tDrop (tBM K "list" rExtend (tVar 2) (tCons (tCall (sp_law_many K) [] E0 (tCons (tOp rPlus (tOp (rIxL K) (tVar 0) (tVar 4)) (tC (.int 1000000000000000000000000000000000000000000000000000000000000))) tNil)) tNil)))))
  (tSeq (tAsg (tC (.int 1)) (gName 5))
  (tSeq (tWhile (tTest (tOp rLt (tVar 5) (tCB (rLen K) (tCons (tVar 0) tNil))))
  (tAsg (tOp rTimes (tC (.int 2)) (tVar 5)) (gName 5)))
  (tSeq (tAsg (tLc (iList K (tVar 1)) (gName 7) tYes (tDGet (tVar 3) (tVar 7)) [7]) (gName 6))
  (tSeq (tWhile (tTest (tOp rGtI (tVar 5) (tC (.int 1))))
  (tSeq (tAsg (tOp rDiv (tVar 5) (tC (.int 2))) (gName 5))
  (tSeq (tDrop (tBM K "list" rExtend (tVar 2) (tCons (tCall (sp_law_level K) [] E0 (tCons (tLc (iList K (tVar 6)) (gName 8) tYes (tOp rMod (tOp rDivW (tVar 8) (tVar 5)) (tC (.int 2))) [8]) tNil)) tNil)))
  (tSeq (tAsg (tLc (iList K (tVar 6)) (gName 8) (tTest (tOp rEq (tOp rMod (tOp rDivW (tVar 8) (tVar 5)) (tC (.int 2))) (tC (.int 0)))) (tVar 8) [8]) (gName 9))
  (tAsg (tOp rCat (tVar 9) (tLc (iList K (tVar 6)) (gName 8) (tTest (tOp rEq (tOp rMod (tOp rDivW (tVar 8) (tVar 5)) (tC (.int 2))) (tC (.int 1)))) (tVar 8) [8])) (gName 6))))))
  (tRet (tVar 2)))))))))
abbrev n_law_laid : List Str := ["_law_kinds", "_law_signs_here", "_law_octets", "_law_ranks", "_law_k", "_law_weight", "_law_row", "_law_sign", "_law_rank", "_law_low"]

theorem rd_law_laid (K : PySem.W.Frag) (vs : List V) (H : Hp) (Q : VK) (E : XK) (h : sp_law_laid K vs H Q E) : t_law_laid K { nx := fun _ H' => Q .non H', rt := Q } (start n_law_laid vs) H := by
  obtain ⟨a, b, ks, sg, rfl, hA, hS, hl, hkl, hf, hmem, q⟩ := h
  unfold t_law_laid
  obtain ⟨L, hL⟩ : ∃ L, L = hOf ks.length := ⟨_, rfl⟩
  have hlv : L ≤ 12 := by rw [hL]; exact hOf_small (by omega)
  walk_at "st"
  intro p2 hp2
  have s2 := same_new (o := .lst [.int 3]) hp2
  have e2 := upd_same (H := H) (a := p2) (o := .lst [.int 3])
  generalize upd H p2 (.lst [.int 3]) = H2 at s2 e2 ⊢
  walk_at "st"
  refine k_lenL (.of (s2.get hS)) ?_
  walk_at "st"
  rw [List.length_map]
  refine ⟨_, rfl, by omega, by omega, fun p3 H3 hp3 s3 e3 => ?_⟩
  refine k_catI (xs := [3]) (s3.get e2) e3 (by rw [octs_len]; decide) fun p4 H4 hp4 s4 e4 => ?_
  have t4 := s2.trans (s3.trans s4)
  walk_at "st"
  refine k_lenL (.of (t4.get hA)) ?_
  walk_at "st"
  rw [List.length_map]
  refine ⟨_, rfl, by omega, by omega, fun p5 H5 hp5 s5 e5 => ?_⟩
  refine k_catI (s5.get e4) e5 (by rw [List.length_append, octs_len, octs_len]; decide) fun p6 H6 hp6 s6 e6 => ?_
  have hp6H := (t4.trans s5).gone _ hp6
  have t6 := t4.trans (s5.trans s6)
  clear s2 e2 s3 e3 s4 e4 s5 e5 s6 t4 hp3 hp4 hp5 hp6 hp2
  obtain ⟨Z, hZ⟩ : ∃ Z, Z = [3] ++ octs (sg.length : Int) 2 ++ octs (ks.length : Int) 2 := ⟨_, rfl⟩
  have hZl : Z.length = 5 := by rw [hZ, List.length_append, List.length_append, octs_len, octs_len]; rfl
  rw [← hZ] at e6
  walk_at "st"
  refine m_dnew fun pd hpd => ?_
  have sd := same_new (o := .dK []) hpd
  have hpdH := t6.gone _ hpd
  have t7 := t6.trans sd
  have ed := upd_same (H := H6) (a := pd) (o := .dK [])
  have n6d : p6 ≠ pd := ne_of_none e6 hpd
  replace e6 := sd.get e6
  walk_at "st"
  generalize upd H6 pd (.dK []) = H7 at t7 ed e6 ⊢
  clear sd hpd t6
  refine k_lenL (.of (t7.get hA)) ?_
  walk_at "st"
  rw [List.length_map]
  refine loop_range0 (fun i σ' H' => ∃ (v4 : Option V) (kvs : List (Key × V)), i ≤ ks.length ∧ σ' = [some (.ref a), some (.ref b), some (.ref p6), some (.ref pd), v4, none, none, none, none, none] ∧ Same H H' ∧ H' p6 = some (.lst ((Z ++ fldO ((ks.take i).map upF) 26).map V.int)) ∧ H' pd = some (.dK kvs) ∧ kvs.length ≤ i ∧ (∀ x ∈ ks.take i, ∃ j : Nat, valV kvs (.inl x) = some (.int (j : Int)) ∧ ks[j]? = some x)) ⟨none, [], Nat.zero_le _, rfl, t7, by rw [e6]; simp [fldO], ed, Nat.le_refl _, fun x hx => by simp at hx⟩ (fun i σ' H' hi ⟨v4, kvs, _, es, s, e6, ed, hkl', hv⟩ => ?_) (fun σ' H' ⟨v4, kvs, hi, es, s, e6, ed, hkl', hv⟩ => ?_)
  · subst es
    have hx := List.getElem?_eq_getElem hi
    generalize ks[i] = x at hx
    have hxs := List.mem_of_getElem? hx
    obtain ⟨hu0, hu1⟩ := upF_big (hf x hxs)
    walk_at "st"
    refine m_dput ?_
    walk_at "st"
    refine k_ixL (.of (s.get hA)) (at_int (by omega) (by rw [Int.toNat_natCast]; exact mapint hx)) ?_
    walk_at "st"
    refine k_dputE ed (by omega) ?_
    have s8 : Same H (upd H' pd (.dK (putK kvs (.inl x) (.int (i : Int))))) := s.mutD hpdH ed
    have e68 := (upd_ne (o := .dK (putK kvs (.inl x) (.int (i : Int)))) n6d).trans e6
    have ed8 := upd_same (H := H') (a := pd) (o := .dK (putK kvs (.inl x) (.int (i : Int))))
    generalize upd H' pd (.dK (putK kvs (.inl x) (.int (i : Int)))) = H8 at s8 e68 ed8 ⊢
    walk_at "st"
    refine k_tyL (.of e68) ?_
    walk_at "st"
    refine k_ixL (.of (s8.get hA)) (at_int (by omega) (by rw [Int.toNat_natCast]; exact mapint hx)) ?_
    walk_at "st"
    refine ⟨_, rfl, hu0, hu1, fun p9 H9 hp9 s9 e9 => ?_⟩
    walk_at "st"
    have hl9 := fldO_len ((ks.take i).map upF) 26
    rw [List.length_map, List.length_take] at hl9
    refine k_extend (s9.get e68) e9 (by rw [List.length_map, List.length_map, List.length_append, octs_len]; omega) ?_
    walk_at "st"
    refine ⟨_, putK kvs (.inl x) (.int (i : Int)), hi, rfl, (s8.trans s9).mut hp6H ⟨_, s9.get e68⟩, ?_, (upd_ne n6d.symm).trans (s9.get ed8), by have := putK_len kvs (.inl x) (.int (i : Int)); omega, fun y hy => ?_⟩
    · rw [upd_same, List.take_add_one, hx]
      show _ = some (HO.lst ((Z ++ fldO ((ks.take i ++ [x]).map upF) 26).map V.int))
      rw [show (ks.take i ++ [x]).map upF = (ks.take i).map upF ++ [upF x] by simp, fldO_snoc, ← List.append_assoc, List.map_append (l₂ := octs (upF x) 26)]; rfl
    · rw [valV_put]
      by_cases c : y = x
      · subst c
        rw [if_pos rfl]
        exact ⟨i, rfl, hx⟩
      · rw [if_neg (by intro z; exact c (Sum.inl.inj z))]
        rw [List.take_add_one, hx] at hy
        rcases List.mem_append.mp hy with z | z
        · exact hv y z
        · exact absurd (by simpa using z) c
  subst es
  rw [List.take_length] at e6 hv
  clear hkl' n6d t7
  obtain ⟨rf, hrf⟩ := Classical.axiomOfChoice (r := fun (x : Int) (j : Nat) => x ∈ ks → valV kvs (.inl x) = some (.int (j : Int)) ∧ ks[j]? = some x) fun x => by
    by_cases c : x ∈ ks
    · obtain ⟨j, h1, h2⟩ := hv x c
      exact ⟨j, fun _ => ⟨h1, h2⟩⟩
    · exact ⟨0, fun z => absurd z c⟩
  obtain ⟨row, hrow⟩ : ∃ row, row = sg.map rf := ⟨_, rfl⟩
  have hrr : row.length = sg.length := by rw [hrow, List.length_map]
  have hK : IsK ks sg → row = ranks ks sg := fun g => by
    rw [hrow]
    exact List.map_congr_left fun x hx => (rk_get g.srt (hrf x (hmem x hx)).2).symm
  clear hv
  walk_at "st"
  refine loop_while (fun m σ' H2 => ∃ k : Nat, m = L - k ∧ k ≤ L ∧ H2 = H' ∧ σ' = [some (.ref a), some (.ref b), some (.ref p6), some (.ref pd), v4, some (.int ((2 ^ k : Nat) : Int)), none, none, none, none]) (L) ⟨0, rfl, Nat.zero_le _, rfl, rfl⟩ ?_
  rintro m σ' H2 ⟨k, rfl, hk, rfl, rfl⟩
  walk_at "st"
  refine k_lenL (.of (s.get hA)) ?_
  walk_at "st"
  rw [List.length_map]
  walk_at "if" <;> intro c
  · have c2 : 2 ^ k < ks.length := by exact_mod_cast c
    have hk2 : k < L := by
      rcases Nat.lt_or_ge k (L) with z | z
      · exact z
      · have := hOf_le ks.length
        have := Nat.pow_le_pow_right (show 0 < 2 by decide) z
        rw [hL] at this; omega
    have hb := Nat.pow_le_pow_right (show 0 < 2 by decide) (show k ≤ 12 by omega)
    refine m_wbody ?_
    walk_at "st"
    refine ⟨L - (k + 1), by omega, k + 1, rfl, hk2, rfl, ?_⟩
    rw [show ((2 ^ (k + 1) : Nat) : Int) = 2 * ((2 ^ k : Nat) : Int) by rw [Nat.pow_succ]; push_cast; omega]; rfl
  have hkL : L = k := by
    rcases Nat.lt_or_ge k (L) with z | z
    · rw [hL] at z
      have := hOf_lt (many := ks.length) (k := k) z
      have c2 : ¬ 2 ^ k < ks.length := by exact_mod_cast c
      exact absurd this c2
    · omega
  subst hkL
  clear hk c
  walk_at "st"
  refine m_iLe (.of (s.get hS)) ?_
  refine comp_listV (xs := sg.map V.int) (ys := (natL row).map V.int) (.of (s.get hS)) (by rw [List.length_map]; omega) (by rw [List.length_map, List.length_map, natL_len, hrr]) (fun k x y Ha Q2 hx hy sk q2 => ?_) fun p8 H8 hp8 s8 e8 => ?_
  · obtain ⟨n, en, rfl⟩ := of_mapint hx
    have ey : y = .int (rf n : Nat) := by
      have : ((natL row).map V.int)[k]? = some (.int (rf n : Nat)) := by
        unfold natL
        rw [hrow, List.getElem?_map, List.getElem?_map, List.getElem?_map, en]; rfl
      rw [this] at hy
      exact (Option.some.inj hy).symm
    subst ey
    have hmn := hmem n (List.mem_of_getElem? en)
    refine m_dget ?_
    walk_at "st"
    refine k_dgetE (sk.get ed) (hrf n hmn).1 ?_
    exact q2 _ (Same.refl _)
  have n68 : p6 ≠ p8 := ne_of_none e6 hp8
  replace s := s.trans s8
  replace e6 := s8.get e6
  clear s8 ed
  have hZF : (Z ++ fldO (ks.map upF) 26).length ≤ 78200 := by rw [List.length_append, fldO_len, List.length_map]; omega
  obtain ⟨Y, hY⟩ : ∃ Y, Y = Z ++ fldO (ks.map upF) 26 := ⟨_, rfl⟩
  rw [← hY] at e6 hZF
  walk_at "st"
  have e8' : H8 p8 = some (.lst ((natL (rowsW L row 0)).map V.int)) := e8
  have e6' : H8 p6 = some (.lst ((Y ++ lvsR L row 0).map V.int)) := by rw [e6]; simp [lvsR]
  refine loop_while (fun m σ' H2 => ∃ (l : Nat) (pr : Addr) (v7 v8 v9 : Option V), m = L - l ∧ l ≤ L ∧ Same H H2 ∧ H2 pr = some (.lst ((natL (rowsW L row l)).map V.int)) ∧ p6 ≠ pr ∧ H2 p6 = some (.lst ((Y ++ lvsR L row l).map V.int)) ∧ σ' = [some (.ref a), some (.ref b), some (.ref p6), some (.ref pd), v4, some (.int ((2 ^ (L - l) : Nat) : Int)), some (.ref pr), v7, v8, v9]) (L) ⟨0, p8, none, none, none, rfl, Nat.zero_le _, s, e8', n68, e6', rfl⟩ ?_
  clear e8 e8' e6 e6' s hp8 n68
  rintro m σ' H2 ⟨l, pr, v7, v8, v9, rfl, hle, s, er, n6, e6, rfl⟩
  have hrl : (rowsW L row l).length = sg.length := by rw [rowsW_len, hrr]
  have hb12 := Nat.pow_le_pow_right (show 0 < 2 by decide) (show L - l ≤ 12 by omega)
  walk_at "st"
  walk_at "if" <;> intro c
  · have hl2 : l < L := by
      rcases Nat.lt_or_ge l (L) with z | z
      · exact z
      · rw [show L - l = 0 by omega] at c
        simp at c
    obtain ⟨w, hw, hw2⟩ : ∃ w, w = L - 1 - l ∧ L - l = w + 1 := ⟨_, rfl, by omega⟩
    refine m_wbody ?_
    walk_at "st"
    have eroom : ((2 ^ (L - l) : Nat) : Int) / 2 = ((2 ^ w : Nat) : Int) := by rw [hw2, Nat.pow_succ]; push_cast; omega
    rw [eroom]
    refine k_tyL (.of e6) ?_
    walk_at "st"
    refine m_iLe (.of er) ?_
    refine comp_listV (xs := (natL (rowsW L row l)).map V.int) (ys := (bitsW L row l).map V.int) (.of er) (by rw [List.length_map, natL_len]; omega) (by rw [List.length_map, List.length_map, natL_len, bitsW_len, hrl, hrr]) (fun k x y Ha Q2 hx hy sk q2 => ?_) fun p7 H7 hp7 s7 e7 => ?_
    · obtain ⟨n, en, rfl⟩ := of_mapint hx
      obtain ⟨r, erk, rfl⟩ : ∃ r : Nat, (rowsW L row l)[k]? = some r ∧ (r : Int) = n := by
        unfold natL at en
        rw [List.getElem?_map] at en
        exact Option.map_eq_some_iff.mp en
      have ey : y = .int ((wb w r : Nat) : Int) := by
        have : ((bitsW L row l).map V.int)[k]? = some (.int ((wb w r : Nat) : Int)) := by
          unfold bitsW
          rw [List.getElem?_map, List.getElem?_map, erk, hw]; rfl
        rw [this] at hy
        exact (Option.some.inj hy).symm
      subst ey
      walk_at "st"
      refine k_I (divW_pow w (by omega) _) ?_
      walk_at "st"
      rw [wb_int]
      exact q2 _ (Same.refl _)
    have hBl : (bitsW L row l).length = sg.length := by rw [bitsW_len, hrr]
    walk_at "st"
    refine ⟨p7, bitsW L row l, rfl, e7, bitsW_bits L row l, by omega, fun p9 H9 hp9 s9 e9 => ?_⟩
    have s79 := s7.trans s9
    have heb : (sg.length + 31) / 32 ≤ 129 := by omega
    have hmul : l * (6 * ((sg.length + 31) / 32) + 2) ≤ 12 * 776 := Nat.mul_le_mul (by omega) (by omega)
    have hll := lvsR_len L row l
    rw [hrr] at hll
    have hlo := lvO_len (bitsW L row l)
    rw [hBl] at hlo
    walk_at "st"
    refine k_extend (s79.get e6) e9 (by rw [List.length_map, List.length_map, List.length_append]; omega) ?_
    have t5 : Same H (upd H9 p6 (.lst ((Y ++ lvsR L row l).map V.int ++ (lvO (bitsW L row l)).map V.int))) := (s.trans s79).mut hp6H ⟨_, s79.get e6⟩
    have er5 := (upd_ne (o := .lst ((Y ++ lvsR L row l).map V.int ++ (lvO (bitsW L row l)).map V.int)) n6.symm).trans (s79.get er)
    have e65 : (upd H9 p6 (.lst ((Y ++ lvsR L row l).map V.int ++ (lvO (bitsW L row l)).map V.int))) p6 = some (.lst ((Y ++ lvsR L row (l + 1)).map V.int)) := by rw [upd_same, ← List.map_append, List.append_assoc]; rfl
    generalize upd H9 p6 (.lst ((Y ++ lvsR L row l).map V.int ++ (lvO (bitsW L row l)).map V.int)) = H10 at t5 er5 e65 ⊢
    walk_at "st"
    refine m_iLe (.of er5) ?_
    refine comp_filterI (fun n => decide ((n / ((2 ^ w : Nat) : Int)) % 2 = ((0 : Nat) : Int))) (.of er5) (by rw [natL_len]; omega) (fun k n H1 Qb hk sk qb => ?_) (fun n H1 Q2 q2 => ?_) fun p13 H13 hp13 s13 e13 => ?_
    · walk_at "st"
      refine k_I (divW_pow w (by omega) _) ?_
      walk_at "st"
      exact qb _ (Same.refl _)
    · walk_at "st"
      exact q2
    rw [natL_filter] at e13
    walk_at "st"
    refine m_iLe (.of (s13.get er5)) ?_
    refine comp_filterI (fun n => decide ((n / ((2 ^ w : Nat) : Int)) % 2 = ((1 : Nat) : Int))) (.of (s13.get er5)) (by rw [natL_len]; omega) (fun k n H1 Qb hk sk qb => ?_) (fun n H1 Q2 q2 => ?_) fun p14 H14 hp14 s14 e14 => ?_
    · walk_at "st"
      refine k_I (divW_pow w (by omega) _) ?_
      walk_at "st"
      exact qb _ (Same.refl _)
    · walk_at "st"
      exact q2
    rw [natL_filter] at e14
    have hfl : ∀ b, ((rowsW L row l).filter fun r => decide (wb w r = b)).length ≤ 4096 := fun b => by have := List.length_filter_le (fun r => decide (wb w r = b)) (rowsW L row l); omega
    refine k_catI (s14.get e13) e14 (by rw [natL_len, natL_len]; have := hfl 0; have := hfl 1; omega) fun p15 H15 hp15 s15 e15 => ?_
    have s515 := s13.trans (s14.trans s15)
    refine ⟨L - (l + 1), by omega, l + 1, p15, v7, v8, some (.ref p13), rfl, hl2, t5.trans s515, ?_, ne_of_none ((s13.trans s14).get e65) hp15, s515.get e65, ?_⟩
    · rw [e15]
      have : natL ((rowsW L row l).filter fun r => decide (wb w r = 0)) ++ natL ((rowsW L row l).filter fun r => decide (wb w r = 1)) = natL (rowsW L row (l + 1)) := by
        unfold natL
        rw [← List.map_append, hw]; rfl
      rw [this]
    · rw [show L - (l + 1) = w by omega]; rfl
  · have hll : L = l := by
      rcases Nat.lt_or_ge l (L) with z | z
      · exfalso
        have := Nat.pow_le_pow_right (show 0 < 2 by decide) (show 1 ≤ L - l by omega)
        omega
      · omega
    subst hll
    walk_at "st"
    have eO : Y ++ lvsR L row L = laidO ks row := by
      rw [hY, hZ]
      unfold laidO
      rw [← hL, hrr, show fldO [(sg.length : Int), (ks.length : Int)] 2 = octs (sg.length : Int) 2 ++ octs (ks.length : Int) 2 by unfold fldO; simp]
      simp only [List.cons_append, List.nil_append, List.append_assoc]
    have hml : L * (6 * ((sg.length + 31) / 32) + 2) ≤ 12 * 776 := Nat.mul_le_mul hlv (by omega)
    refine q (laidO ks row) p6 H2 (by rw [laidO_len, ← hL, hrr]; omega) (fun g => by rw [hK g, laidO_K]) hp6H s ?_
    rw [e6, eO]

--#base
/-- _law_signs(script) -/
def sp_law_signs (K : PySem.W.Frag) : Sp := fun vs H Q _ => ∃ (a : Addr) (ns : List Int), vs = [.ref a] ∧ SqL K H a (ns.map V.int) ∧ ∀ (sg : List Int) (p : Addr) (H' : Hp), sg.length ≤ 852 → (∀ x ∈ sg, ¬ FarS x) → H p = none → Same H H' → H' p = some (.lst (sg.map V.int)) → Q (.ref p) H'
theorem len_law_signs (K : PySem.W.Frag) : ∀ vs H Q E, sp_law_signs K vs H Q E → vs.length = 1 := by
  rintro vs H Q E ⟨x, y, rfl, _⟩; rfl
theorem far_mem {sg : List Int} {x : Int} (h : ∀ y ∈ sg, ¬ FarS y) (hx : ¬ FarS x) : ∀ y ∈ sg ++ [x], ¬ FarS y := fun y hy => by
  rcases List.mem_append.mp hy with z | z
  · exact h y z
  · rw [List.mem_singleton.mp z]; exact hx
theorem not_far {x : Int} (h1 : -1000000000000000000000000000000000000000000000000000000000000 < x) (h2 : x < 1000000000000000000000000000000000000000000000000000000000000) : ¬ FarS x := fun z => by unfold FarS at z; omega
def t_law_signs (K : PySem.W.Frag) : TS :=
  (tSeq (tAsg (tLst tNil) (gName 1))
  (tSeq (tFor (iList K (tSl (rSlL K) (tVar 0) tNoPart (tPart (tC (.int 63))))) (gName 2)
  (tSeq (tAsg (tOp rMod (tOp rTimes (tVar 2) (tC (.int 48271))) (tC (.int 2147483647))) (gName 3))
  (tFor (iRng1 (tCons (tOp rPlus (tC (.int 1)) (tOp rMod (tOp rDiv (tVar 3) (tC (.int 4))) (tC (.int 4)))) tNil)) (gName 4)
  (tSeq (tAsg (tOp rMod (tOp rMod (tOp rTimes (tOp rTimes (tVar 3) (tOp rPlus (tOp rTimes (tC (.int 2)) (tVar 4)) (tC (.int 3)))) (tC (.int 69621))) (tC (.int 2147483629))) (tC (.int 5))) (gName 5))
  (Evl.tCut (tIfS (tTest (tOp rEq (tOp rMod (tVar 3) (tC (.int 4))) (tC (.int 1))))
  (tAsg (tOp rMinus (tOp rMod (tOp rMod (tOp rTimes (tOp rTimes (tVar 3) (tOp rPlus (tOp rTimes (tC (.int 2)) (tVar 4)) (tC (.int 3)))) (tC (.int 69621))) (tC (.int 2147483629))) (tC (.int 201))) (tC (.int 100))) (gName 5))
  tNext)
  (Evl.tCut (tIfS (tTest (tOp rEq (tOp rMod (tVar 3) (tC (.int 4))) (tC (.int 2))))
  (tAsg (tOp rPlus (tOp rMinus (tOp rMod (tOp rTimes (tOp rPlus (tVar 2) (tOp rTimes (tVar 4) (tVar 4))) (tC (.int 982451653))) (tC (.int 1999999999999999999999999999999999999999999999999999999999999))) (tC (.int 1000000000000000000000000000000000000000000000000000000000000))) (tC (.int 1))) (gName 5))
  tNext)
  (Evl.tCut (tIfS (tAnd (tTest (tOp rEq (tOp rMod (tVar 3) (tC (.int 4))) (tC (.int 3)))) (tTest (tOp rGtI (tCB (rLen K) (tCons (tVar 1) tNil)) (tC (.int 0)))))
  (tAsg (tOp (rIxL K) (tVar 1) (tOp rDiv (tCB (rLen K) (tCons (tVar 1) tNil)) (tC (.int 2)))) (gName 5))
  tNext)
  (tDrop (tBM K "list" rAppend (tVar 1) (tCons (tVar 5) tNil))))))))))
  (Evl.tCut (tIfS (tTest (tOp rEq (tOp rMod (tCall (sp_law_cell_at K) [] E0 (tCons (tVar 0) (tCons (tC (.int 6)) tNil))) (tC (.int 9))) (tC (.int 4))))
  (tSeq (tAsg (tOp rMod (tCall (sp_law_cell_at K) [] E0 (tCons (tVar 0) (tCons (tC (.int 7)) tNil))) (tC (.int 100000000000000000000000000000000000000000000000000000000000))) (gName 6))
  (tAsg (tOp rCat (tVar 1) (tLc (iRng1 (tCons (tOp rPlus (tC (.int 300)) (tOp rMod (tCall (sp_law_cell_at K) [] E0 (tCons (tVar 0) (tCons (tC (.int 8)) tNil))) (tC (.int 301)))) tNil)) (gName 4) tYes (tOp rPlus (tVar 6) (tOp rTimes (tOp rMod (tVar 6) (tC (.int 2))) (tVar 4))) [4])) (gName 1)))
  tNext)
  (tRet (tVar 1)))))
abbrev n_law_signs : List Str := ["_law_script", "_law_signs_here", "_law_cell", "_law_number", "_law_k", "_law_sign", "_law_far"]

theorem rd_law_signs (K : PySem.W.Frag) (vs : List V) (H : Hp) (Q : VK) (E : XK) (h : sp_law_signs K vs H Q E) : t_law_signs K { nx := fun _ H' => Q .non H', rt := Q } (start n_law_signs vs) H := by
  obtain ⟨a, ns, rfl, hS, q⟩ := h
  unfold t_law_signs
  walk_at "st"
  intro p hp
  have s0 := same_new (o := .lst []) hp
  have e0 := upd_same (H := H) (a := p) (o := .lst [])
  generalize upd H p (.lst []) = H1 at s0 e0 ⊢
  walk_at "st"
  refine k_slTake (k := 63) (s0.seq hS) fun p1 H2 hp1 s1 e1 => ?_
  have e0' := s1.get e0
  have np1 : p ≠ p1 := ne_of_none e0 hp1
  have t1 := s0.trans s1
  refine m_iLe (.of e1) ?_
  have hl63 : (ns.take 63).length ≤ 63 := by rw [List.length_take]; omega
  refine loop_ints (ns := ns.take 63) (fun i σ' H' => ∃ (sg : List Int) (v2 v3 v4 v5 : Option V), i ≤ (ns.take 63).length ∧ Same H H' ∧ H' p1 = some (.lst ((ns.take 63).map V.int)) ∧ H' p = some (.lst (sg.map V.int)) ∧ sg.length ≤ 4 * i ∧ (∀ x ∈ sg, ¬ FarS x) ∧ σ' = [some (.ref a), some (.ref p), v2, v3, v4, v5, none]) ⟨[], none, none, none, none, Nat.zero_le _, t1, e1, e0', by simp, by simp, rfl⟩ (fun i σ' H' ⟨_, _, _, _, _, _, _, e, _⟩ => .of e) (fun i c σ' H' hc ⟨sg, v2, v3, v4, v5, hi, s, ex, e, hsl, hf, es⟩ => ?_) (fun σ' H' ⟨sg, v2, v3, v4, v5, _, s, _, e, hsl, hf, es⟩ => ?_)
  · subst es
    have hi2 := (List.getElem?_eq_some_iff.mp hc).1
    walk_at "st"
    obtain ⟨n, hn⟩ : ∃ n, n = c * 48271 % 2147483647 := ⟨_, rfl⟩
    have hn0 : 0 ≤ n ∧ n < 2147483647 := by omega
    rw [← hn]
    clear hn
    obtain ⟨m, hm⟩ : ∃ m, m = n / 4 % 4 := ⟨_, rfl⟩
    have hm0 : 0 ≤ m ∧ m < 4 := by omega
    rw [← hm]
    refine loop_range0 (fun k σ' H' => ∃ (sg' : List Int) (v4 v5 : Option V), Same H H' ∧ H' p1 = some (.lst ((ns.take 63).map V.int)) ∧ H' p = some (.lst (sg'.map V.int)) ∧ sg'.length ≤ 4 * i + k ∧ (∀ x ∈ sg', ¬ FarS x) ∧ σ' = [some (.ref a), some (.ref p), some (.int c), some (.int n), v4, v5, none]) ⟨sg, v4, v5, s, ex, e, by omega, hf, rfl⟩ (fun k σ' H' hk ⟨sg, v4, v5, s, ex, e, hsl, hf, es⟩ => ?_) (fun σ' H' ⟨sg, v4, v5, s, ex, e, hsl, hf, es⟩ => ?_)
    · subst es
      have hk4 : k < 4 := by omega
      have fin : ∀ (x : Int) (v4 v5 : Option V), ¬ FarS x → ∃ (sg' : List Int) (v4' v5' : Option V), Same H (upd H' p (.lst (sg.map V.int ++ [V.int x]))) ∧ (upd H' p (.lst (sg.map V.int ++ [V.int x]))) p1 = some (.lst ((ns.take 63).map V.int)) ∧ (upd H' p (.lst (sg.map V.int ++ [V.int x]))) p = some (.lst (sg'.map V.int)) ∧ sg'.length ≤ 4 * i + (k + 1) ∧ (∀ x ∈ sg', ¬ FarS x) ∧ [some (.ref a), some (.ref p), some (.int c), some (.int n), v4, v5, none] = [some (.ref a), some (.ref p), some (.int c), some (.int n), v4', v5', none] := fun x v4 v5 hx =>
        ⟨sg ++ [x], v4, v5, s.mut hp ⟨_, e⟩, by rw [upd_ne np1.symm]; exact ex, by rw [upd_same, List.map_append]; rfl, by rw [List.length_append, List.length_singleton]; omega, far_mem hf hx, rfl⟩
      walk_at "st"
      obtain ⟨w, hw⟩ : ∃ w, w = n * (2 * (k : Int) + 3) * 69621 % 2147483629 := ⟨_, rfl⟩
      have hw0 : 0 ≤ w ∧ w < 2147483629 := by omega
      rw [← hw]
      refine m_cut (fun σ' H3 => H3 = H' ∧ ∃ x : Int, ¬ FarS x ∧ σ' = [some (.ref a), some (.ref p), some (.int c), some (.int n), some (.int (k : Int)), some (.int x), none]) ?_ ?_
      · walk_at "st"
        walk_at "if" <;> intro c1
        · walk_at "st"
          rw [← hw]
          exact ⟨rfl, _, not_far (by omega) (by omega), rfl⟩
        · walk_at "st"
          exact ⟨rfl, _, not_far (by omega) (by omega), rfl⟩
      clear hw
      rintro σ' H3 ⟨rfl, x1, hx1, rfl⟩
      refine m_cut (fun σ' H4 => H4 = H3 ∧ ∃ x : Int, ¬ FarS x ∧ σ' = [some (.ref a), some (.ref p), some (.int c), some (.int n), some (.int (k : Int)), some (.int x), none]) ?_ ?_
      · walk_at "st"
        walk_at "if" <;> intro c1
        · walk_at "st"
          refine ⟨rfl, _, not_far ?_ ?_, rfl⟩ <;> omega
        · walk_at "st"
          exact ⟨rfl, _, hx1, rfl⟩
      rintro σ' H4 ⟨rfl, x2, hx2, rfl⟩
      refine m_cut (fun σ' H5 => H5 = H4 ∧ ∃ x : Int, ¬ FarS x ∧ σ' = [some (.ref a), some (.ref p), some (.int c), some (.int n), some (.int (k : Int)), some (.int x), none]) ?_ ?_
      · walk_at "st"
        walk_at "if" <;> intro c1
        · walk_at "st"
          refine k_lenL (.of e) ?_
          walk_at "st"
          rw [List.length_map]
          walk_at "if" <;> intro c2
          · walk_at "st"
            refine k_lenL (.of e) ?_
            walk_at "st"
            rw [List.length_map]
            have hlt : sg.length / 2 < sg.length := by omega
            refine k_ixL (.of e) (x := .int (sg[sg.length / 2])) (by rw [show ((sg.length : Int)) / 2 = ((sg.length / 2 : Nat) : Int) by omega]; exact at_nat (mapint (List.getElem?_eq_getElem hlt))) ?_
            walk_at "st"
            exact ⟨rfl, _, hf _ (List.getElem_mem hlt), rfl⟩
          · walk_at "st"
            exact ⟨rfl, _, hx2, rfl⟩
        · walk_at "st"
          exact ⟨rfl, _, hx2, rfl⟩
      rintro σ' H5 ⟨rfl, x3, hx3, rfl⟩
      walk_at "st"
      refine k_tyL (.of e) ?_
      walk_at "st"
      refine k_app e (by rw [List.length_map]; omega) ?_
      exact fin x3 _ _ hx3
    · subst es
      walk_at "st"
      exact ⟨sg, _, _, _, _, hi2, s, ex, e, by omega, hf, rfl⟩
  subst es
  have hS' := s.seq hS
  refine m_cut (fun σ' H4 => ∃ (sg' : List Int) (p' : Addr) (v2 v3 v4 v5 v6 : Option V), Same H H4 ∧ H p' = none ∧ H4 p' = some (.lst (sg'.map V.int)) ∧ sg'.length ≤ 852 ∧ (∀ x ∈ sg', ¬ FarS x) ∧ σ' = [some (.ref a), some (.ref p'), v2, v3, v4, v5, v6]) ?_ ?_
  · walk_at "st"
    refine call_cell_at hS' (by decide) fun c6 hc6 => ?_
    walk_at "st"
    walk_at "if" <;> intro z1
    · walk_at "st"
      refine call_cell_at hS' (by decide) fun c7 hc7 => ?_
      walk_at "st"
      obtain ⟨far, hfar⟩ : ∃ far, far = c7 % 100000000000000000000000000000000000000000000000000000000000 := ⟨_, rfl⟩
      have hf0 : 0 ≤ far ∧ far < 100000000000000000000000000000000000000000000000000000000000 := by omega
      rw [← hfar]
      clear hfar
      refine call_cell_at hS' (by decide) fun c8 hc8 => ?_
      walk_at "st"
      obtain ⟨m, hm⟩ : ∃ m, m = c8 % 301 := ⟨_, rfl⟩
      have hm0 : 0 ≤ m ∧ m < 301 := by omega
      rw [← hm]
      refine comp_rangeV (f := fun k => V.int (far + far % 2 * (k : Int))) (by omega) (fun k H2 Q2 hk s2 q2 => ?_) fun p4 H4 hp4 s4 e4 => ?_
      · walk_at "st"
        exact q2 _ (Same.refl _)
      rw [show (fun k : Nat => V.int (far + far % 2 * (k : Int))) = V.int ∘ (fun k : Nat => far + far % 2 * (k : Int)) from rfl, ← List.map_map] at e4
      refine k_catI (s4.get e) e4 (by rw [List.length_map, List.length_range]; omega) fun p5 H5 hp5 s5 e5 => ?_
      walk_at "st"
      refine ⟨_, p5, _, _, _, _, _, s.trans (s4.trans s5), (s.trans s4).gone _ hp5, e5, by rw [List.length_append, List.length_map, List.length_range]; omega, fun x hx => ?_, rfl⟩
      rcases List.mem_append.mp hx with z | z
      · exact hf x z
      · obtain ⟨k, hk, rfl⟩ := List.mem_map.mp z
        have hk2 := List.mem_range.mp hk
        have h2 : far % 2 = 0 ∨ far % 2 = 1 := by omega
        rcases h2 with w | w <;> rw [w] <;> exact not_far (by omega) (by omega)
    · walk_at "st"
      exact ⟨sg, p, _, _, _, _, _, s, hp, e, by omega, hf, rfl⟩
  rintro σ' H4 ⟨sg', p', v2, v3, v4, v5, v6, s4, hp', e4, h1, h2, rfl⟩
  walk_at "st"
  exact q sg' p' H4 h1 h2 hp' s4 e4

/-- _law_changed(octets, cell): some other octets, or the same -/
def sp_law_changed (K : PySem.W.Frag) : Sp := fun vs H Q _ => ∃ (a : Addr) (os : List Int) (c : Int), vs = [.ref a, .int c] ∧ H a = some (.lst (os.map V.int)) ∧ os.length ≤ 60000 ∧ ∀ p (ns : List Int) H', Same H H' → H' p = some (.lst (ns.map V.int)) → ns.length ≤ os.length + 1 → Q (.ref p) H'
theorem len_law_changed (K : PySem.W.Frag) : ∀ vs H Q E, sp_law_changed K vs H Q E → vs.length = 2 := by
  rintro vs H Q E ⟨x, y, z, rfl, _⟩; rfl
/-- how long a part may be -/
def cutW (n : Nat) : Option Int → Option Int → Nat
  | none, some b => min n b.toNat
  | some a, none => n - a.toNat
  | some a, some b => min n b.toNat - a.toNat
  | none, none => n
theorem cutW_le {ns cs : List Int} {lo hi : Option Int} (h0 : ∀ z, lo = some z → 0 ≤ z) (h1 : ∀ z, hi = some z → 0 ≤ z) (e : cutV (ns.map V.int) lo hi = cs.map V.int) (hl : cs.length ≤ ns.length) : cs.length ≤ cutW ns.length lo hi := by
  cases lo with
  | none =>
    cases hi with
    | none => exact hl
    | some b =>
      obtain ⟨k, rfl⟩ := Int.eq_ofNat_of_zero_le (h1 b rfl)
      have := congrArg List.length e
      rw [cutTake, List.length_take, List.length_map, List.length_map] at this
      show _ ≤ min ns.length ((k : Int)).toNat
      omega
  | some a =>
    obtain ⟨j, rfl⟩ := Int.eq_ofNat_of_zero_le (h0 a rfl)
    cases hi with
    | none =>
      have := congrArg List.length e
      rw [cutDrop, List.length_drop, List.length_map, List.length_map] at this
      show _ ≤ ns.length - ((j : Int)).toNat
      omega
    | some b =>
      obtain ⟨k, rfl⟩ := Int.eq_ofNat_of_zero_le (h1 b rfl)
      have := congrArg List.length e
      rw [cutPart, List.length_drop, List.length_take, List.length_map, List.length_map] at this
      show _ ≤ min ns.length ((k : Int)).toNat - ((j : Int)).toNat
      omega
theorem k_slI {K : PySem.W.Frag} {H : Hp} {Q : VK} {a : Addr} {ns : List Int} {lo hi : Option Int} (h : H a = some (.lst (ns.map V.int))) (q : ∀ (cs : List Int) l H', cs.length ≤ cutW ns.length lo hi → H l = none → Same H H' → H' l = some (.lst (cs.map V.int)) → Q (.ref l) H') (h0 : ∀ z, lo = some z → 0 ≤ z := by (intro z hz; cases hz <;> omega)) (h1 : ∀ z, hi = some z → 0 ≤ z := by (intro z hz; cases hz <;> omega)) : rSlL K (.ref a) lo hi H Q := by
  obtain ⟨cs, e, _, hl⟩ := cut_ints ns lo hi
  refine k_slL (.of h) fun l hl0 => ?_
  rw [e]
  exact q cs l _ (cutW_le h0 h1 e hl) hl0 (same_new hl0) upd_same
def t_law_changed (K : PySem.W.Frag) : TS :=
  (tSeq (tAsg (tOp rMod (tVar 1) (tC (.int 1000000000000000000000000000000000000000000000000000000000000))) (gName 2))
  (tSeq (tAsg (tOp rMod (tOp rDiv (tVar 2) (tC (.int 7))) (tOp rPlus (tCB (rLen K) (tCons (tVar 0) tNil)) (tC (.int 1)))) (gName 3))
  (tSeq (tAsg (tOp rMod (tOp rMod (tOp rTimes (tVar 2) (tC (.int 69621))) (tC (.int 2147483629))) (tC (.int 256))) (gName 4))
  (tSeq (tIfS (tAnd (tTest (tOp rEq (tOp rMod (tVar 2) (tC (.int 7))) (tC (.int 0)))) (tTest (tOp rLt (tVar 3) (tCB (rLen K) (tCons (tVar 0) tNil)))))
  (tSeq (tAsg (tOp rShlW (tC (.int 1)) (tOp rMod (tVar 4) (tC (.int 8)))) (gName 5))
  (tRet (tOp rCat (tOp rCat (tSl (rSlL K) (tVar 0) tNoPart (tPart (tVar 3))) (tLst (tCons (tOp rBitXor (tOp (rIxL K) (tVar 0) (tVar 3)) (tVar 5)) tNil))) (tSl (rSlL K) (tVar 0) (tPart (tOp rPlus (tVar 3) (tC (.int 1)))) tNoPart))))
  tNext)
  (tSeq (tIfS (tAnd (tTest (tOp rEq (tOp rMod (tVar 2) (tC (.int 7))) (tC (.int 1)))) (tTest (tOp rLt (tVar 3) (tCB (rLen K) (tCons (tVar 0) tNil)))))
  (tRet (tOp rCat (tOp rCat (tSl (rSlL K) (tVar 0) tNoPart (tPart (tVar 3))) (tLst (tCons (tOp (rIxL K) (tLst (tCons (tVar 4) (tCons (tOp rPlus (tC (.int 256)) (tVar 2)) (tCons (tOp rMinus (tC (.int (-1))) (tVar 2)) tNil)))) (tOp rMod (tVar 4) (tC (.int 3)))) tNil))) (tSl (rSlL K) (tVar 0) (tPart (tOp rPlus (tVar 3) (tC (.int 1)))) tNoPart)))
  tNext)
  (tSeq (tIfS (tTest (tOp rEq (tOp rMod (tVar 2) (tC (.int 7))) (tC (.int 2))))
  (tRet (tOp rCat (tOp rCat (tSl (rSlL K) (tVar 0) tNoPart (tPart (tVar 3))) (tLst (tCons (tVar 4) tNil))) (tSl (rSlL K) (tVar 0) (tPart (tVar 3)) tNoPart)))
  tNext)
  (tSeq (tIfS (tTest (tOp rEq (tOp rMod (tVar 2) (tC (.int 7))) (tC (.int 3))))
  (tRet (tOp rCat (tSl (rSlL K) (tVar 0) tNoPart (tPart (tVar 3))) (tSl (rSlL K) (tVar 0) (tPart (tOp rPlus (tVar 3) (tC (.int 1)))) tNoPart)))
  tNext)
  (tSeq (tIfS (tAnd (tTest (tOp rEq (tOp rMod (tVar 2) (tC (.int 7))) (tC (.int 4)))) (tTest (tOp rLt (tVar 3) (tCB (rLen K) (tCons (tVar 0) tNil)))))
  (tRet (tOp rCat (tOp rCat (tSl (rSlL K) (tVar 0) tNoPart (tPart (tVar 3))) (tRevL K (tSl (rSlL K) (tVar 0) (tPart (tVar 3)) (tPart (tOp rPlus (tVar 3) (tC (.int 2))))))) (tSl (rSlL K) (tVar 0) (tPart (tOp rPlus (tVar 3) (tC (.int 2)))) tNoPart)))
  tNext)
  (tSeq (tIfS (tTest (tOp rEq (tOp rMod (tVar 2) (tC (.int 7))) (tC (.int 5))))
  (tRet (tOp (rCatK K) (tVar 0) (tLst (tCons (tC (.int 0)) tNil))))
  tNext)
  (tRet (tVar 0)))))))))))
abbrev n_law_changed : List Str := ["_law_octets", "_law_cell", "_law_number", "_law_at", "_law_drawn", "_law_bit"]

theorem rd_law_changed (K : PySem.W.Frag) (vs : List V) (H : Hp) (Q : VK) (E : XK) (h : sp_law_changed K vs H Q E) : t_law_changed K { nx := fun _ H' => Q .non H', rt := Q } (start n_law_changed vs) H := by
  obtain ⟨a, os, c, rfl, hS, hl, q⟩ := h
  unfold t_law_changed
  walk_at "st"
  refine k_lenL (.of hS) ?_
  walk_at "st"
  rw [List.length_map]
  generalize c % 1000000000000000000000000000000000000000000000000000000000000 = n
  obtain ⟨k, hk, hkl⟩ : ∃ k : Nat, (n / 7 % ((os.length : Int) + 1)) = (k : Int) ∧ k ≤ os.length := by
    have m0 := Int.emod_nonneg (n / 7) (show ((os.length : Int) + 1) ≠ 0 by omega)
    have m1 := Int.emod_lt_of_pos (n / 7) (show (0 : Int) < (os.length : Int) + 1 by omega)
    exact ⟨(n / 7 % ((os.length : Int) + 1)).toNat, by omega, by omega⟩
  rw [hk]
  obtain ⟨d, hd, hd0, hd1⟩ : ∃ d : Int, n * 69621 % 2147483629 % 256 = d ∧ 0 ≤ d ∧ d < 256 := ⟨_, rfl, by omega, by omega⟩
  rw [hd]
  clear hd hk
  by_cases c0 : n % 7 = 0
  · rw [if_pos (decide_eq_true c0)]
    walk_at "st"
    refine k_lenL (.of hS) ?_
    walk_at "st"
    rw [List.length_map]
    by_cases c0' : (k : Int) < (os.length : Int)
    · rw [if_pos (decide_eq_true c0')]
      have hlt : k < os.length := by omega
      walk_at "st"
      have hsh : CShl 1 (d % 8) := by
        obtain ⟨j, hj, hj2⟩ : ∃ j : Nat, d % 8 = (j : Int) ∧ j ≤ 8 := ⟨(d % 8).toNat, by omega, by omega⟩
        rw [hj]
        exact shl_ok (n := 1) (by decide) (by omega)
      refine k_I hsh ?_
      walk_at "st"
      generalize (1 * 2 ^ (d % 8).toNat : Int) = sh
      refine k_slI hS fun A a1 H1 hA h1 s1 e1 => ?_
      simp only [cutW] at hA
      walk_at "st"
      refine k_ixL (.of (s1.get hS)) (at_int (by omega) (i := (k : Int)) (by rw [Int.toNat_natCast]; exact mapint (List.getElem?_eq_getElem hlt))) ?_
      walk_at "st"
      generalize Builtin.bitXor os[k] sh = x
      intro a2 h2
      have e2 := upd_same (H := H1) (a := a2) (o := .lst [.int (x)])
      have s2 := same_new (o := .lst [.int (x)]) h2
      generalize upd H1 a2 (.lst [.int (x)]) = H2 at e2 s2 ⊢
      walk_at "st"
      refine k_catI (xs := A) (ys := [x]) (s2.get e1) e2 (by simp only [List.length_cons, List.length_nil]; omega) fun a3 H3 h3 s3 e3 => ?_
      walk_at "st"
      refine k_slI (((s1.trans s2).trans s3).get hS) fun B a4 H4 hB h4 s4 e4 => ?_
      simp only [cutW] at hB
      walk_at "st"
      refine k_catI (s4.get e3) e4 (by rw [List.length_append]; simp only [List.length_cons, List.length_nil]; omega) fun a5 H5 h5 s5 e5 => ?_
      exact q a5 _ H5 (((s1.trans s2).trans (s3.trans s4)).trans s5) e5 (by rw [List.length_append, List.length_append]; simp only [List.length_cons, List.length_nil]; omega)
    · rw [if_neg (by rw [decide_eq_true_eq]; exact c0')]
      walk_at "st"
      rw [if_neg (by rw [decide_eq_true_eq]; omega)]
      walk_at "st"
      rw [if_neg (by rw [decide_eq_true_eq]; omega)]
      walk_at "st"
      rw [if_neg (by rw [decide_eq_true_eq]; omega)]
      walk_at "st"
      rw [if_neg (by rw [decide_eq_true_eq]; omega)]
      walk_at "st"
      rw [if_neg (by rw [decide_eq_true_eq]; omega)]
      walk_at "st"
      exact q a os H (Same.refl _) hS (by omega)
  rw [if_neg (by rw [decide_eq_true_eq]; exact c0)]
  walk_at "st"
  by_cases c1 : n % 7 = 1
  · rw [if_pos (decide_eq_true c1)]
    walk_at "st"
    refine k_lenL (.of hS) ?_
    walk_at "st"
    rw [List.length_map]
    by_cases c1' : (k : Int) < (os.length : Int)
    · rw [if_pos (decide_eq_true c1')]
      have hlt : k < os.length := by omega
      walk_at "st"
      refine k_slI hS fun A a1 H1 hA h1 s1 e1 => ?_
      simp only [cutW] at hA
      walk_at "st"
      intro b1 hb1
      have sb1 := same_new (o := .lst [.int d, .int (256 + n), .int (-1 - n)]) hb1
      have e1b := sb1.get e1
      have s1b := s1.trans sb1
      walk_at "st"
      obtain ⟨y, hy⟩ : ∃ y : Int, atI [V.int d, V.int (256 + n), V.int (-1 - n)] (d % 3) = some (V.int y) := by
        obtain ⟨j, hj, hj2⟩ : ∃ j : Nat, d % 3 = (j : Int) ∧ j < 3 := ⟨(d % 3).toNat, by omega, by omega⟩
        rw [hj]
        match j, hj2 with
        | 0, _ => exact ⟨_, at_int (by decide) rfl⟩
        | 1, _ => exact ⟨_, at_int (by decide) rfl⟩
        | 2, _ => exact ⟨_, at_int (by decide) rfl⟩
      refine k_ixL (.of upd_same) hy ?_
      generalize upd H1 b1 (.lst [.int d, .int (256 + n), .int (-1 - n)]) = H1c at e1b s1b ⊢
      walk_at "st"
      intro a2 h2
      have e2 := upd_same (H := H1c) (a := a2) (o := .lst [.int (y)])
      have s2 := same_new (o := .lst [.int (y)]) h2
      generalize upd H1c a2 (.lst [.int (y)]) = H2 at e2 s2 ⊢
      walk_at "st"
      refine k_catI (xs := A) (ys := [y]) (s2.get e1b) e2 (by simp only [List.length_cons, List.length_nil]; omega) fun a3 H3 h3 s3 e3 => ?_
      walk_at "st"
      refine k_slI (((s1b.trans s2).trans s3).get hS) fun B a4 H4 hB h4 s4 e4 => ?_
      simp only [cutW] at hB
      walk_at "st"
      refine k_catI (s4.get e3) e4 (by rw [List.length_append]; simp only [List.length_cons, List.length_nil]; omega) fun a5 H5 h5 s5 e5 => ?_
      exact q a5 _ H5 (((s1b.trans s2).trans (s3.trans s4)).trans s5) e5 (by rw [List.length_append, List.length_append]; simp only [List.length_cons, List.length_nil]; omega)
    · rw [if_neg (by rw [decide_eq_true_eq]; exact c1')]
      walk_at "st"
      rw [if_neg (by rw [decide_eq_true_eq]; omega)]
      walk_at "st"
      rw [if_neg (by rw [decide_eq_true_eq]; omega)]
      walk_at "st"
      rw [if_neg (by rw [decide_eq_true_eq]; omega)]
      walk_at "st"
      rw [if_neg (by rw [decide_eq_true_eq]; omega)]
      walk_at "st"
      exact q a os H (Same.refl _) hS (by omega)
  rw [if_neg (by rw [decide_eq_true_eq]; exact c1)]
  walk_at "st"
  by_cases c2 : n % 7 = 2
  · rw [if_pos (decide_eq_true c2)]
    walk_at "st"
    refine k_slI hS fun A a1 H1 hA h1 s1 e1 => ?_
    simp only [cutW] at hA
    walk_at "st"
    intro a2 h2
    have e2 := upd_same (H := H1) (a := a2) (o := .lst [.int (d)])
    have s2 := same_new (o := .lst [.int (d)]) h2
    generalize upd H1 a2 (.lst [.int (d)]) = H2 at e2 s2 ⊢
    walk_at "st"
    refine k_catI (xs := A) (ys := [d]) (s2.get e1) e2 (by simp only [List.length_cons, List.length_nil]; omega) fun a3 H3 h3 s3 e3 => ?_
    walk_at "st"
    refine k_slI (((s1.trans s2).trans s3).get hS) fun B a4 H4 hB h4 s4 e4 => ?_
    simp only [cutW] at hB
    walk_at "st"
    refine k_catI (s4.get e3) e4 (by rw [List.length_append]; simp only [List.length_cons, List.length_nil]; omega) fun a5 H5 h5 s5 e5 => ?_
    exact q a5 _ H5 (((s1.trans s2).trans (s3.trans s4)).trans s5) e5 (by rw [List.length_append, List.length_append]; simp only [List.length_cons, List.length_nil]; omega)
  rw [if_neg (by rw [decide_eq_true_eq]; exact c2)]
  walk_at "st"
  by_cases c3 : n % 7 = 3
  · rw [if_pos (decide_eq_true c3)]
    walk_at "st"
    refine k_slI hS fun A a1 H1 hA h1 s1 e1 => ?_
    simp only [cutW] at hA
    walk_at "st"
    refine k_slI (s1.get hS) fun B a4 H4 hB h4 s4 e4 => ?_
    simp only [cutW] at hB
    walk_at "st"
    refine k_catI (s4.get e1) e4 (by omega) fun a5 H5 h5 s5 e5 => ?_
    exact q a5 _ H5 ((s1.trans s4).trans s5) e5 (by rw [List.length_append]; omega)
  rw [if_neg (by rw [decide_eq_true_eq]; exact c3)]
  walk_at "st"
  by_cases c4 : n % 7 = 4
  · rw [if_pos (decide_eq_true c4)]
    walk_at "st"
    refine k_lenL (.of hS) ?_
    walk_at "st"
    rw [List.length_map]
    by_cases c4' : (k : Int) < (os.length : Int)
    · rw [if_pos (decide_eq_true c4')]
      have hlt : k < os.length := by omega
      walk_at "st"
      refine k_slI hS fun A a1 H1 hA h1 s1 e1 => ?_
      simp only [cutW] at hA
      walk_at "st"
      refine k_slI (s1.get hS) fun M a2 H2 hM h2 s2 e2 => ?_
      simp only [cutW] at hM
      refine ⟨a2, _, rfl, .of e2, fun a3 h3 => ?_⟩
      rw [← List.map_reverse]
      have s3 := same_new (o := .lst (M.reverse.map V.int)) h3
      have e3 := upd_same (H := H2) (a := a3) (o := .lst (M.reverse.map V.int))
      generalize upd H2 a3 (.lst (M.reverse.map V.int)) = H3 at s3 e3 ⊢
      refine k_catI ((s2.trans s3).get e1) e3 (by rw [List.length_reverse]; omega) fun a4 H4 h4 s4 e4 => ?_
      walk_at "st"
      refine k_slI (((s1.trans s2).trans (s3.trans s4)).get hS) fun B a5 H5 hB h5 s5 e5 => ?_
      simp only [cutW] at hB
      walk_at "st"
      refine k_catI (s5.get e4) e5 (by rw [List.length_append, List.length_reverse]; omega) fun a6 H6 h6 s6 e6 => ?_
      exact q a6 _ H6 (((s1.trans s2).trans (s3.trans s4)).trans (s5.trans s6)) e6 (by rw [List.length_append, List.length_append, List.length_reverse]; omega)
    · rw [if_neg (by rw [decide_eq_true_eq]; exact c4')]
      walk_at "st"
      rw [if_neg (by rw [decide_eq_true_eq]; omega)]
      walk_at "st"
      exact q a os H (Same.refl _) hS (by omega)
  rw [if_neg (by rw [decide_eq_true_eq]; exact c4)]
  walk_at "st"
  by_cases c5 : n % 7 = 5
  · rw [if_pos (decide_eq_true c5)]
    walk_at "st"
    intro a1 h1
    have s1 := same_new (o := .lst [.int 0]) h1
    have e1 := upd_same (H := H) (a := a1) (o := .lst [.int 0])
    generalize upd H a1 (.lst [.int 0]) = H1 at s1 e1 ⊢
    refine k_catK (xs := os.map V.int) (zs := ([0] : List Int).map V.int) (.of (s1.get hS)) (.of e1) (by rw [List.length_map, List.length_map]; simp only [List.length_cons, List.length_nil]; omega) fun p hp => ?_
    exact q p (os ++ [0]) _ (s1.trans (same_new hp)) (by rw [upd_same, List.map_append]) (by rw [List.length_append]; simp only [List.length_cons, List.length_nil]; omega)
  rw [if_neg (by rw [decide_eq_true_eq]; exact c5)]
  walk_at "st"
  walk_at "st"
  exact q a os H (Same.refl _) hS (by omega)

theorem mem_three {ks : List Int} {x : Int} (k j : Nat) : x ∈ ks ↔ x ∈ ks.take k ∨ x ∈ (ks.take (k + j)).drop k ∨ x ∈ ks.drop (k + j) := by
  have e1 : ks.take (k + j) = ks.take k ++ (ks.take (k + j)).drop k := by
    have := (List.take_append_drop k (ks.take (k + j))).symm
    rw [List.take_take, Nat.min_eq_left (Nat.le_add_right k j)] at this
    exact this
  conv => lhs; rw [← List.take_append_drop (k + j) ks, e1]
  rw [List.mem_append, List.mem_append, or_assoc]
theorem count_up {ks : List Int} {o : Int} (h : o ∈ ks) : (ks.filter fun y => decide (o + 1 ≤ y)).length < (ks.filter fun y => decide (o ≤ y)).length := by
  induction ks with
  | nil => cases h
  | cons y ys ih =>
    have hle : (ys.filter fun y => decide (o + 1 ≤ y)).length ≤ (ys.filter fun y => decide (o ≤ y)).length := by
      rw [← List.countP_eq_length_filter, ← List.countP_eq_length_filter]
      refine List.countP_mono_left fun z _ hz => ?_
      have := of_decide_eq_true hz
      exact decide_eq_true (by omega)
    rcases List.mem_cons.mp h with z | z
    · subst z
      rw [List.filter_cons_of_neg (by simp; omega), List.filter_cons_of_pos (by simp), List.length_cons]; omega
    · have := ih z
      by_cases c1 : o + 1 ≤ y
      · rw [List.filter_cons_of_pos (by simpa using c1), List.filter_cons_of_pos (by simp; omega), List.length_cons, List.length_cons]; omega
      · rw [List.filter_cons_of_neg (by simpa using c1)]
        by_cases c2 : o ≤ y
        · rw [List.filter_cons_of_pos (by simpa using c2), List.length_cons]; omega
        · rw [List.filter_cons_of_neg (by simpa using c2)]; exact this
/-- _law_odd_kinds(kinds, cell) -/
def sp_law_odd_kinds (K : PySem.W.Frag) : Sp := fun vs H Q _ => ∃ (a : Addr) (ks : List Int) (c : Int), vs = [.ref a, .int c] ∧ H a = some (.lst (ks.map V.int)) ∧ ks.length ≤ 2000 ∧ (∀ x ∈ ks, ¬ FarS x) ∧
  ∀ (ls : List Int) p H', ls.length ≤ ks.length + 2 → (∀ x ∈ ls, ¬ FarS x) → (∀ x ∈ ks, x ∈ ls) → Same H H' → H' p = some (.lst (ls.map V.int)) → Q (.ref p) H'
theorem len_law_odd_kinds (K : PySem.W.Frag) : ∀ vs H Q E, sp_law_odd_kinds K vs H Q E → vs.length = 2 := by
  rintro vs H Q E ⟨x, y, _, rfl, _⟩; rfl
def t_law_odd_kinds (K : PySem.W.Frag) : TS :=
  (tSeq (tAsg (tOp rMod (tOp rTimes (tVar 1) (tC (.int 48271))) (tC (.int 2147483647))) (gName 2))
  (tSeq (tAsg (tOp rMod (tOp rDiv (tVar 2) (tC (.int 3))) (tOp rPlus (tCB (rLen K) (tCons (tVar 0) tNil)) (tC (.int 1)))) (gName 3))
  (tSeq (tIfS (tTest (tOp rEq (tOp rMod (tVar 2) (tC (.int 3))) (tC (.int 0))))
  (tRet (tOp rCat (tOp rCat (tSl (rSlL K) (tVar 0) tNoPart (tPart (tVar 3))) (tRevL K (tSl (rSlL K) (tVar 0) (tPart (tVar 3)) (tPart (tOp rPlus (tVar 3) (tC (.int 2))))))) (tSl (rSlL K) (tVar 0) (tPart (tOp rPlus (tVar 3) (tC (.int 2)))) tNoPart)))
  tNext)
  (tSeq (tIfS (tTest (tOp rEq (tOp rMod (tVar 2) (tC (.int 3))) (tC (.int 1))))
  (tRet (tOp rCat (tOp rCat (tSl (rSlL K) (tVar 0) tNoPart (tPart (tVar 3))) (tSl (rSlL K) (tVar 0) (tPart (tVar 3)) (tPart (tOp rPlus (tVar 3) (tC (.int 1)))))) (tSl (rSlL K) (tVar 0) (tPart (tVar 3)) tNoPart)))
  tNext)
  (tSeq (tAsg (tOp rDiv (tVar 2) (tC (.int 3))) (gName 4))
  (tSeq (tWhile (tTest (tOp (rInD K) (tVar 4) (tVar 0)))
  (tAsg (tOp rPlus (tVar 4) (tC (.int 1))) (gName 4)))
  (tRet (tCB (rSortedI K) (tCons (tOp (rCatK K) (tVar 0) (tLst (tCons (tVar 4) tNil))) tNil)))))))))
abbrev n_law_odd_kinds : List Str := ["_law_kinds", "_law_cell", "_law_number", "_law_at", "_law_odd"]

theorem rd_law_odd_kinds (K : PySem.W.Frag) (vs : List V) (H : Hp) (Q : VK) (E : XK) (h : sp_law_odd_kinds K vs H Q E) : t_law_odd_kinds K { nx := fun _ H' => Q .non H', rt := Q } (start n_law_odd_kinds vs) H := by
  obtain ⟨a, ks, c, rfl, hA, hkl, hf, q⟩ := h
  unfold t_law_odd_kinds
  have hpos : (0 : Int) < (ks.length : Int) + 1 := by omega
  walk_at "st"
  obtain ⟨n, hn, hn0, hn1⟩ : ∃ n : Int, c * 48271 % 2147483647 = n ∧ 0 ≤ n ∧ n < 2147483647 := ⟨_, rfl, by omega, by omega⟩
  rw [hn]
  clear hn
  refine k_lenL (.of hA) ?_
  walk_at "st"
  rw [List.length_map]
  walk_at "st"
  obtain ⟨k, hk, hkl2⟩ : ∃ k : Nat, (n / 3 % ((ks.length : Int) + 1)) = (k : Int) ∧ k ≤ ks.length := by
    have m0 := Int.emod_nonneg (n / 3) (show ((ks.length : Int) + 1) ≠ 0 by omega)
    have m1 := Int.emod_lt_of_pos (n / 3) hpos
    exact ⟨(n / 3 % ((ks.length : Int) + 1)).toNat, by omega, by omega⟩
  rw [hk]
  walk_at "st"
  walk_at "if" <;> intro c0
  · walk_at "st"
    refine k_slL (.of hA) fun l1 hl1 => ?_
    rw [cutTake, ← List.map_take]
    have s1 := same_new (o := .lst ((ks.take k).map V.int)) hl1
    have e1 := upd_same (H := H) (a := l1) (o := .lst ((ks.take k).map V.int))
    generalize upd H l1 (.lst ((ks.take k).map V.int)) = H1 at s1 e1 ⊢
    walk_at "st"
    refine k_slL (.of (s1.get hA)) fun l2 hl2 => ?_
    rw [show (k : Int) + 2 = ((k + 2 : Nat) : Int) from rfl, cutPart, ← List.map_take, ← List.map_drop]
    have s2 := same_new (o := .lst (((ks.take (k + 2)).drop k).map V.int)) hl2
    have e2 := upd_same (H := H1) (a := l2) (o := .lst (((ks.take (k + 2)).drop k).map V.int))
    generalize upd H1 l2 (.lst (((ks.take (k + 2)).drop k).map V.int)) = H2 at s2 e2 ⊢
    refine m_revLE (.of e2) fun l3 hl3 => ?_
    rw [← List.map_reverse]
    have s3 := same_new (o := .lst (((ks.take (k + 2)).drop k).reverse.map V.int)) hl3
    have e3 := upd_same (H := H2) (a := l3) (o := .lst (((ks.take (k + 2)).drop k).reverse.map V.int))
    generalize upd H2 l3 (.lst (((ks.take (k + 2)).drop k).reverse.map V.int)) = H3 at s3 e3 ⊢
    have h1 : (ks.take k).length ≤ k := by rw [List.length_take]; omega
    have h2 : ((ks.take (k + 2)).drop k).length = min (k + 2) ks.length - k := by rw [List.length_drop, List.length_take]
    have h3 : (ks.drop (k + 2)).length = ks.length - (k + 2) := List.length_drop
    refine k_catI ((s2.trans s3).get e1) e3 (by rw [List.length_reverse]; omega) fun l4 H4 hl4 s4 e4 => ?_
    walk_at "st"
    have s14 := (s1.trans s2).trans (s3.trans s4)
    refine k_slL (.of (s14.get hA)) fun l5 hl5 => ?_
    rw [show (k : Int) + 2 = ((k + 2 : Nat) : Int) from rfl, cutDrop, ← List.map_drop]
    have s5 := same_new (o := .lst ((ks.drop (k + 2)).map V.int)) hl5
    have e5 := upd_same (H := H4) (a := l5) (o := .lst ((ks.drop (k + 2)).map V.int))
    generalize upd H4 l5 (.lst ((ks.drop (k + 2)).map V.int)) = H5 at s5 e5 ⊢
    refine k_catI (s5.get e4) e5 (by rw [List.length_append, List.length_reverse]; omega) fun l6 H6 hl6 s6 e6 => ?_
    have hm : ∀ x, x ∈ (ks.take k ++ ((ks.take (k + 2)).drop k).reverse ++ ks.drop (k + 2)) ↔ x ∈ ks := fun x => by
      rw [mem_three (ks := ks) (x := x) k 2, List.mem_append, List.mem_append, List.mem_reverse, or_assoc]
    exact q _ l6 H6 (by rw [List.length_append, List.length_append, List.length_reverse]; omega) (fun x hx => hf x ((hm x).mp hx)) (fun x hx => (hm x).mpr hx) (s14.trans (s5.trans s6)) e6
  walk_at "st"
  walk_at "if" <;> intro c1
  · walk_at "st"
    refine k_slL (.of hA) fun l1 hl1 => ?_
    rw [cutTake, ← List.map_take]
    have s1 := same_new (o := .lst ((ks.take k).map V.int)) hl1
    have e1 := upd_same (H := H) (a := l1) (o := .lst ((ks.take k).map V.int))
    generalize upd H l1 (.lst ((ks.take k).map V.int)) = H1 at s1 e1 ⊢
    walk_at "st"
    refine k_slL (.of (s1.get hA)) fun l2 hl2 => ?_
    rw [show (k : Int) + 1 = ((k + 1 : Nat) : Int) from rfl, cutPart, ← List.map_take, ← List.map_drop]
    have s2 := same_new (o := .lst (((ks.take (k + 1)).drop k).map V.int)) hl2
    have e2 := upd_same (H := H1) (a := l2) (o := .lst (((ks.take (k + 1)).drop k).map V.int))
    generalize upd H1 l2 (.lst (((ks.take (k + 1)).drop k).map V.int)) = H2 at s2 e2 ⊢
    have h1 : (ks.take k).length ≤ k := by rw [List.length_take]; omega
    have h2 : ((ks.take (k + 1)).drop k).length = min (k + 1) ks.length - k := by rw [List.length_drop, List.length_take]
    have h3 : (ks.drop k).length = ks.length - k := List.length_drop
    refine k_catI (s2.get e1) e2 (by omega) fun l4 H4 hl4 s4 e4 => ?_
    walk_at "st"
    have s14 := (s1.trans s2).trans s4
    refine k_slL (.of (s14.get hA)) fun l5 hl5 => ?_
    rw [cutDrop, ← List.map_drop]
    have s5 := same_new (o := .lst ((ks.drop k).map V.int)) hl5
    have e5 := upd_same (H := H4) (a := l5) (o := .lst ((ks.drop k).map V.int))
    generalize upd H4 l5 (.lst ((ks.drop k).map V.int)) = H5 at s5 e5 ⊢
    refine k_catI (s5.get e4) e5 (by rw [List.length_append]; omega) fun l6 H6 hl6 s6 e6 => ?_
    have hm : ∀ x, x ∈ (ks.take k ++ (ks.take (k + 1)).drop k ++ ks.drop k) ↔ x ∈ ks := fun x => by
      rw [List.mem_append, List.mem_append]
      constructor
      · rintro ((z | z) | z)
        · exact List.mem_of_mem_take z
        · exact List.mem_of_mem_take (List.mem_of_mem_drop z)
        · exact List.mem_of_mem_drop z
      · intro z
        rw [← List.take_append_drop k ks, List.mem_append] at z
        exact z.elim (fun y => .inl (.inl y)) .inr
    exact q _ l6 H6 (by rw [List.length_append, List.length_append]; omega) (fun x hx => hf x ((hm x).mp hx)) (fun x hx => (hm x).mpr hx) (s14.trans (s5.trans s6)) e6
  walk_at "st"
  refine loop_while (fun m σ' H2 => ∃ o : Int, m = (ks.filter fun y => decide (o ≤ y)).length ∧ 0 ≤ o ∧ o + (m : Int) ≤ n / 3 + (ks.length : Int) ∧ H2 = H ∧ σ' = [some (.ref a), some (.int c), some (.int n), some (.int (k : Int)), some (.int o)]) (ks.filter fun y => decide (n / 3 ≤ y)).length ⟨n / 3, rfl, by omega, by have := List.length_filter_le (fun y => decide (n / 3 ≤ y)) ks; omega, rfl, rfl⟩ ?_
  rintro m σ' H2 ⟨o, hm, ho, hb, rfl, rfl⟩
  walk_at "st"
  refine k_inL (.of hA) ?_
  by_cases c3 : o ∈ ks
  · rw [decide_eq_true c3]
    walk_at "st"
    have hc := count_up c3
    exact ⟨_, by omega, o + 1, rfl, by omega, by omega, rfl, rfl⟩
  · rw [decide_eq_false c3]
    walk_at "st"
    intro pz hpz
    have s1 := same_new (o := .lst [.int o]) hpz
    have e1 := upd_same (H := H2) (a := pz) (o := .lst [.int o])
    generalize upd H2 pz (.lst [.int o]) = H3 at s1 e1 ⊢
    walk_at "st"
    refine k_catKI (xs := ks) (ys := [o]) (.of (s1.get hA)) (.of e1) (by simp only [List.length_cons, List.length_nil]; omega) fun pc H4 hpc s4 e4 => ?_
    walk_at "st"
    refine ⟨pc, ks ++ [o], rfl, .of e4, fun ls p hp hs hpp => ?_⟩
    refine q ls p _ (by rw [hp.length_eq, List.length_append, List.length_singleton]; omega) (fun x hx => ?_) (fun x hx => hp.mem_iff.mpr (List.mem_append_left _ hx)) ((s1.trans s4).trans (same_new hpp)) upd_same
    rcases List.mem_append.mp (hp.mem_iff.mp hx) with z | z
    · exact hf x z
    · rw [List.mem_singleton.mp z]
      unfold FarS; omega

abbrev tk1 : List V := [.int 1, .bl true, .bl true, .bl false]
theorem dp_tk1 {K : PySem.W.Frag} {H : Hp} {a : Addr} (h : H a = some (.tup tk1)) : Dp K H (.ref a) (.tuple [.int 1, .bool true, .bool true, .bool false]) := .tup (.of h) (.cons (.int 1) (.cons (.bl true) (.cons (.bl true) (.cons (.bl false) .nil))))
theorem laid_tk1 : laid 64 (.tuple [.int 1, .bool true, .bool true, .bool false]) := laid_tup (n := 63) fun d hd => by
  simp only [List.mem_cons, List.not_mem_nil, or_false] at hd
  rcases hd with rfl | rfl | rfl | rfl
  · exact laid_int _
  · exact laid_bool _
  · exact laid_bool _
  · exact laid_bool _
theorem eqv_tk1 : PyData.eqv (.tuple [.int 1, .bool true, .bool true, .bool false]) (.tuple [.int 1, .bool true, .bool true, .bool false]) = true := by
  simp [PyData.eqv, PyData.eqvAll]
theorem k_isListT {H : Hp} {Q : VK} {a : Addr} {xs : List V} (h : H a = some (.tup xs)) (q : Q (.bl false) H) : rIsB [.ref a, .ty "list"] H Q := ⟨.ref a, "list", rfl, "tuple", false, fun _ => .base (.tup h), by decide +kernel, q⟩

/-- what is told of octets -/
def ResO (H : Hp) (p : Addr) (os : List Int) : Prop := ((∀ ks sg, ¬ SgK os ks sg) ∧ H p = some (.tup tk1)) ∨ ∃ ks sg, SgK os ks sg ∧ H p = some (.lst (sg.map V.int))
/-- _law_told(octets) -/
def sp_law_told (K : PySem.W.Frag) : Sp := fun vs H Q _ => ∃ (a : Addr) (os : List Int), vs = [.ref a] ∧ H a = some (.lst (os.map V.int)) ∧ os.length ≤ 60000 ∧ ∀ p H', H p = none → Same H H' → ResO H' p os → Q (.ref p) H'
theorem len_law_told (K : PySem.W.Frag) : ∀ vs H Q E, sp_law_told K vs H Q E → vs.length = 1 := by
  rintro vs H Q E ⟨a, bs, rfl, _⟩; rfl
def t_law_told (K : PySem.W.Frag) : TS :=
  (tSeq (tAsg (tTup (tCons (tC (.int 0)) (tCons (tC (.bl false)) (tCons (tC (.bl false)) (tCons (tC (.bl false)) tNil))))) (gName 1))
  (tSeq (tAsg (tLst tNil) (gName 2))
  (tSeq (tTryAs K (.ref (He.ga K "NoOctets")) 3 (fun W => (tAsg (tCallS (sp_read_signs K) (WE W) (tCons (tVar 0) tNil)) (gName 2))) (fun a cls d => (tSeq (tAsg (tOrV (tCB (rIsX K cls d a) (tCons (tVar 3) (tCons (tC (.ref (He.ga K "NoSign"))) tNil))) (tOrV (tCB (rIsX K cls d a) (tCons (tVar 3) (tCons (tC (.ref (He.ga K "TooMany"))) tNil))) (tCB (rIsX K cls d a) (tCons (tVar 3) (tCons (tC (.ref (He.ga K "NoPlace"))) tNil))))) (gName 4))
  (tAsg (tTup (tCons (tC (.int 1)) (tCons (tCB (rIsX K cls d a) (tCons (tVar 3) (tCons (tC (.ref (He.ga K "WoodError"))) tNil))) (tCons (tCB (rIsX K cls d a) (tCons (tVar 3) (tCons (tC (.ty "ValueError")) tNil))) (tCons (tVar 4) tNil))))) (gName 1)))) (fun _ _ _ _ => False))
  (tSeq (tIfS (tTest (tOp rGtI (tOp (rIxT K) (tVar 1) (tC (.int 0))) (tC (.int 0))))
  (tRet (tVar 1))
  tNext)
  (tSeq (tIfS (tOr (tNot (tB (tCB rIsB (tCons (tVar 2) (tCons (tC (.ty "list")) tNil))))) (tTest (tOp rGtI (tCB (rLen K) (tCons (tLc (iList K (tVar 2)) (gName 5) (tNot (tB (tCall (sp_law_whole K) [] E0 (tCons (tVar 5) tNil)))) (tVar 5) [5]) tNil)) (tC (.int 0)))))
  (tRet (tTup (tCons (tC (.int 0)) (tCons (tC (.bl false)) (tCons (tC (.bl false)) (tCons (tC (.bl true)) tNil))))))
  tNext)
  (tRet (tVar 2)))))))
abbrev n_law_told : List Str := ["_law_octets", "_law_told_here", "_law_found", "e", "_law_others", "_law_sign"]

theorem rd_law_told (K : PySem.W.Frag) (F : KFx K) (vs : List V) (H : Hp) (Q : VK) (E : XK) (h : sp_law_told K vs H Q E) : t_law_told K { nx := fun _ H' => Q .non H', rt := Q } (start n_law_told vs) H := by
  obtain ⟨a, os, rfl, hS, hl, q⟩ := h
  unfold t_law_told
  walk_at "st"
  intro p1 hp1
  have s1 := same_new (o := .tup [.int 0, .bl false, .bl false, .bl false]) hp1
  have e1 := upd_same (H := H) (a := p1) (o := .tup [.int 0, .bl false, .bl false, .bl false])
  generalize upd H p1 (.tup [.int 0, .bl false, .bl false, .bl false]) = H1 at s1 e1 ⊢
  walk_at "st"
  intro p2 hp2
  have s2 := s1.trans (same_new (o := .lst []) hp2)
  have e12 := (same_new (o := .lst []) hp2).get e1
  generalize upd H1 p2 (.lst []) = H2 at s2 e12 ⊢
  walk_at "st"
  refine ⟨a, os, rfl, .of (s2.get hS), by omega, fun H3 s3 nR => ?_, fun ks bs hR p3 H3 hp3 s3 e3 => ?_⟩
  · refine m_caught F.e_NoOctets_NoOctets fun x hx => ?_
    have s13 := s2.trans s3
    walk_at "st"
    refine k_isX F.ec_NoOctets F.k_NoOctets_NoSign ?_
    walk_at "st"
    refine k_isX F.ec_NoOctets F.k_NoOctets_TooMany ?_
    walk_at "st"
    refine k_isX F.ec_NoOctets F.k_NoOctets_NoPlace ?_
    walk_at "st"
    refine k_isX F.ec_NoOctets F.k_NoOctets_WoodError ?_
    walk_at "st"
    refine k_isXty F.ec_NoOctets F.kt_NoOctets ?_
    walk_at "st"
    intro p4 hp4
    walk_at "st"
    refine k_ixT (.of upd_same) (x := .int 1) (at_int (by decide) rfl) ?_
    walk_at "st"
    refine k_decT (by decide) ?_
    walk_at "st"
    exact q p4 _ (s13.gone _ hp4) (s13.trans (same_new hp4)) (.inl ⟨nR, upd_same⟩)
  · have s13 := s2.trans s3
    have hp3H : H p3 = none := s2.gone _ hp3
    walk_at "st"
    refine k_ixT (.of (s3.get e12)) (x := .int 0) (at_int (by decide) rfl) ?_
    walk_at "st"
    refine k_decF (by decide) ?_
    walk_at "st"
    refine k_isList e3 ?_
    walk_at "st"
    refine m_iLe (.of e3) ?_
    have hbl : bs.length ≤ 4096 := hR.big
    refine comp_walkV (f := fun _ => none) (walk_list (K := K) (xs := bs.map V.int)) (by rw [List.length_map]; omega) (fun H' s' => .of (s'.get e3)) (fun k v Hb Hc Qb hk sk hy qb => ?_) (fun pm Hb hpm sb eb => ?_)
    · obtain ⟨rfl, ev⟩ := hy
      obtain ⟨b, hb, rfl⟩ := of_mapint ev
      walk_at "st"
      refine whole_int ?_
      walk_at "st"
      exact qb _ _ (Same.refl _) (fun hc => by cases hc) (fun _ => rfl)
    have eb : Hb pm = some (.lst []) := by
      rw [eb]
      congr 2
      exact List.filterMap_eq_nil_iff.mpr fun _ _ => rfl
    walk_at "st"
    refine k_lenL (.of eb) ?_
    walk_at "st"
    refine k_decF (by simp) ?_
    walk_at "st"
    exact q p3 Hb hp3H (s13.trans sb) (.inr ⟨ks, bs, hR, sb.get e3⟩)

--#base
/-- law(script) -/
def sp_law (K : PySem.W.Frag) : Sp := fun vs H Q _ => ∃ (a : Addr) (ns : List Int), vs = [.ref a] ∧ SqL K H a (ns.map V.int) ∧ ns.length ≤ 63 ∧ ∀ H', Q (.bl true) H'
theorem len_law (K : PySem.W.Frag) : ∀ vs H Q E, sp_law K vs H Q E → vs.length = 1 := by
  rintro vs H Q E ⟨x, y, rfl, _⟩; rfl

theorem ResO.same {H H' : Hp} {p : Addr} {os : List Int} (h : ResO H p os) (s : Same H H') : ResO H' p os := by
  rcases h with ⟨h1, h2⟩ | ⟨ks, sg, h1, h2⟩
  · exact .inl ⟨h1, s.get h2⟩
  · exact .inr ⟨ks, sg, h1, s.get h2⟩
theorem resO_put {H : Hp} {p q : Addr} {os : List Int} {o : HO} (h : ResO H p os) (n : p ≠ q) : ResO (upd H q o) p os := by
  rcases h with ⟨h1, h2⟩ | ⟨ks, sg, h1, h2⟩
  · exact .inl ⟨h1, (upd_ne n).trans h2⟩
  · exact .inr ⟨ks, sg, h1, (upd_ne n).trans h2⟩
theorem resO_dp {K : PySem.W.Frag} {H : Hp} {p r : Addr} {os : List Int} (h1 : ResO H p os) (h2 : ResO H r os) : ∃ d, Dp K H (.ref p) d ∧ Dp K H (.ref r) d ∧ laid 64 d ∧ PyData.eqv d d = true := by
  rcases h1 with ⟨a1, a2⟩ | ⟨ks, sg, a1, a2⟩ <;> rcases h2 with ⟨b1, b2⟩ | ⟨ks', sg', b1, b2⟩
  · exact ⟨_, dp_tk1 a2, dp_tk1 b2, laid_tk1, eqv_tk1⟩
  · exact absurd b1 (a1 _ _)
  · exact absurd a1 (b1 _ _)
  · obtain rfl := a1.inj b1
    exact ⟨_, dp_ints (.of a2), dp_ints (.of b2), laid_ints _, by rw [eqv_ints]; exact decide_eq_true rfl⟩
theorem k_eqResO {K : PySem.W.Frag} {H : Hp} {Q : VK} {p r : Addr} {os : List Int} (h1 : ResO H p os) (h2 : ResO H r os) (q : Q (.bl true) H) : rEqD K (.ref p) (.ref r) H Q := by
  obtain ⟨d, d1, d2, l, e⟩ := resO_dp (K := K) h1 h2
  exact k_eqD d1 d2 l l (by rw [e]; exact q)
/-- what stands ahead of the reading -/
def OcS (H : Hp) (a : Addr) (L : Nat) (σ' : L2.St) (H' : Hp) : Prop := ∃ (p pk pg po : Addr) (sg ks og os : List Int) (v5 v6 v7 v8 : Option V), σ' = [some (.ref a), some (.ref p), some (.ref pk), some (.ref pg), some (.ref po), v5, v6, v7, v8, none, none, none, none] ∧ Same H H' ∧ H' p = some (.lst (sg.map V.int)) ∧ H' pk = some (.lst (ks.map V.int)) ∧ H' pg = some (.lst (og.map V.int)) ∧ H' po = some (.lst (os.map V.int)) ∧ ks.length ≤ 852 ∧ sg.length ≤ 852 ∧ (∀ x ∈ ks, ¬ FarS x) ∧ (∀ x ∈ sg, x ∈ ks) ∧ os.length ≤ L ∧ ∃ kg, SgK og kg sg
theorem many_same (x : Int) (h : ¬ FarS x) : SgK ([3] ++ octs 4096 2 ++ [1, 0] ++ octs (x + 1000000000000000000000000000000000000000000000000000000000000) 26) [x] (List.replicate 4096 x) := by
  refine ⟨⟨List.pairwise_singleton _ _, fun k => ?_⟩, by rw [List.length_replicate]; exact Nat.le_refl _, fun y hy => by rw [List.eq_of_mem_replicate hy]; exact h, ?_⟩
  · rw [List.mem_singleton, List.mem_replicate]
    exact ⟨fun z => ⟨by decide, z⟩, fun z => z.2⟩
  · unfold signsO
    rw [List.length_replicate]
    have e1 : lvK [x] = 0 := by unfold lvK; rw [List.length_singleton]; decide
    rw [e1]
    have e2 : fldO [((4096 : Nat) : Int), (([x] : List Int).length : Int)] 2 = octs 4096 2 ++ [1, 0] := by
      have : octs (([x] : List Int).length : Int) 2 = [1, 0] := by rw [List.length_singleton]; decide
      unfold fldO
      rw [List.map_cons, List.map_cons, List.map_nil, this]; rfl
    rw [e2, List.map_cons, List.map_nil, fldO_one]
    unfold lvsO upF
    simp only [List.append_nil, List.cons_append, List.nil_append, List.append_assoc]
def t_law (K : PySem.W.Frag) : TS :=
  (tSeq (tAsg (tCall (sp_law_signs K) [] E0 (tCons (tVar 0) tNil)) (gName 1))
  (tSeq (tAsg (tSortSet K (tVar 1)) (gName 2))
  (tSeq (tAsg (tCall (sp_law_laid K) [] E0 (tCons (tVar 2) (tCons (tVar 1) tNil))) (gName 3))
  (tSeq (tAsg (tCB (rListOf K) (tCons (tVar 3) tNil)) (gName 4))
  (Evl.tCut (tIfS (tTest (tOp rEq (tOp rMod (tCall (sp_law_cell_at K) [] E0 (tCons (tVar 0) (tCons (tC (.int 0)) tNil))) (tC (.int 2))) (tC (.int 1))))
  (tFor (iRng1 (tCons (tOp rPlus (tC (.int 1)) (tOp rMod (tCall (sp_law_cell_at K) [] E0 (tCons (tVar 0) (tCons (tC (.int 1)) tNil))) (tC (.int 3)))) tNil)) (gName 5)
  (tAsg (tCall (sp_law_changed K) [] E0 (tCons (tVar 4) (tCons (tCall (sp_law_cell_at K) [] E0 (tCons (tVar 0) (tCons (tOp rPlus (tC (.int 2)) (tVar 5)) tNil))) tNil))) (gName 4)))
  tNext)
  (Evl.tCut (tIfS (tTest (tOp rEq (tOp rMod (tCall (sp_law_cell_at K) [] E0 (tCons (tVar 0) (tCons (tC (.int 5)) tNil))) (tC (.int 9))) (tC (.int 4))))
  (tAsg (tCall (sp_law_laid K) [] E0 (tCons (tCall (sp_law_odd_kinds K) [] E0 (tCons (tVar 2) (tCons (tCall (sp_law_cell_at K) [] E0 (tCons (tVar 0) (tCons (tC (.int 6)) tNil))) tNil))) (tCons (tVar 1) tNil))) (gName 4))
  tNext)
  (Evl.tCut (tIfS (tTest (tOp rEq (tOp rMod (tCall (sp_law_cell_at K) [] E0 (tCons (tVar 0) (tCons (tC (.int 0)) tNil))) (tC (.int 8))) (tC (.int 6))))
  (tAsg (tOp rCat (tLst (tCons (tC (.int 3)) tNil)) (tLc (iList K (tSl (rSlL K) (tVar 0) (tPart (tC (.int 1))) (tPart (tC (.int 63))))) (gName 6) tYes (tOp rMod (tVar 6) (tC (.int 256))) [6])) (gName 4))
  tNext)
  (Evl.tCut (tIfS (tTest (tOp rEq (tOp rMod (tCall (sp_law_cell_at K) [] E0 (tCons (tVar 0) (tCons (tC (.int 5)) tNil))) (tC (.int 18))) (tC (.int 13))))
  (tSeq (tAsg (tOp rPlus (tC (.int 4096)) (tOp rMod (tCall (sp_law_cell_at K) [] E0 (tCons (tVar 0) (tCons (tC (.int 7)) tNil))) (tC (.int 2)))) (gName 7))
  (tSeq (tAsg (tOp rMod (tCall (sp_law_cell_at K) [] E0 (tCons (tVar 0) (tCons (tC (.int 8)) tNil))) (tC (.int 1000000000000000000000000000000000000000000000000000000000000))) (gName 8))
  (tSeq (tAsg (tOp rCat (tOp rCat (tOp rCat (tLst (tCons (tC (.int 3)) tNil)) (tCall (sp_law_two K) [] E0 (tCons (tVar 7) tNil))) (tLst (tCons (tC (.int 1)) (tCons (tC (.int 0)) tNil)))) (tCall (sp_law_many K) [] E0 (tCons (tOp rPlus (tVar 8) (tC (.int 1000000000000000000000000000000000000000000000000000000000000))) tNil))) (gName 4))
  (tIfS (tTest (tOp rEq (tVar 7) (tC (.int 4096))))
  (tSeq (tAsg (tOp rRep (tLst (tCons (tVar 8) tNil)) (tVar 7)) (gName 1))
  (tAsg (tCB (rListOf K) (tCons (tVar 4) tNil)) (gName 3)))
  tNext))))
  tNext)
  (tSeq (tAsg (tCB (rListOf K) (tCons (tVar 4) tNil)) (gName 9))
  (tSeq (tAsg (tCall (sp_law_told K) [] E0 (tCons (tVar 9) tNil)) (gName 10))
  (tSeq (tIfS (tOr (tTest (tOp (rNeD K) (tVar 9) (tVar 4))) (tAnd (tTest (tOp (rEqD K) (tVar 4) (tVar 3))) (tTest (tOp (rNeD K) (tVar 10) (tVar 1)))))
  (tRet (tC (.bl false)))
  tNext)
  (tSeq (tAsg (tTup (tCons (tC (.int 1)) (tCons (tC (.bl true)) (tCons (tC (.bl true)) (tCons (tC (.bl false)) tNil))))) (gName 11))
  (Evl.tCut (tIfS (tB (tCB rIsB (tCons (tVar 10) (tCons (tC (.ty "list")) tNil))))
  (tSeq (tAsg (tCB (rListOf K) (tCons (tVar 10) tNil)) (gName 11))
  (tSeq (tIfS (tOr (tTest (tOp rGtI (tCB (rLen K) (tCons (tVar 11) tNil)) (tC (.int 4096)))) (tTest (tOp (rNeD K) (tLc (iList K (tVar 11)) (gName 12) (tTest (tOp rGeI (tCB rAbs (tCons (tVar 12) tNil)) (tC (.int 1000000000000000000000000000000000000000000000000000000000000)))) (tVar 12) [12]) (tLst tNil))))
  (tRet (tC (.bl false)))
  tNext)
  (tSeq (tIfS (tOr (tTest (tOp (rNeD K) (tCall (sp_law_laid K) [] E0 (tCons (tSortSet K (tVar 11)) (tCons (tVar 11) tNil))) (tVar 4))) (tTest (tOp (rNeD K) (tCall (sp_signs_octets K) [] E0 (tCons (tCB (rListOf K) (tCons (tVar 10) tNil)) tNil)) (tVar 4))))
  (tRet (tC (.bl false)))
  tNext)
  (tDrop (tBM K "list" rAppend (tVar 10) (tCons (tC (.int 1)) tNil))))))
  tNext)
  (tRet (tAndV (tOrV (tCB rIsB (tCons (tVar 10) (tCons (tC (.ty "list")) tNil))) (tOp (rEqD K) (tVar 10) (tVar 11))) (tOp (rEqD K) (tCall (sp_law_told K) [] E0 (tCons (tVar 9) tNil)) (tVar 11)))))))))))))))))
abbrev n_law : List Str := ["_law_script", "_law_signs_here", "_law_kinds", "_law_good", "_law_octets", "_law_k", "_law_cell", "_law_many_here", "_law_kind", "_law_handed", "_law_found", "_law_kept", "_law_sign"]

theorem rd_law (K : PySem.W.Frag) (F : KFx K) (vs : List V) (H : Hp) (Q : VK) (E : XK) (h : sp_law K vs H Q E) : t_law K { nx := fun _ H' => Q .non H', rt := Q } (start n_law vs) H := by
  obtain ⟨a, ns, rfl, hS, hl, q⟩ := h
  unfold t_law
  walk_at "st"
  refine ⟨a, ns, rfl, hS, fun sg p H1 hsl hf hp s1 e1 => ?_⟩
  walk_at "st"
  refine m_sortSet ?_
  walk_at "st"
  refine m_sortSetE (.of e1) (by omega) fun ks pk hsrt hmem hpk => ?_
  have hK : IsK ks sg := ⟨hsrt, hmem⟩
  have hkl := nodup_len hK
  have hfk : ∀ x ∈ ks, ¬ FarS x := fun x hx => hf x ((hmem x).mp hx)
  have s2 := s1.trans (same_new (o := .lst (ks.map V.int)) hpk)
  replace e1 := (same_new (o := .lst (ks.map V.int)) hpk).get e1
  have ek := upd_same (H := H1) (a := pk) (o := .lst (ks.map V.int))
  generalize upd H1 pk (.lst (ks.map V.int)) = H2 at s2 e1 ek ⊢
  clear s1 hpk hp
  walk_at "st"
  refine ⟨pk, p, ks, sg, rfl, ek, e1, by omega, by omega, hfk, fun x hx => (hmem x).mpr hx, fun og pg H3 hol hog hpg s3 eg => ?_⟩
  replace hog := hog hK
  have hG : SgK og ks sg := ⟨hK, by omega, hf, hog⟩
  replace e1 := s3.get e1
  replace ek := s3.get ek
  have s3 := s2.trans s3
  clear s2 hpg hog
  walk_at "st"
  refine k_listL (.of eg) fun po hpo => ?_
  have s4 := s3.trans (same_new (o := .lst (og.map V.int)) hpo)
  replace e1 := (same_new (o := .lst (og.map V.int)) hpo).get e1
  replace ek := (same_new (o := .lst (og.map V.int)) hpo).get ek
  replace eg := (same_new (o := .lst (og.map V.int)) hpo).get eg
  have eo := upd_same (H := H3) (a := po) (o := .lst (og.map V.int))
  generalize upd H3 po (.lst (og.map V.int)) = H4 at s4 e1 ek eg eo ⊢
  clear s3 hpo
  walk_at "st"
  refine m_cut (fun σ' H' => OcS H a 32000 σ' H') ?_ ?_
  · walk_at "st"
    refine call_cell_at (s4.seq hS) (by decide) fun c0 hc0 => ?_
    walk_at "st"
    walk_at "if" <;> intro z1
    · walk_at "st"
      refine call_cell_at (s4.seq hS) (by decide) fun c1 hc1 => ?_
      walk_at "st"
      obtain ⟨m, hm, hm2⟩ : ∃ m : Nat, (1 + c1 % 3).toNat = m ∧ m ≤ 3 := ⟨_, rfl, by omega⟩
      rw [hm]
      refine loop_range0 (fun i σ' H' => i ≤ 3 ∧ OcS H a (31700 + i) σ' H') ⟨Nat.zero_le _, p, pk, pg, po, sg, ks, og, og, _, _, _, _, rfl, s4, e1, ek, eg, eo, by omega, by omega, hfk, fun x hx => (hmem x).mpr hx, by omega, ks, hG⟩ ?_ ?_
      · clear e1 ek eg eo s4 hG hmem hK hkl hfk hol
        rintro i σ' H' hi ⟨hi3, p, pk, pg, po, sg, ks, og, os, v5, v6, v7, v8, rfl, s, e1, ek, eg, eo, h1, h2, h3, h4, h5, h6⟩
        walk_at "st"
        refine call_cell_at (s.seq hS) (by omega) fun c3 hc3 => ?_
        walk_at "st"
        refine ⟨po, os, c3, rfl, eo, by omega, fun p2 os2 H2 s2 e2 hl2 => ?_⟩
        exact ⟨by omega, p, pk, pg, p2, sg, ks, og, os2, _, _, _, _, rfl, s.trans s2, s2.get e1, s2.get ek, s2.get eg, e2, h1, h2, h3, h4, by omega, h6⟩
      · rintro σ' H' ⟨hi3, p, pk, pg, po, sg, ks, og, os, v5, v6, v7, v8, rfl, s, e1, ek, eg, eo, h1, h2, h3, h4, h5, h6⟩
        exact ⟨p, pk, pg, po, sg, ks, og, os, _, _, _, _, rfl, s, e1, ek, eg, eo, h1, h2, h3, h4, by omega, h6⟩
    · walk_at "st"
      exact ⟨p, pk, pg, po, sg, ks, og, og, _, _, _, _, rfl, s4, e1, ek, eg, eo, by omega, by omega, hfk, fun x hx => (hmem x).mpr hx, by omega, ks, hG⟩
  clear e1 ek eg eo s4 hG hmem hK hkl hfk hol hf hsl hsrt
  rintro σ' H5 ⟨p, pk, pg, po, sg, ks, og, os, v5, v6, v7, v8, rfl, s, e1, ek, eg, eo, h1, h2, h3, h4, h5, h6⟩
  refine m_cut (fun σ' H' => OcS H a 40000 σ' H') ?_ ?_
  · walk_at "st"
    refine call_cell_at (s.seq hS) (by decide) fun c0 hc0 => ?_
    walk_at "st"
    walk_at "if" <;> intro z1
    · walk_at "st"
      refine call_cell_at (s.seq hS) (by decide) fun c1 hc1 => ?_
      walk_at "st"
      refine ⟨pk, ks, c1, rfl, ek, by omega, h3, fun ls pl H6 hll hlf hlm s6 el => ?_⟩
      walk_at "st"
      refine ⟨pl, p, ls, sg, rfl, el, s6.get e1, by omega, by omega, hlf, fun x hx => hlm x (h4 x hx), fun os2 p2 H7 hol hog hpg s7 e7 => ?_⟩
      have s67 := s6.trans s7
      exact ⟨p, pk, pg, p2, sg, ks, og, os2, _, _, _, _, rfl, s.trans s67, s67.get e1, s67.get ek, s67.get eg, e7, h1, h2, h3, h4, by omega, h6⟩
    · walk_at "st"
      exact ⟨p, pk, pg, po, sg, ks, og, os, _, _, _, _, rfl, s, e1, ek, eg, eo, h1, h2, h3, h4, by omega, h6⟩
  clear e1 ek eg eo s h1 h2 h3 h4 h5 h6
  rintro σ' H5 ⟨p, pk, pg, po, sg, ks, og, os, v5, v6, v7, v8, rfl, s, e1, ek, eg, eo, h1, h2, h3, h4, h5, h6⟩
  refine m_cut (fun σ' H' => OcS H a 40000 σ' H') ?_ ?_
  · walk_at "st"
    refine call_cell_at (s.seq hS) (by decide) fun c0 hc0 => ?_
    walk_at "st"
    walk_at "if" <;> intro z1
    · walk_at "st"
      intro q1 hq1
      have t1 := same_new (o := .lst [.int 3]) hq1
      have f1 := upd_same (H := H5) (a := q1) (o := .lst [.int 3])
      generalize upd H5 q1 (.lst [.int 3]) = H6 at t1 f1 ⊢
      walk_at "st"
      refine k_slL ((s.trans t1).seq hS) fun l1 hl1 => ?_
      rw [show (1 : Int) = ((1 : Nat) : Int) from rfl, show (63 : Int) = ((63 : Nat) : Int) from rfl, cutPart, ← List.map_take, ← List.map_drop]
      have hcl : ((ns.take 63).drop 1).length ≤ 63 := by rw [List.length_drop, List.length_take]; omega
      generalize (ns.take 63).drop 1 = cs at hcl ⊢
      have t2 := t1.trans (same_new (o := .lst (cs.map V.int)) hl1)
      have f2 := upd_same (H := H6) (a := l1) (o := .lst (cs.map V.int))
      replace f1 := (same_new (o := .lst (cs.map V.int)) hl1).get f1
      generalize upd H6 l1 (.lst (cs.map V.int)) = H7 at t2 f2 f1 ⊢
      refine m_iLe (.of f2) ?_
      refine comp_listV (xs := cs.map V.int) (ys := (cs.map fun x => x % 256).map V.int) (.of f2) (by rw [List.length_map]; omega) (by rw [List.length_map, List.length_map, List.length_map]) (fun k x y Ha Q2 hx hy sk q2 => ?_) fun p4 H8 hp4 t4 f4 => ?_
      · obtain ⟨z, ez, rfl⟩ := of_mapint hx
        have ey : y = .int (z % 256) := by
          rw [List.getElem?_map, List.getElem?_map, ez] at hy
          exact (Option.some.inj hy).symm
        subst ey
        walk_at "st"
        exact q2 _ (Same.refl _)
      refine k_catI (xs := [3]) (t4.get f1) f4 (by rw [List.length_map]; simp only [List.length_cons, List.length_nil]; omega) fun p5 H9 hp5 t5 f5 => ?_
      have t := t2.trans (t4.trans t5)
      exact ⟨p, pk, pg, p5, sg, ks, og, _, _, _, _, _, rfl, s.trans t, t.get e1, t.get ek, t.get eg, f5, h1, h2, h3, h4, by rw [List.length_append, List.length_map]; simp only [List.length_cons, List.length_nil]; omega, h6⟩
    · walk_at "st"
      exact ⟨p, pk, pg, po, sg, ks, og, os, _, _, _, _, rfl, s, e1, ek, eg, eo, h1, h2, h3, h4, by omega, h6⟩
  clear e1 ek eg eo s h1 h2 h3 h4 h5 h6
  rintro σ' H5 ⟨p, pk, pg, po, sg, ks, og, os, v5, v6, v7, v8, rfl, s, e1, ek, eg, eo, h1, h2, h3, h4, h5, h6⟩
  refine m_cut (fun σ' H' => ∃ (p pg po : Addr) (sg og os : List Int) (v2 v5 v6 v7 v8 : Option V), σ' = [some (.ref a), some (.ref p), v2, some (.ref pg), some (.ref po), v5, v6, v7, v8, none, none, none, none] ∧ Same H H' ∧ H' p = some (.lst (sg.map V.int)) ∧ H' pg = some (.lst (og.map V.int)) ∧ H' po = some (.lst (os.map V.int)) ∧ os.length ≤ 40000 ∧ ∃ kg, SgK og kg sg) ?_ ?_
  · walk_at "st"
    refine call_cell_at (s.seq hS) (by decide) fun c0 hc0 => ?_
    walk_at "st"
    walk_at "if" <;> intro z1
    · walk_at "st"
      refine call_cell_at (s.seq hS) (by decide) fun c1 hc1 => ?_
      walk_at "st"
      refine call_cell_at (s.seq hS) (by decide) fun c2 hc2 => ?_
      walk_at "st"
      obtain ⟨x, hx, hx0, hx1⟩ : ∃ x : Int, c2 % 1000000000000000000000000000000000000000000000000000000000000 = x ∧ 0 ≤ x ∧ x < 1000000000000000000000000000000000000000000000000000000000000 := ⟨_, rfl, by omega, by omega⟩
      rw [hx]
      obtain ⟨y, hy, hy2⟩ : ∃ y : Int, 4096 + c1 % 2 = y ∧ (y = 4096 ∨ y = 4097) := ⟨_, rfl, by omega⟩
      rw [hy]
      clear hx hy
      have hxf : ¬ FarS x := by unfold FarS; omega
      obtain ⟨hu0, hu1⟩ := upF_big hxf
      intro q1 hq1
      have t1 := same_new (o := .lst [.int 3]) hq1
      have f1 := upd_same (H := H5) (a := q1) (o := .lst [.int 3])
      generalize upd H5 q1 (.lst [.int 3]) = H6 at t1 f1 ⊢
      walk_at "st"
      refine ⟨y, rfl, by omega, by omega, fun q2 H7 hq2 t2 f2 => ?_⟩
      refine k_catI (xs := [3]) (t2.get f1) f2 (by rw [octs_len]; decide) fun q3 H8 hq3 t3 f3 => ?_
      walk_at "st"
      intro q4 hq4
      have t4 := same_new (o := .lst [.int 1, .int 0]) hq4
      have f4 := upd_same (H := H8) (a := q4) (o := .lst [.int 1, .int 0])
      generalize upd H8 q4 (.lst [.int 1, .int 0]) = H9 at t4 f4 ⊢
      walk_at "st"
      refine k_catI (ys := [1, 0]) (t4.get f3) f4 (by rw [List.length_append, octs_len]; decide) fun q5 H10 hq5 t5 f5 => ?_
      walk_at "st"
      refine ⟨_, rfl, hu0, hu1, fun q6 H11 hq6 t6 f6 => ?_⟩
      refine k_catI (t6.get f5) f6 (by rw [List.length_append, List.length_append, octs_len, octs_len]; decide) fun q7 H12 hq7 t7 f7 => ?_
      have t := t1.trans ((t2.trans t3).trans ((t4.trans t5).trans (t6.trans t7)))
      have s12 := s.trans t
      have hol : ([3] ++ octs y 2 ++ [1, 0] ++ octs (x + 1000000000000000000000000000000000000000000000000000000000000) 26).length ≤ 40000 := by rw [List.length_append, List.length_append, List.length_append, octs_len, octs_len]; decide
      walk_at "st"
      walk_at "if" <;> intro z2
      · subst z2
        walk_at "st"
        intro q8 hq8
        have t8 := same_new (o := .lst [.int x]) hq8
        have f8 := upd_same (H := H12) (a := q8) (o := .lst [.int x])
        generalize upd H12 q8 (.lst [.int x]) = H13 at t8 f8 ⊢
        walk_at "st"
        refine k_repI (xs := [x]) f8 (by decide) (by rw [List.length_singleton]; decide) fun q9 H14 c9 hq9 t9 ec9 l9 f9 => ?_
        have ec : c9 = List.replicate 4096 x := by rw [ec9]; exact List.flatten_replicate_singleton
        subst ec
        have t89 := t8.trans t9
        walk_at "st"
        refine k_listL (.of (t89.get f7)) fun q10 hq10 => ?_
        exact ⟨q9, q10, q7, _, _, _, _, _, _, _, _, rfl, s12.trans (t89.trans (same_new hq10)), (same_new hq10).get f9, upd_same, (t89.trans (same_new hq10)).get f7, hol, _, many_same x hxf⟩
      · walk_at "st"
        exact ⟨p, pg, q7, sg, og, _, _, _, _, _, _, rfl, s12, t.get e1, t.get eg, f7, hol, h6⟩
    · walk_at "st"
      exact ⟨p, pg, po, sg, og, os, _, _, _, _, _, rfl, s, e1, eg, eo, h5, h6⟩
  clear e1 ek eg eo s h1 h2 h3 h4 h5 h6
  rintro σ' H5 ⟨p, pg, po, sg, og, os, v2, v5, v6, v7, v8, rfl, s, e1, eg, eo, hol, kg, hG⟩
  walk_at "st"
  refine k_listL (.of eo) fun ph hph => ?_
  have s2 := same_new (o := .lst (os.map V.int)) hph
  have eh := upd_same (H := H5) (a := ph) (o := .lst (os.map V.int))
  replace e1 := s2.get e1
  replace eg := s2.get eg
  replace eo := s2.get eo
  generalize upd H5 ph (.lst (os.map V.int)) = H6 at s2 eh e1 eg eo ⊢
  walk_at "st"
  refine ⟨ph, os, rfl, eh, by omega, fun pf H7 hpf s7 r7 => ?_⟩
  have npf : pf ≠ ph := fun z => by rw [z, eh] at hpf; cases hpf
  have npo : pf ≠ po := fun z => by rw [z, eo] at hpf; cases hpf
  replace eh := s7.get eh
  replace e1 := s7.get e1
  replace eg := s7.get eg
  replace eo := s7.get eo
  walk_at "st"
  refine k_neL (ns := os) (ms := os) (.of eh) (.of eo) ?_
  rw [decide_eq_true rfl]
  walk_at "st"
  refine k_eqL (ns := os) (ms := og) (.of eo) (.of eg) ?_
  refine (fun (rest : ?G) => ?use) ?rest
  case use =>
    by_cases c : os = og
    · rw [decide_eq_true c]
      walk_at "st"
      rcases r7 with ⟨nR, w⟩ | ⟨ks', sg', g', w⟩
      · rw [c] at nR
        exact absurd hG (nR _ _)
      · rw [c] at g'
        obtain rfl := g'.inj hG
        refine k_neL (ns := sg') (ms := sg') (.of w) (.of e1) ?_
        rw [decide_eq_true rfl]
        walk_at "st"
        exact rest
    · rw [decide_eq_false c]
      walk_at "st"
      exact rest
  intro pt hpt
  have npt : pf ≠ pt := fun z => by
    rcases r7 with ⟨_, w⟩ | ⟨_, _, _, w⟩ <;> rw [z, hpt] at w <;> cases w
  have s8 := same_new (o := .tup tk1) hpt
  have et := upd_same (H := H7) (a := pt) (o := .tup tk1)
  replace eh := s8.get eh
  replace eo := s8.get eo
  replace r7 := r7.same s8
  generalize upd H7 pt (.tup tk1) = H8 at s8 et eh eo r7 ⊢
  clear e1 eg s2 s7 hpf hG
  walk_at "st"
  refine m_cut (fun σ' H' => ∃ (pq : Addr) (v12 : Option V), σ' = [some (.ref a), some (.ref p), v2, some (.ref pg), some (.ref po), v5, v6, v7, v8, some (.ref ph), some (.ref pf), some (.ref pq), v12] ∧ H' ph = some (.lst (os.map V.int)) ∧ ResO H' pq os ∧ ((∃ xs, H' pf = some (.lst xs)) ∨ (H' pf = some (.tup tk1) ∧ ResO H' pf os))) ?_ ?_
  · rcases r7 with ⟨nR, w⟩ | ⟨ks, so, g, w⟩
    · walk_at "st"
      refine k_isListT w ?_
      walk_at "st"
      exact ⟨pt, _, rfl, eh, .inl ⟨nR, et⟩, .inr ⟨w, .inl ⟨nR, w⟩⟩⟩
    · have hbig := g.big
      have hkl : ks.length ≤ 2000 := by have := g.len; omega
      have hUm : ∀ x ∈ so, x ∈ ks := fun x hx => (g.kk.mem x).mpr hx
      walk_at "st"
      refine k_isList w ?_
      walk_at "st"
      refine k_listL (.of w) fun pq hpq => ?_
      have npq : pq ≠ pf := fun z => by rw [z, w] at hpq; cases hpq
      have t1 := same_new (o := .lst (so.map V.int)) hpq
      have f1 := upd_same (H := H8) (a := pq) (o := .lst (so.map V.int))
      generalize upd H8 pq (.lst (so.map V.int)) = H9 at t1 f1 ⊢
      walk_at "st"
      refine k_lenL (.of f1) ?_
      walk_at "st"
      rw [List.length_map]
      walk_at "if" <;> intro c0
      · exfalso; omega
      walk_at "st"
      refine m_iLe (.of f1) ?_
      refine comp_filterI (fun n => decide ((1000000000000000000000000000000000000000000000000000000000000 : Int) ≤ (if n < 0 then -n else n))) (.of f1) (by omega) (fun k n H1 Qb hk sk qb => ?_) (fun n H1 Q2 q2 => ?_) fun pl H10 hpl t2 f2 => ?_
      · walk_at "st"
        refine k_abs ?_
        walk_at "st"
        exact qb _ (Same.refl _)
      · walk_at "st"
        exact q2
      have hnil : so.filter (fun n => decide ((1000000000000000000000000000000000000000000000000000000000000 : Int) ≤ (if n < 0 then -n else n))) = [] := by
        refine List.filter_eq_nil_iff.mpr fun x hx z => ?_
        have h1 := of_decide_eq_true z
        have h2 := g.far x hx
        unfold FarS at h2
        split at h1 <;> omega
      rw [hnil] at f2
      walk_at "st"
      intro pz hpz
      have t3 := t2.trans (same_new (o := .lst []) hpz)
      refine k_neL (ns := []) (ms := []) (.of ((same_new (o := .lst []) hpz).get f2)) (.of upd_same) ?_
      generalize upd H10 pz (.lst []) = H11 at t3 ⊢
      rw [decide_eq_true rfl]
      walk_at "st"
      refine m_sortSet ?_
      walk_at "st"
      refine ⟨pq, so, ks, rfl, .of (t3.get f1), by omega, hUm, fun ks2 pk hsrt hmem hpk => ?_⟩
      have t4 := t3.trans (same_new (o := .lst (ks2.map V.int)) hpk)
      have f4 := upd_same (H := H11) (a := pk) (o := .lst (ks2.map V.int))
      generalize upd H11 pk (.lst (ks2.map V.int)) = H12 at t4 f4 ⊢
      obtain rfl := isK_uniq hsrt g.kk.srt (fun k => (hmem k).trans (g.kk.mem k).symm)
      walk_at "st"
      refine ⟨pk, pq, ks2, so, rfl, f4, t4.get f1, hbig, by omega, fun x hx => g.far x ((g.kk.mem x).mp hx), hUm, fun os2 p2 H13 hol2 hos2 hp2 t5 f5 => ?_⟩
      replace hos2 := (hos2 g.kk).trans g.eq.symm
      subst hos2
      have t5 := t4.trans t5
      walk_at "st"
      refine k_neL (ns := os2) (ms := os2) (.of f5) (.of (t5.get (t1.get eo))) ?_
      rw [decide_eq_true rfl]
      walk_at "st"
      refine k_listL (.of (t5.get (t1.get w))) fun pj hpj => ?_
      have t6 := t5.trans (same_new (o := .lst (so.map V.int)) hpj)
      have f6 := upd_same (H := H13) (a := pj) (o := .lst (so.map V.int))
      generalize upd H13 pj (.lst (so.map V.int)) = H14 at t6 f6 ⊢
      walk_at "st"
      refine ⟨pj, so, ks2, rfl, f6, by omega, fun c => absurd c (by omega), fun _ ⟨x, hx, hf⟩ => absurd hf (g.far x hx), fun _ _ => ⟨by omega, hUm, fun ks3 p3 H15 hK3 hp3 t7 f7 => ?_⟩⟩
      obtain rfl := isK_uniq hK3.srt g.kk.srt (fun k => (hK3.mem k).trans (g.kk.mem k).symm)
      rw [← g.eq] at f7
      have t7 := t6.trans t7
      walk_at "st"
      refine k_neL (ns := os2) (ms := os2) (.of f7) (.of (t7.get (t1.get eo))) ?_
      rw [decide_eq_true rfl]
      walk_at "st"
      refine k_tyL (.of (t7.get (t1.get w))) ?_
      walk_at "st"
      refine k_app (t7.get (t1.get w)) (by rw [List.length_map]; omega) ?_
      walk_at "st"
      exact ⟨pq, _, rfl, (upd_ne npf.symm).trans (t7.get (t1.get eh)), .inr ⟨_, so, g, (upd_ne npq).trans (t7.get f1)⟩, .inl ⟨_, upd_same⟩⟩
  rintro σ' H9 ⟨pq, v12, rfl, eh, rq, hf⟩
  walk_at "st"
  rcases hf with ⟨xs, w⟩ | ⟨w, rf⟩
  · refine k_isList w ?_
    walk_at "st"
    refine ⟨ph, os, rfl, eh, by omega, fun pg H6 hpg s6 r6 => ?_⟩
    walk_at "st"
    refine k_eqResO r6 (rq.same s6) ?_
    walk_at "st"
    exact q _
  · refine k_isListT w ?_
    walk_at "st"
    refine k_eqResO rf rq ?_
    walk_at "st"
    refine ⟨ph, os, rfl, eh, by omega, fun pg H6 hpg s6 r6 => ?_⟩
    walk_at "st"
    refine k_eqResO r6 (rq.same s6) ?_
    walk_at "st"
    exact q _


end Tw
namespace Tw
open PySem PySem.Spec PyProof.Rows L2
/-! the text -/
def topS (i : Nat) : Stmt := PySem.Challenge.pw_thinwood_k87_signs_read.main.body.getD i (.Pass ⟨0, 0, 0, 0⟩)
abbrev s_packed : Stmt := topS 10
theorem sc_packed : FnScope n_packed ["bits"] (defScope s_packed) := ⟨rfl, rfl, rfl, by decide +kernel, rfl, by decide +kernel, by decide +kernel⟩

abbrev s_unpacked : Stmt := topS 11
theorem sc_unpacked : FnScope n_unpacked ["blocks", "many"] (defScope s_unpacked) := ⟨rfl, rfl, rfl, by decide +kernel, rfl, by decide +kernel, by decide +kernel⟩

abbrev s_ones_in : Stmt := topS 12
theorem sc_ones_in : FnScope n_ones_in ["block", "upto"] (defScope s_ones_in) := ⟨rfl, rfl, rfl, by decide +kernel, rfl, by decide +kernel, by decide +kernel⟩

abbrev s_ones_table : Stmt := topS 14
theorem sc_ones_table : FnScope n_ones_table ["blocks"] (defScope s_ones_table) := ⟨rfl, rfl, rfl, by decide +kernel, rfl, by decide +kernel, by decide +kernel⟩

abbrev s_kept_row : Stmt := topS 15
theorem sc_kept_row : FnScope n_kept_row ["bits"] (defScope s_kept_row) := ⟨rfl, rfl, rfl, by decide +kernel, rfl, by decide +kernel, by decide +kernel⟩

abbrev s_octets_of : Stmt := topS 17
theorem sc_octets_of : FnScope n_octets_of ["number", "many"] (defScope s_octets_of) := ⟨rfl, rfl, rfl, by decide +kernel, rfl, by decide +kernel, by decide +kernel⟩

abbrev s_number_of : Stmt := topS 18
theorem sc_number_of : FnScope n_number_of ["octets"] (defScope s_number_of) := ⟨rfl, rfl, rfl, by decide +kernel, rfl, by decide +kernel, by decide +kernel⟩

abbrev s_fields_of : Stmt := topS 19
theorem sc_fields_of : FnScope n_fields_of ["numbers", "wide"] (defScope s_fields_of) := ⟨rfl, rfl, rfl, by decide +kernel, rfl, by decide +kernel, by decide +kernel⟩

abbrev s_numbers_of : Stmt := topS 20
theorem sc_numbers_of : FnScope n_numbers_of ["octets", "wide"] (defScope s_numbers_of) := ⟨rfl, rfl, rfl, by decide +kernel, rfl, by decide +kernel, by decide +kernel⟩

abbrev s_levels_for : Stmt := topS 23
theorem sc_levels_for : FnScope n_levels_for ["kinds"] (defScope s_levels_for) := ⟨rfl, rfl, rfl, by decide +kernel, rfl, by decide +kernel, by decide +kernel⟩

abbrev s_kept_signs : Stmt := topS 24
theorem sc_kept_signs : FnScope n_kept_signs ["signs"] (defScope s_kept_signs) := ⟨rfl, rfl, rfl, by decide +kernel, rfl, by decide +kernel, by decide +kernel⟩

abbrev s_blocks_for : Stmt := topS 26
theorem sc_blocks_for : FnScope n_blocks_for ["many"] (defScope s_blocks_for) := ⟨rfl, rfl, rfl, by decide +kernel, rfl, by decide +kernel, by decide +kernel⟩

abbrev s_signs_laid : Stmt := topS 29
theorem sc_signs_laid : FnScope n_signs_laid ["tables", "blocks"] (defScope s_signs_laid) := ⟨rfl, rfl, rfl, by decide +kernel, rfl, by decide +kernel, by decide +kernel⟩

abbrev s_signs_octets : Stmt := topS 30
theorem sc_signs_octets : FnScope n_signs_octets ["signs"] (defScope s_signs_octets) := ⟨rfl, rfl, rfl, by decide +kernel, rfl, by decide +kernel, by decide +kernel⟩

abbrev s_head_of : Stmt := topS 31
theorem sc_head_of : FnScope n_head_of ["octets", "kind", "wide"] (defScope s_head_of) := ⟨rfl, rfl, rfl, by decide +kernel, rfl, by decide +kernel, by decide +kernel⟩

abbrev s_row_long : Stmt := topS 32
theorem sc_row_long : FnScope n_row_long ["many"] (defScope s_row_long) := ⟨rfl, rfl, rfl, by decide +kernel, rfl, by decide +kernel, by decide +kernel⟩

abbrev s_same_again : Stmt := topS 33
theorem sc_same_again : FnScope n_same_again ["octets", "again"] (defScope s_same_again) := ⟨rfl, rfl, rfl, by decide +kernel, rfl, by decide +kernel, by decide +kernel⟩

abbrev s_signs_long : Stmt := topS 34
theorem sc_signs_long : FnScope n_signs_long ["many", "count"] (defScope s_signs_long) := ⟨rfl, rfl, rfl, by decide +kernel, rfl, by decide +kernel, by decide +kernel⟩

abbrev s_ranks_in : Stmt := topS 35
theorem sc_ranks_in : FnScope n_ranks_in ["octets", "many", "levels"] (defScope s_ranks_in) := ⟨rfl, rfl, rfl, by decide +kernel, rfl, by decide +kernel, by decide +kernel⟩

abbrev s_read_signs : Stmt := topS 36
theorem sc_read_signs : FnScope n_read_signs ["octets"] (defScope s_read_signs) := ⟨rfl, rfl, rfl, by decide +kernel, rfl, by decide +kernel, by decide +kernel⟩

abbrev s_law_cell_at : Stmt := topS 38
theorem sc_law_cell_at : FnScope n_law_cell_at ["_law_script", "_law_k"] (defScope s_law_cell_at) := ⟨rfl, rfl, rfl, by decide +kernel, rfl, by decide +kernel, by decide +kernel⟩

abbrev s_law_whole : Stmt := topS 39
theorem sc_law_whole : FnScope n_law_whole ["_law_found"] (defScope s_law_whole) := ⟨rfl, rfl, rfl, by decide +kernel, rfl, by decide +kernel, by decide +kernel⟩

abbrev s_law_signs : Stmt := topS 40
theorem sc_law_signs : FnScope n_law_signs ["_law_script"] (defScope s_law_signs) := ⟨rfl, rfl, rfl, by decide +kernel, rfl, by decide +kernel, by decide +kernel⟩

abbrev s_law_two : Stmt := topS 41
theorem sc_law_two : FnScope n_law_two ["_law_number"] (defScope s_law_two) := ⟨rfl, rfl, rfl, by decide +kernel, rfl, by decide +kernel, by decide +kernel⟩

abbrev s_law_many : Stmt := topS 42
theorem sc_law_many : FnScope n_law_many ["_law_number"] (defScope s_law_many) := ⟨rfl, rfl, rfl, by decide +kernel, rfl, by decide +kernel, by decide +kernel⟩

abbrev s_law_level : Stmt := topS 43
theorem sc_law_level : FnScope n_law_level ["_law_bits"] (defScope s_law_level) := ⟨rfl, rfl, rfl, by decide +kernel, rfl, by decide +kernel, by decide +kernel⟩

abbrev s_law_laid : Stmt := topS 44
theorem sc_law_laid : FnScope n_law_laid ["_law_kinds", "_law_signs_here"] (defScope s_law_laid) := ⟨rfl, rfl, rfl, by decide +kernel, rfl, by decide +kernel, by decide +kernel⟩

abbrev s_law_odd_kinds : Stmt := topS 45
theorem sc_law_odd_kinds : FnScope n_law_odd_kinds ["_law_kinds", "_law_cell"] (defScope s_law_odd_kinds) := ⟨rfl, rfl, rfl, by decide +kernel, rfl, by decide +kernel, by decide +kernel⟩

abbrev s_law_changed : Stmt := topS 46
theorem sc_law_changed : FnScope n_law_changed ["_law_octets", "_law_cell"] (defScope s_law_changed) := ⟨rfl, rfl, rfl, by decide +kernel, rfl, by decide +kernel, by decide +kernel⟩

abbrev s_law_told : Stmt := topS 47
theorem sc_law_told : FnScope n_law_told ["_law_octets"] (defScope s_law_told) := ⟨rfl, rfl, rfl, by decide +kernel, rfl, by decide +kernel, by decide +kernel⟩

abbrev s_law : Stmt := topS 48
theorem sc_law : FnScope n_law ["_law_script"] (defScope s_law) := ⟨rfl, rfl, rfl, by decide +kernel, rfl, by decide +kernel, by decide +kernel⟩

structure Tx (P : Program) (w : World) (K : PySem.W.Frag) (mg : Str → Option Value) (base : Heap) : Prop where
  d_packed : ∃ fd, FunD K "packed" "packed" (defArgs s_packed) (defBody s_packed) (defScope s_packed) [] [] (He.ga K "packed") fd
  g_packed : mg "packed" = some (.ref (He.ga K "packed"))
  d_unpacked : ∃ fd, FunD K "unpacked" "unpacked" (defArgs s_unpacked) (defBody s_unpacked) (defScope s_unpacked) [] [] (He.ga K "unpacked") fd
  g_unpacked : mg "unpacked" = some (.ref (He.ga K "unpacked"))
  d_ones_in : ∃ fd, FunD K "ones_in" "ones_in" (defArgs s_ones_in) (defBody s_ones_in) (defScope s_ones_in) [] [] (He.ga K "ones_in") fd
  g_ones_in : mg "ones_in" = some (.ref (He.ga K "ones_in"))
  d_ones_table : ∃ fd, FunD K "ones_table" "ones_table" (defArgs s_ones_table) (defBody s_ones_table) (defScope s_ones_table) [] [] (He.ga K "ones_table") fd
  g_ones_table : mg "ones_table" = some (.ref (He.ga K "ones_table"))
  d_kept_row : ∃ fd, FunD K "kept_row" "kept_row" (defArgs s_kept_row) (defBody s_kept_row) (defScope s_kept_row) [] [] (He.ga K "kept_row") fd
  g_kept_row : mg "kept_row" = some (.ref (He.ga K "kept_row"))
  d_octets_of : ∃ fd, FunD K "octets_of" "octets_of" (defArgs s_octets_of) (defBody s_octets_of) (defScope s_octets_of) [] [] (He.ga K "octets_of") fd
  g_octets_of : mg "octets_of" = some (.ref (He.ga K "octets_of"))
  d_number_of : ∃ fd, FunD K "number_of" "number_of" (defArgs s_number_of) (defBody s_number_of) (defScope s_number_of) [] [] (He.ga K "number_of") fd
  g_number_of : mg "number_of" = some (.ref (He.ga K "number_of"))
  d_fields_of : ∃ fd, FunD K "fields_of" "fields_of" (defArgs s_fields_of) (defBody s_fields_of) (defScope s_fields_of) [] [] (He.ga K "fields_of") fd
  g_fields_of : mg "fields_of" = some (.ref (He.ga K "fields_of"))
  d_numbers_of : ∃ fd, FunD K "numbers_of" "numbers_of" (defArgs s_numbers_of) (defBody s_numbers_of) (defScope s_numbers_of) [] [] (He.ga K "numbers_of") fd
  g_numbers_of : mg "numbers_of" = some (.ref (He.ga K "numbers_of"))
  d_levels_for : ∃ fd, FunD K "levels_for" "levels_for" (defArgs s_levels_for) (defBody s_levels_for) (defScope s_levels_for) [] [] (He.ga K "levels_for") fd
  g_levels_for : mg "levels_for" = some (.ref (He.ga K "levels_for"))
  d_kept_signs : ∃ fd, FunD K "kept_signs" "kept_signs" (defArgs s_kept_signs) (defBody s_kept_signs) (defScope s_kept_signs) [] [] (He.ga K "kept_signs") fd
  g_kept_signs : mg "kept_signs" = some (.ref (He.ga K "kept_signs"))
  d_blocks_for : ∃ fd, FunD K "blocks_for" "blocks_for" (defArgs s_blocks_for) (defBody s_blocks_for) (defScope s_blocks_for) [] [] (He.ga K "blocks_for") fd
  g_blocks_for : mg "blocks_for" = some (.ref (He.ga K "blocks_for"))
  d_signs_laid : ∃ fd, FunD K "signs_laid" "signs_laid" (defArgs s_signs_laid) (defBody s_signs_laid) (defScope s_signs_laid) [] [] (He.ga K "signs_laid") fd
  g_signs_laid : mg "signs_laid" = some (.ref (He.ga K "signs_laid"))
  d_signs_octets : ∃ fd, FunD K "signs_octets" "signs_octets" (defArgs s_signs_octets) (defBody s_signs_octets) (defScope s_signs_octets) [] [] (He.ga K "signs_octets") fd
  g_signs_octets : mg "signs_octets" = some (.ref (He.ga K "signs_octets"))
  d_head_of : ∃ fd, FunD K "head_of" "head_of" (defArgs s_head_of) (defBody s_head_of) (defScope s_head_of) [] [] (He.ga K "head_of") fd
  g_head_of : mg "head_of" = some (.ref (He.ga K "head_of"))
  d_row_long : ∃ fd, FunD K "row_long" "row_long" (defArgs s_row_long) (defBody s_row_long) (defScope s_row_long) [] [] (He.ga K "row_long") fd
  g_row_long : mg "row_long" = some (.ref (He.ga K "row_long"))
  d_same_again : ∃ fd, FunD K "same_again" "same_again" (defArgs s_same_again) (defBody s_same_again) (defScope s_same_again) [] [] (He.ga K "same_again") fd
  g_same_again : mg "same_again" = some (.ref (He.ga K "same_again"))
  d_signs_long : ∃ fd, FunD K "signs_long" "signs_long" (defArgs s_signs_long) (defBody s_signs_long) (defScope s_signs_long) [] [] (He.ga K "signs_long") fd
  g_signs_long : mg "signs_long" = some (.ref (He.ga K "signs_long"))
  d_ranks_in : ∃ fd, FunD K "ranks_in" "ranks_in" (defArgs s_ranks_in) (defBody s_ranks_in) (defScope s_ranks_in) [] [] (He.ga K "ranks_in") fd
  g_ranks_in : mg "ranks_in" = some (.ref (He.ga K "ranks_in"))
  d_read_signs : ∃ fd, FunD K "read_signs" "read_signs" (defArgs s_read_signs) (defBody s_read_signs) (defScope s_read_signs) [] [] (He.ga K "read_signs") fd
  g_read_signs : mg "read_signs" = some (.ref (He.ga K "read_signs"))
  d_law_cell_at : ∃ fd, FunD K "_law_cell_at" "_law_cell_at" (defArgs s_law_cell_at) (defBody s_law_cell_at) (defScope s_law_cell_at) [] [] (He.ga K "_law_cell_at") fd
  g_law_cell_at : mg "_law_cell_at" = some (.ref (He.ga K "_law_cell_at"))
  d_law_whole : ∃ fd, FunD K "_law_whole" "_law_whole" (defArgs s_law_whole) (defBody s_law_whole) (defScope s_law_whole) [] [] (He.ga K "_law_whole") fd
  g_law_whole : mg "_law_whole" = some (.ref (He.ga K "_law_whole"))
  d_law_signs : ∃ fd, FunD K "_law_signs" "_law_signs" (defArgs s_law_signs) (defBody s_law_signs) (defScope s_law_signs) [] [] (He.ga K "_law_signs") fd
  g_law_signs : mg "_law_signs" = some (.ref (He.ga K "_law_signs"))
  d_law_two : ∃ fd, FunD K "_law_two" "_law_two" (defArgs s_law_two) (defBody s_law_two) (defScope s_law_two) [] [] (He.ga K "_law_two") fd
  g_law_two : mg "_law_two" = some (.ref (He.ga K "_law_two"))
  d_law_many : ∃ fd, FunD K "_law_many" "_law_many" (defArgs s_law_many) (defBody s_law_many) (defScope s_law_many) [] [] (He.ga K "_law_many") fd
  g_law_many : mg "_law_many" = some (.ref (He.ga K "_law_many"))
  d_law_level : ∃ fd, FunD K "_law_level" "_law_level" (defArgs s_law_level) (defBody s_law_level) (defScope s_law_level) [] [] (He.ga K "_law_level") fd
  g_law_level : mg "_law_level" = some (.ref (He.ga K "_law_level"))
  d_law_laid : ∃ fd, FunD K "_law_laid" "_law_laid" (defArgs s_law_laid) (defBody s_law_laid) (defScope s_law_laid) [] [] (He.ga K "_law_laid") fd
  g_law_laid : mg "_law_laid" = some (.ref (He.ga K "_law_laid"))
  d_law_odd_kinds : ∃ fd, FunD K "_law_odd_kinds" "_law_odd_kinds" (defArgs s_law_odd_kinds) (defBody s_law_odd_kinds) (defScope s_law_odd_kinds) [] [] (He.ga K "_law_odd_kinds") fd
  g_law_odd_kinds : mg "_law_odd_kinds" = some (.ref (He.ga K "_law_odd_kinds"))
  d_law_changed : ∃ fd, FunD K "_law_changed" "_law_changed" (defArgs s_law_changed) (defBody s_law_changed) (defScope s_law_changed) [] [] (He.ga K "_law_changed") fd
  g_law_changed : mg "_law_changed" = some (.ref (He.ga K "_law_changed"))
  d_law_told : ∃ fd, FunD K "_law_told" "_law_told" (defArgs s_law_told) (defBody s_law_told) (defScope s_law_told) [] [] (He.ga K "_law_told") fd
  g_law_told : mg "_law_told" = some (.ref (He.ga K "_law_told"))
  d_law : ∃ fd, FunD K "law" "law" (defArgs s_law) (defBody s_law) (defScope s_law) [] [] (He.ga K "law") fd
  g_law : mg "law" = some (.ref (He.ga K "law"))
  b_ValueError : mg "ValueError" = none
  b_abs : mg "abs" = none
  b_all : mg "all" = none
  b_bool : mg "bool" = none
  b_divmod : mg "divmod" = none
  b_enumerate : mg "enumerate" = none
  b_int : mg "int" = none
  b_isinstance : mg "isinstance" = none
  b_len : mg "len" = none
  b_list : mg "list" = none
  b_max : mg "max" = none
  b_range : mg "range" = none
  b_reversed : mg "reversed" = none
  b_set : mg "set" = none
  b_sorted : mg "sorted" = none
  b_sum : mg "sum" = none
  b_tuple : mg "tuple" = none
  b_zip : mg "zip" = none
  x_NoBit : ExF K mg "NoBit"
  x_NoOctets : ExF K mg "NoOctets"
  x_NoPlace : ExF K mg "NoPlace"
  x_NoSign : ExF K mg "NoSign"
  x_TooMany : ExF K mg "TooMany"
  x_WoodError : ExF K mg "WoodError"
  g_NoBit : mg "NoBit" = some (.ref (He.ga K "NoBit"))
  g_NoOctets : mg "NoOctets" = some (.ref (He.ga K "NoOctets"))
  g_NoPlace : mg "NoPlace" = some (.ref (He.ga K "NoPlace"))
  g_NoSign : mg "NoSign" = some (.ref (He.ga K "NoSign"))
  g_TooMany : mg "TooMany" = some (.ref (He.ga K "TooMany"))
  g_WoodError : mg "WoodError" = some (.ref (He.ga K "WoodError"))
  fx : KFx K
  i_FAR : ∃ t, mg "FAR" = some (.int 1000000000000000000000000000000000000000000000000000000000000 t)
  i_MOST : ∃ t, mg "MOST" = some (.int 4096 t)
  i_SIGN_WIDE : ∃ t, mg "SIGN_WIDE" = some (.int 26 t)
  i_WIDE : ∃ t, mg "WIDE" = some (.int 32 t)
section
variable {P : Program} {w : World} {K : PySem.W.Frag} {mg : Str → Option Value} {base : Heap}
theorem ok_packed (T : Tx P w K mg base) : Okf P w K mg base (L2.CX P w) 2 "packed" ["bits"] (sp_packed K) := by
  obtain ⟨fd, FD⟩ := T.d_packed
  refine ⟨⟨fd, FunD.look FD, FD.bindsN fun _ _ _ _ _ _ us hl => match us, hl with | [_], _ => rfl, ?_⟩, FD.kp, T.g_packed⟩
  refine FunD.ok (CX := (L2.CX P w)) FD sc_packed (len_packed K) (fun cdv A outer s H vs Q E hr h => ⟨t_packed K E, ?_, rd_packed K vs H Q E h⟩)
  exact (pss_cons (ps_if (pt_cmpR op_gt (pe_callB call_lenK (by rfl) T.b_len (by decide +kernel) (pa_cons (pv 0) pa_nil)) (pe_gint T.i_MOST (by rfl)) (nomark _))
  (pss_one (ps_rz T.x_TooMany (takes_of rfl rfl rfl rfl)))
  pss_nil)
  (pss_cons (ps_set (i := 1) sc_packed.nd rfl (.inl rfl) (pe_op op_rep (pe_lst (pa_cons pe_int pa_nil)) (pe_op op_fdiv (pe_op op_sub (pe_op op_add (pe_callB call_lenK (by rfl) T.b_len (by decide +kernel) (pa_cons (pv 0) pa_nil)) (pe_gint T.i_WIDE (by rfl))) pe_int) (pe_gint T.i_WIDE (by rfl)))))
  (pss_cons (ps_for (passes_of rfl) rfl (pi_enum (by rfl) T.b_enumerate (pa_cons (pv 0) pa_nil)) (pg_tup rfl (pgs_cons (pg_name (i := 2) sc_packed.nd rfl (.inl rfl)) (pgs_cons (pg_name (i := 3) sc_packed.nd rfl (.inl rfl)) pgs_nil)))
  (pss_cons (ps_if (PW.pt (pw_and (pt_cmpR op_ne (pv 3) pe_int (nomark _)) (pw_and1 (pt_cmpR op_ne (pv 3) pe_int (nomark _)))))
  (pss_one (ps_rz T.x_NoBit (takes_of rfl rfl rfl rfl)))
  pss_nil)
  (pss_one (ps_if (pt_cmpR op_eq (pv 3) pe_int (nomark _))
  (pss_one (ps_asg (pe_op op_or (pe_ix ix_list (pv 1) (pe_op op_fdiv (pv 2) (pe_gint T.i_WIDE (by rfl))) (fun _ _ => rfl)) (pe_op op_shlW pe_int (pe_op op_mod (pv 2) (pe_gint T.i_WIDE (by rfl))))) (pg_sub (pv 1) (pe_op op_fdiv (pv 2) (pe_gint T.i_WIDE (by rfl))) set_list)))
  pss_nil))))
  (pss_one (ps_ret (pv 1))))))

theorem ok_unpacked (T : Tx P w K mg base) : Okf P w K mg base (L2.CX P w) 2 "unpacked" ["blocks", "many"] (sp_unpacked K) := by
  obtain ⟨fd, FD⟩ := T.d_unpacked
  refine ⟨⟨fd, FunD.look FD, FD.bindsN fun _ _ _ _ _ _ us hl => match us, hl with | [_, _], _ => rfl, ?_⟩, FD.kp, T.g_unpacked⟩
  refine FunD.ok (CX := (L2.CX P w)) FD sc_unpacked (len_unpacked K) (fun cdv A outer s H vs Q E hr h => ⟨t_unpacked K E, ?_, rd_unpacked K vs H Q E h⟩)
  exact (pss_cons (ps_if (PW.pt (pw_or (pt_cmpR op_lt (pv 1) pe_int (nomark _)) (pw_or1 (pt_cmpR op_gt (pv 1) (pe_op op_mul (pe_gint T.i_WIDE (by rfl)) (pe_callB call_lenK (by rfl) T.b_len (by decide +kernel) (pa_cons (pv 0) pa_nil))) (nomark _)))))
  (pss_one (ps_rz T.x_NoPlace (takes_of rfl rfl rfl rfl)))
  pss_nil)
  (pss_one (ps_ret (pe_lc (own := [("at", 2)]) (g := (gName 2)) (tt := tYes) rfl sc_unpacked.nd (pi_range1 (by rfl) T.b_range (pa_cons (pv 1) pa_nil)) (blkOk_by (N := ["blocks", "many", "at"]) (sc := defScope s_unpacked) (own := [("at", 2)]) (by decide +kernel)) (fun _ _ _ _ _ => (pg_name (i := 2) sc_unpacked.nd rfl (.inl rfl))) (fun _ _ _ _ _ => pts_nil) (fun _ _ _ _ _ => (pe_op op_and1 (pe_op op_shr (pe_ix ix_list (pv 0) (pe_op op_fdiv (pv 2) (pe_gint T.i_WIDE (by rfl))) (fun _ _ => rfl)) (pe_op op_mod (pv 2) (pe_gint T.i_WIDE (by rfl)))) pe_int))))))

theorem ok_ones_in (T : Tx P w K mg base) : Okf P w K mg base CX0 1 "ones_in" ["block", "upto"] (sp_ones_in K) := by
  obtain ⟨fd, FD⟩ := T.d_ones_in
  refine ⟨⟨fd, FunD.look FD, FD.bindsN fun _ _ _ _ _ _ us hl => match us, hl with | [_, _], _ => rfl, ?_⟩, FD.kp, T.g_ones_in⟩
  refine FunD.ok (CX := CX0) FD sc_ones_in (len_ones_in K) (fun cdv A outer s H vs Q E hr h => ⟨t_ones_in K, PSs.nox ?_, rd_ones_in K vs H Q E h⟩)
  exact (pss_one (ps_ret (pe_callB (cr_sum rfl) (by rfl) T.b_sum (by decide +kernel) (pa_cons (pe_lc (own := [("k", 2)]) (g := (gName 2)) (tt := tYes) rfl sc_ones_in.nd (pi_range1 (by rfl) T.b_range (pa_cons (pv 1) pa_nil)) (blkOk_by (N := ["block", "upto", "k"]) (sc := defScope s_ones_in) (own := [("k", 2)]) (by decide +kernel)) (fun _ _ _ _ _ => (pg_name (i := 2) sc_ones_in.nd rfl (.inl rfl))) (fun _ _ _ _ _ => pts_nil) (fun _ _ _ _ _ => (pe_op op_and1 (pe_op op_shr (pv 0) (pv 2)) pe_int))) pa_nil))))

theorem ok_ones_table (T : Tx P w K mg base) (o_ones_in : Okf P w K mg base CX0 1 "ones_in" ["block", "upto"] (sp_ones_in K)) : Okf P w K mg base CX0 2 "ones_table" ["blocks"] (sp_ones_table K) := by
  obtain ⟨fd, FD⟩ := T.d_ones_table
  refine ⟨⟨fd, FunD.look FD, FD.bindsN fun _ _ _ _ _ _ us hl => match us, hl with | [_], _ => rfl, ?_⟩, FD.kp, T.g_ones_table⟩
  refine FunD.ok (CX := CX0) FD sc_ones_table (len_ones_table K) (fun cdv A outer s H vs Q E hr h => ⟨t_ones_table K, PSs.nox ?_, rd_ones_table K vs H Q E h⟩)
  exact (pss_cons (ps_set (i := 1) sc_ones_table.nd rfl (.inl rfl) (pe_lst (pa_cons pe_int pa_nil)))
  (pss_cons (ps_for PassesOwn.never rfl (pi_list (pv 0)) (pg_name (i := 2) sc_ones_table.nd rfl (.inl rfl))
  (pss_one (ps_expr (pe_bm PySem.F.plainAttrs_list PySem.F.slot_list_append PySem.F.type_list_append mt_append (pv 1) (pa_cons (pe_op op_add (pe_ix ix_list (pv 1) (pe_un un_neg pe_int) (fun _ _ => rfl)) (pe_callF o_ones_in hr (by decide) (by rfl) pass0 (pa_cons (pv 2) (pa_cons (pe_gint T.i_WIDE (by rfl)) pa_nil)))) pa_nil)))))
  (pss_one (ps_ret (pe_callTy call_tupK (by rfl) T.b_tuple (by decide +kernel) (pa_cons (pv 1) pa_nil))))))

theorem ok_kept_row (T : Tx P w K mg base) (o_packed : Okf P w K mg base (L2.CX P w) 2 "packed" ["bits"] (sp_packed K)) (o_ones_table : Okf P w K mg base CX0 2 "ones_table" ["blocks"] (sp_ones_table K)) : Okf P w K mg base (L2.CX P w) 4 "kept_row" ["bits"] (sp_kept_row K) := by
  obtain ⟨fd, FD⟩ := T.d_kept_row
  refine ⟨⟨fd, FunD.look FD, FD.bindsN fun _ _ _ _ _ _ us hl => match us, hl with | [_], _ => rfl, ?_⟩, FD.kp, T.g_kept_row⟩
  refine FunD.ok (CX := (L2.CX P w)) FD sc_kept_row (len_kept_row K) (fun cdv A outer s H vs Q E hr h => ⟨t_kept_row K E, ?_, rd_kept_row K vs H Q E h⟩)
  exact (pss_cons (ps_set (i := 1) sc_kept_row.nd rfl (.inl rfl) (pe_callF o_packed hr (by decide) (by rfl) (passX (takes_of rfl rfl rfl rfl)) (pa_cons (pv 0) pa_nil)))
  (pss_one (ps_ret (pe_tup (pa_cons (pe_tup (pa_cons (pe_callB call_lenK (by rfl) T.b_len (by decide +kernel) (pa_cons (pv 0) pa_nil)) (pa_cons (pe_callF o_ones_table hr (by decide) (by rfl) pass0 (pa_cons (pv 1) pa_nil)) pa_nil))) (pa_cons (pv 1) pa_nil))))))

theorem ok_octets_of (T : Tx P w K mg base) : Okf P w K mg base CX0 1 "octets_of" ["number", "many"] (sp_octets_of K) := by
  obtain ⟨fd, FD⟩ := T.d_octets_of
  refine ⟨⟨fd, FunD.look FD, FD.bindsN fun _ _ _ _ _ _ us hl => match us, hl with | [_, _], _ => rfl, ?_⟩, FD.kp, T.g_octets_of⟩
  refine FunD.ok (CX := CX0) FD sc_octets_of (len_octets_of K) (fun cdv A outer s H vs Q E hr h => ⟨t_octets_of K, PSs.nox ?_, rd_octets_of K vs H Q E h⟩)
  exact (pss_cons (ps_set (i := 2) sc_octets_of.nd rfl (.inl rfl) (pe_lst pa_nil))
  (pss_cons (ps_while PassesOwn.never (pt_cmpR op_lt (pe_callB call_lenK (by rfl) T.b_len (by decide +kernel) (pa_cons (pv 2) pa_nil)) (pv 1) (nomark _))
  (pss_cons (ps_asg (pe_callB call_divmodW (by rfl) T.b_divmod (by decide +kernel) (pa_cons (pv 0) (pa_cons pe_int pa_nil))) (pg_tup rfl (pgs_cons (pg_name (i := 0) sc_octets_of.nd rfl (.inl rfl)) (pgs_cons (pg_name (i := 3) sc_octets_of.nd rfl (.inl rfl)) pgs_nil))))
  (pss_one (ps_expr (pe_bm PySem.F.plainAttrs_list PySem.F.slot_list_append PySem.F.type_list_append mt_append (pv 2) (pa_cons (pv 3) pa_nil))))))
  (pss_one (ps_ret (pv 2)))))

theorem ok_number_of (T : Tx P w K mg base) : Okf P w K mg base CX0 1 "number_of" ["octets"] (sp_number_of K) := by
  obtain ⟨fd, FD⟩ := T.d_number_of
  refine ⟨⟨fd, FunD.look FD, FD.bindsN fun _ _ _ _ _ _ us hl => match us, hl with | [_], _ => rfl, ?_⟩, FD.kp, T.g_number_of⟩
  refine FunD.ok (CX := CX0) FD sc_number_of (len_number_of K) (fun cdv A outer s H vs Q E hr h => ⟨t_number_of K, PSs.nox ?_, rd_number_of K vs H Q E h⟩)
  exact (pss_cons (ps_set (i := 1) sc_number_of.nd rfl (.inl rfl) pe_int)
  (pss_cons (ps_for PassesOwn.never rfl (pi_reversed (by rfl) T.b_reversed (pa_cons (pv 0) pa_nil)) (pg_name (i := 2) sc_number_of.nd rfl (.inl rfl))
  (pss_one (ps_set (i := 1) sc_number_of.nd rfl (.inl rfl) (pe_op op_or (pe_op op_shlW (pv 1) pe_int) (pv 2)))))
  (pss_one (ps_ret (pv 1)))))

theorem ok_fields_of (T : Tx P w K mg base) (o_octets_of : Okf P w K mg base CX0 1 "octets_of" ["number", "many"] (sp_octets_of K)) : Okf P w K mg base CX0 2 "fields_of" ["numbers", "wide"] (sp_fields_of K) := by
  obtain ⟨fd, FD⟩ := T.d_fields_of
  refine ⟨⟨fd, FunD.look FD, FD.bindsN fun _ _ _ _ _ _ us hl => match us, hl with | [_, _], _ => rfl, ?_⟩, FD.kp, T.g_fields_of⟩
  refine FunD.ok (CX := CX0) FD sc_fields_of (len_fields_of K) (fun cdv A outer s H vs Q E hr h => ⟨t_fields_of K, PSs.nox ?_, rd_fields_of K vs H Q E h⟩)
  exact (pss_cons (ps_set (i := 2) sc_fields_of.nd rfl (.inl rfl) (pe_lst pa_nil))
  (pss_cons (ps_for PassesOwn.never rfl (pi_seq (pv 0)) (pg_name (i := 3) sc_fields_of.nd rfl (.inl rfl))
  (pss_one (ps_expr (pe_bm PySem.F.plainAttrs_list PySem.F.slot_list_extend PySem.F.type_list_extend mt_extend (pv 2) (pa_cons (pe_callF o_octets_of hr (by decide) (by rfl) pass0 (pa_cons (pv 3) (pa_cons (pv 1) pa_nil))) pa_nil)))))
  (pss_one (ps_ret (pv 2)))))

theorem ok_numbers_of (T : Tx P w K mg base) (o_number_of : Okf P w K mg base CX0 1 "number_of" ["octets"] (sp_number_of K)) : Okf P w K mg base CX0 2 "numbers_of" ["octets", "wide"] (sp_numbers_of K) := by
  obtain ⟨fd, FD⟩ := T.d_numbers_of
  refine ⟨⟨fd, FunD.look FD, FD.bindsN fun _ _ _ _ _ _ us hl => match us, hl with | [_, _], _ => rfl, ?_⟩, FD.kp, T.g_numbers_of⟩
  refine FunD.ok (CX := CX0) FD sc_numbers_of (len_numbers_of K) (fun cdv A outer s H vs Q E hr h => ⟨t_numbers_of K, PSs.nox ?_, rd_numbers_of K vs H Q E h⟩)
  exact (pss_one (ps_ret (pe_lc (own := [("at", 2)]) (g := (gName 2)) (tt := tYes) rfl sc_numbers_of.nd (pi_range3 (by rfl) T.b_range (pa_cons pe_int (pa_cons (pe_callB call_lenK (by rfl) T.b_len (by decide +kernel) (pa_cons (pv 0) pa_nil)) (pa_cons (pv 1) pa_nil)))) (blkOk_by (N := ["octets", "wide", "at"]) (sc := defScope s_numbers_of) (own := [("at", 2)]) (by decide +kernel)) (fun _ _ _ _ _ => (pg_name (i := 2) sc_numbers_of.nd rfl (.inl rfl))) (fun _ _ _ _ _ => pts_nil) (fun _ _ _ _ _ => (pe_callF o_number_of hr (by decide) (by rfl) pass0 (pa_cons (pe_slice sl_list (pv 0) (po_some (pv 2)) (po_some (pe_op op_add (pv 2) (pv 1)))) pa_nil))))))

theorem ok_levels_for (T : Tx P w K mg base) : Okf P w K mg base CX0 1 "levels_for" ["kinds"] (sp_levels_for K) := by
  obtain ⟨fd, FD⟩ := T.d_levels_for
  refine ⟨⟨fd, FunD.look FD, FD.bindsN fun _ _ _ _ _ _ us hl => match us, hl with | [_], _ => rfl, ?_⟩, FD.kp, T.g_levels_for⟩
  refine FunD.ok (CX := CX0) FD sc_levels_for (len_levels_for K) (fun cdv A outer s H vs Q E hr h => ⟨t_levels_for K, PSs.nox ?_, rd_levels_for K vs H Q E h⟩)
  exact (pss_cons (ps_set (i := 1) sc_levels_for.nd rfl (.inl rfl) pe_int)
  (pss_cons (ps_set (i := 2) sc_levels_for.nd rfl (.inl rfl) pe_int)
  (pss_cons (ps_while PassesOwn.never (pt_cmpR op_lt (pv 2) (pv 0) (nomark _))
  (pss_cons (ps_aug (i := 2) sc_levels_for.nd rfl (.inl rfl) (pv 2) ip_add)
  (pss_one (ps_aug (i := 1) sc_levels_for.nd rfl (.inl rfl) pe_int ip_add))))
  (pss_one (ps_ret (pv 1))))))

theorem ok_kept_signs (T : Tx P w K mg base) (o_levels_for : Okf P w K mg base CX0 1 "levels_for" ["kinds"] (sp_levels_for K)) (o_kept_row : Okf P w K mg base (L2.CX P w) 4 "kept_row" ["bits"] (sp_kept_row K)) : Okf P w K mg base (L2.CX P w) 6 "kept_signs" ["signs"] (sp_kept_signs K) := by
  obtain ⟨fd, FD⟩ := T.d_kept_signs
  refine ⟨⟨fd, FunD.look FD, FD.bindsN fun _ _ _ _ _ _ us hl => match us, hl with | [_], _ => rfl, ?_⟩, FD.kp, T.g_kept_signs⟩
  refine FunD.ok (CX := (L2.CX P w)) FD sc_kept_signs (len_kept_signs K) (fun cdv A outer s H vs Q E hr h => ⟨t_kept_signs K E, ?_, rd_kept_signs K vs H Q E h⟩)
  exact (pss_cons (ps_if (pt_cmpR op_gt (pe_callB call_lenK (by rfl) T.b_len (by decide +kernel) (pa_cons (pv 0) pa_nil)) (pe_gint T.i_MOST (by rfl)) (nomark _))
  (pss_one (ps_rz T.x_TooMany (takes_of rfl rfl rfl rfl)))
  pss_nil)
  (pss_cons (ps_for (passes_of rfl) rfl (pi_list (pv 0)) (pg_name (i := 1) sc_kept_signs.nd rfl (.inl rfl))
  (pss_one (ps_if (PW.pt (pw_or (pt_cmpR op_le (pv 1) (pe_cst (pe_op op_sub pe_int (pe_gint T.i_FAR (by rfl))) fun _ _ _ h => ⟨_, _, rfl, rfl, h⟩) (nomark _)) (pw_or1 (pt_cmpR op_ge (pv 1) (pe_gint T.i_FAR (by rfl)) (nomark _)))))
  (pss_one (ps_rz T.x_NoSign (takes_of rfl rfl rfl rfl)))
  pss_nil)))
  (pss_cons (ps_set (i := 2) sc_kept_signs.nd rfl (.inl rfl) (pe_sortSet (by rfl) T.b_sorted (by rfl) T.b_set (pv 0)))
  (pss_cons (ps_set (i := 3) sc_kept_signs.nd rfl (.inr rfl) pe_dnewK)
  (pss_cons (ps_for (passes_of rfl) rfl (pi_enum (by rfl) T.b_enumerate (pa_cons (pv 2) pa_nil)) (pg_tup rfl (pgs_cons (pg_name (i := 4) sc_kept_signs.nd rfl (.inl rfl)) (pgs_cons (pg_name (i := 1) sc_kept_signs.nd rfl (.inl rfl)) pgs_nil)))
  (pss_one (ps_dput (hu_of hr) (pv 3) (pv 1) (pv 4) rfl)))
  (pss_cons (ps_setLc (i := 5) (own := [("sign", 1)]) (g := (gName 1)) (tt := tYes) rfl sc_kept_signs.nd rfl rfl (sw_true rfl rfl rfl (by decide +kernel)) (pi_list (pv 0)) (blkOk_by (N := ["signs", "sign", "kinds", "ranks", "rank", "row", "aheads", "blocks", "weight", "tables", "some", "noughts"]) (sc := defScope s_kept_signs) (own := [("sign", 1)]) (by decide +kernel)) (fun _ _ _ _ _ => (pg_name (i := 1) sc_kept_signs.nd rfl (.inl rfl))) (fun _ _ _ _ _ => pts_nil) (fun _ _ _ _ _ => (pe_dget (hu_of hr) (pv 3) (pv 1) (fun _ _ => rfl))))
  (pss_cons (ps_set (i := 6) sc_kept_signs.nd rfl (.inl rfl) (pe_lst pa_nil))
  (pss_cons (ps_set (i := 7) sc_kept_signs.nd rfl (.inl rfl) (pe_lst pa_nil))
  (pss_cons (ps_for (passes_of rfl) rfl (pi_revR (by rfl) T.b_reversed (prg_1 (by rfl) T.b_range (pe_callF o_levels_for hr (by decide) (by rfl) pass0 (pa_cons (pe_callB call_lenK (by rfl) T.b_len (by decide +kernel) (pa_cons (pv 2) pa_nil)) pa_nil)))) (pg_name (i := 8) sc_kept_signs.nd rfl (.inr rfl))
  (pss_cons (ps_asg (pe_callF o_kept_row hr (by decide) (by rfl) (passX (takes_of rfl rfl rfl rfl)) (pa_cons (pe_lc (own := [("rank", 4)]) (g := (gName 4)) (tt := tYes) rfl sc_kept_signs.nd (pi_list (pv 5)) (blkOk_by (N := ["signs", "sign", "kinds", "ranks", "rank", "row", "aheads", "blocks", "weight", "tables", "some", "noughts"]) (sc := defScope s_kept_signs) (own := [("rank", 4)]) (by decide +kernel)) (fun _ _ _ _ _ => (pg_name (i := 4) sc_kept_signs.nd rfl (.inl rfl))) (fun _ _ _ _ _ => pts_nil) (fun _ _ _ _ _ => (pe_op op_and1 (pe_op op_shr (pv 4) (pv 8)) pe_int))) pa_nil)) (pg_tup rfl (pgs_cons (pg_name (i := 9) sc_kept_signs.nd rfl (.inl rfl)) (pgs_cons (pg_name (i := 10) sc_kept_signs.nd rfl (.inl rfl)) pgs_nil))))
  (pss_cons (ps_expr (pe_bm PySem.F.plainAttrs_list PySem.F.slot_list_append PySem.F.type_list_append mt_append (pv 6) (pa_cons (pe_ix ix_tup (pv 9) pe_int (fun _ _ => rfl)) pa_nil)))
  (pss_cons (ps_expr (pe_bm PySem.F.plainAttrs_list PySem.F.slot_list_extend PySem.F.type_list_extend mt_extend (pv 7) (pa_cons (pv 10) pa_nil)))
  (pss_cons (ps_setLc (i := 11) (own := [("rank", 4)]) (g := (gName 4)) (tt := (tTest (tOp rEq (tOp rAnd1 (tOp rShr (tVar 4) (tVar 8)) (tC (.int 1))) (tC (.int 0))))) rfl sc_kept_signs.nd rfl rfl (sw_true rfl rfl rfl (by decide +kernel)) (pi_list (pv 5)) (blkOk_by (N := ["signs", "sign", "kinds", "ranks", "rank", "row", "aheads", "blocks", "weight", "tables", "some", "noughts"]) (sc := defScope s_kept_signs) (own := [("rank", 4)]) (by decide +kernel)) (fun _ _ _ _ _ => (pg_name (i := 4) sc_kept_signs.nd rfl (.inl rfl))) (fun _ _ _ _ _ => (pts_one (pt_cmpR op_eq (pe_op op_and1 (pe_op op_shr (pv 4) (pv 8)) pe_int) pe_int (nomark _)))) (fun _ _ _ _ _ => (pv 4)))
  (pss_one (ps_set (i := 5) sc_kept_signs.nd rfl (.inl rfl) (pe_op op_cat (pv 11) (pe_lc (own := [("rank", 4)]) (g := (gName 4)) (tt := (tTest (tOp rEq (tOp rAnd1 (tOp rShr (tVar 4) (tVar 8)) (tC (.int 1))) (tC (.int 1))))) rfl sc_kept_signs.nd (pi_list (pv 5)) (blkOk_by (N := ["signs", "sign", "kinds", "ranks", "rank", "row", "aheads", "blocks", "weight", "tables", "some", "noughts"]) (sc := defScope s_kept_signs) (own := [("rank", 4)]) (by decide +kernel)) (fun _ _ _ _ _ => (pg_name (i := 4) sc_kept_signs.nd rfl (.inl rfl))) (fun _ _ _ _ _ => (pts_one (pt_cmpR op_eq (pe_op op_and1 (pe_op op_shr (pv 4) (pv 8)) pe_int) pe_int (nomark _)))) (fun _ _ _ _ _ => (pv 4)))))))))))
  (pss_one (ps_ret (pe_tup (pa_cons (pe_tup (pa_cons (pe_callB call_lenK (by rfl) T.b_len (by decide +kernel) (pa_cons (pv 0) pa_nil)) (pa_cons (pe_callTy call_tupK (by rfl) T.b_tuple (by decide +kernel) (pa_cons (pv 2) pa_nil)) (pa_cons (pe_callTy call_tupK (by rfl) T.b_tuple (by decide +kernel) (pa_cons (pv 6) pa_nil)) pa_nil)))) (pa_cons (pv 7) pa_nil))))))))))))))

theorem ok_blocks_for (T : Tx P w K mg base) : Okf P w K mg base CX0 1 "blocks_for" ["many"] (sp_blocks_for K) := by
  obtain ⟨fd, FD⟩ := T.d_blocks_for
  refine ⟨⟨fd, FunD.look FD, FD.bindsN fun _ _ _ _ _ _ us hl => match us, hl with | [_], _ => rfl, ?_⟩, FD.kp, T.g_blocks_for⟩
  refine FunD.ok (CX := CX0) FD sc_blocks_for (len_blocks_for K) (fun cdv A outer s H vs Q E hr h => ⟨t_blocks_for K, PSs.nox ?_, rd_blocks_for K vs H Q E h⟩)
  exact (pss_one (ps_ret (pe_op op_fdiv (pe_op op_sub (pe_op op_add (pv 0) (pe_gint T.i_WIDE (by rfl))) pe_int) (pe_gint T.i_WIDE (by rfl)))))

theorem ok_signs_laid (T : Tx P w K mg base) (o_blocks_for : Okf P w K mg base CX0 1 "blocks_for" ["many"] (sp_blocks_for K)) (o_fields_of : Okf P w K mg base CX0 2 "fields_of" ["numbers", "wide"] (sp_fields_of K)) : Okf P w K mg base CX0 3 "signs_laid" ["tables", "blocks"] (sp_signs_laid K) := by
  obtain ⟨fd, FD⟩ := T.d_signs_laid
  refine ⟨⟨fd, FunD.look FD, FD.bindsN fun _ _ _ _ _ _ us hl => match us, hl with | [_, _], _ => rfl, ?_⟩, FD.kp, T.g_signs_laid⟩
  refine FunD.ok (CX := CX0) FD sc_signs_laid (len_signs_laid K) (fun cdv A outer s H vs Q E hr h => ⟨t_signs_laid K, PSs.nox ?_, rd_signs_laid K vs H Q E h⟩)
  exact (pss_cons (ps_asg (pv 0) (pg_tup rfl (pgs_cons (pg_name (i := 2) sc_signs_laid.nd rfl (.inl rfl)) (pgs_cons (pg_name (i := 3) sc_signs_laid.nd rfl (.inl rfl)) (pgs_cons (pg_name (i := 4) sc_signs_laid.nd rfl (.inl rfl)) pgs_nil)))))
  (pss_cons (ps_set (i := 5) sc_signs_laid.nd rfl (.inl rfl) (pe_callF o_blocks_for hr (by decide) (by rfl) pass0 (pa_cons (pv 2) pa_nil)))
  (pss_cons (ps_set (i := 6) sc_signs_laid.nd rfl (.inl rfl) (pe_op op_cat (pe_op op_cat (pe_lst (pa_cons pe_int pa_nil)) (pe_callF o_fields_of hr (by decide) (by rfl) pass0 (pa_cons (pe_tup (pa_cons (pv 2) (pa_cons (pe_callB call_lenK (by rfl) T.b_len (by decide +kernel) (pa_cons (pv 3) pa_nil)) pa_nil))) (pa_cons pe_int pa_nil)))) (pe_callF o_fields_of hr (by decide) (by rfl) pass0 (pa_cons (pe_lc (own := [("kind", 7)]) (g := (gName 7)) (tt := tYes) rfl sc_signs_laid.nd (pi_tup (pv 3)) (blkOk_by (N := ["tables", "blocks", "many", "kinds", "aheads", "each", "octets", "kind", "level", "ahead"]) (sc := defScope s_signs_laid) (own := [("kind", 7)]) (by decide +kernel)) (fun _ _ _ _ _ => (pg_name (i := 7) sc_signs_laid.nd rfl (.inl rfl))) (fun _ _ _ _ _ => pts_nil) (fun _ _ _ _ _ => (pe_op op_add (pv 7) (pe_gint T.i_FAR (by rfl))))) (pa_cons (pe_gint T.i_SIGN_WIDE (by rfl)) pa_nil)))))
  (pss_cons (ps_for PassesOwn.never rfl (pi_enumT (by rfl) T.b_enumerate (pa_cons (pv 4) pa_nil)) (pg_tup rfl (pgs_cons (pg_name (i := 8) sc_signs_laid.nd rfl (.inl rfl)) (pgs_cons (pg_name (i := 9) sc_signs_laid.nd rfl (.inl rfl)) pgs_nil)))
  (pss_one (ps_aug (i := 6) sc_signs_laid.nd rfl (.inl rfl) (pe_op op_cat (pe_callF o_fields_of hr (by decide) (by rfl) pass0 (pa_cons (pe_slice sl_list (pv 1) (po_some (pe_op op_mul (pv 5) (pv 8))) (po_some (pe_op op_add (pe_op op_mul (pv 5) (pv 8)) (pv 5)))) (pa_cons pe_int pa_nil))) (pe_callF o_fields_of hr (by decide) (by rfl) pass0 (pa_cons (pv 9) (pa_cons pe_int pa_nil)))) iop_ext)))
  (pss_one (ps_ret (pv 6)))))))

theorem ok_signs_octets (T : Tx P w K mg base) (o_kept_signs : Okf P w K mg base (L2.CX P w) 6 "kept_signs" ["signs"] (sp_kept_signs K)) (o_signs_laid : Okf P w K mg base CX0 3 "signs_laid" ["tables", "blocks"] (sp_signs_laid K)) : Okf P w K mg base (L2.CX P w) 8 "signs_octets" ["signs"] (sp_signs_octets K) := by
  obtain ⟨fd, FD⟩ := T.d_signs_octets
  refine ⟨⟨fd, FunD.look FD, FD.bindsN fun _ _ _ _ _ _ us hl => match us, hl with | [_], _ => rfl, ?_⟩, FD.kp, T.g_signs_octets⟩
  refine FunD.ok (CX := (L2.CX P w)) FD sc_signs_octets (len_signs_octets K) (fun cdv A outer s H vs Q E hr h => ⟨t_signs_octets K E, ?_, rd_signs_octets K vs H Q E h⟩)
  exact (pss_cons (ps_asg (pe_callF o_kept_signs hr (by decide) (by rfl) (passX (takes_of rfl rfl rfl rfl)) (pa_cons (pv 0) pa_nil)) (pg_tup rfl (pgs_cons (pg_name (i := 1) sc_signs_octets.nd rfl (.inl rfl)) (pgs_cons (pg_name (i := 2) sc_signs_octets.nd rfl (.inl rfl)) pgs_nil))))
  (pss_one (ps_ret (pe_callF o_signs_laid hr (by decide) (by rfl) pass0 (pa_cons (pv 1) (pa_cons (pv 2) pa_nil))))))

theorem ok_head_of (T : Tx P w K mg base) (o_number_of : Okf P w K mg base CX0 1 "number_of" ["octets"] (sp_number_of K)) : Okf P w K mg base (L2.CX P w) 3 "head_of" ["octets", "kind", "wide"] (sp_head_of K) := by
  obtain ⟨fd, FD⟩ := T.d_head_of
  refine ⟨⟨fd, FunD.look FD, FD.bindsN fun _ _ _ _ _ _ us hl => match us, hl with | [_, _, _], _ => rfl, ?_⟩, FD.kp, T.g_head_of⟩
  refine FunD.ok (CX := (L2.CX P w)) FD sc_head_of (len_head_of K) (fun cdv A outer s H vs Q E hr h => ⟨t_head_of K E, ?_, rd_head_of K vs H Q E h⟩)
  exact (pss_cons (ps_if (PW.pt (pw_or (pt_cmpR op_lt (pe_callB call_lenK (by rfl) T.b_len (by decide +kernel) (pa_cons (pv 0) pa_nil)) (pv 2) (nomark _)) (pw_or (pt_not (pt_val (pe_callB (cr_all rfl) (by rfl) T.b_all (by decide +kernel) (pa_cons (pe_lc (own := [("octet", 3)]) (g := (gName 3)) (tt := tYes) rfl sc_head_of.nd (pi_list (pv 0)) (blkOk_by (N := ["octets", "kind", "wide", "octet", "many"]) (sc := defScope s_head_of) (own := [("octet", 3)]) (by decide +kernel)) (fun _ _ _ _ _ => (pg_name (i := 3) sc_head_of.nd rfl (.inl rfl))) (fun _ _ _ _ _ => pts_nil) (fun _ _ _ _ _ => (pe_chain op_le op_lt pe_int (pv 3) pe_int))) pa_nil)))) (pw_or1 (pt_cmpR op_ne (pe_ix ix_list (pv 0) pe_int (fun _ _ => rfl)) (pv 1) (nomark _))))))
  (pss_one (ps_rz T.x_NoOctets (takes_of rfl rfl rfl rfl)))
  pss_nil)
  (pss_cons (ps_set (i := 4) sc_head_of.nd rfl (.inl rfl) (pe_callF o_number_of hr (by decide) (by rfl) pass0 (pa_cons (pe_slice sl_list (pv 0) (po_some pe_int) (po_some pe_int)) pa_nil)))
  (pss_cons (ps_if (pt_cmpR op_gt (pv 4) (pe_gint T.i_MOST (by rfl)) (nomark _))
  (pss_one (ps_rz T.x_NoOctets (takes_of rfl rfl rfl rfl)))
  pss_nil)
  (pss_one (ps_ret (pe_tup (pa_cons (pv 4) (pa_cons (pe_callF o_number_of hr (by decide) (by rfl) pass0 (pa_cons (pe_slice sl_list (pv 0) (po_some pe_int) (po_some (pv 2))) pa_nil)) pa_nil))))))))

theorem ok_row_long (T : Tx P w K mg base) (o_blocks_for : Okf P w K mg base CX0 1 "blocks_for" ["many"] (sp_blocks_for K)) : Okf P w K mg base CX0 2 "row_long" ["many"] (sp_row_long K) := by
  obtain ⟨fd, FD⟩ := T.d_row_long
  refine ⟨⟨fd, FunD.look FD, FD.bindsN fun _ _ _ _ _ _ us hl => match us, hl with | [_], _ => rfl, ?_⟩, FD.kp, T.g_row_long⟩
  refine FunD.ok (CX := CX0) FD sc_row_long (len_row_long K) (fun cdv A outer s H vs Q E hr h => ⟨t_row_long K, PSs.nox ?_, rd_row_long K vs H Q E h⟩)
  exact (pss_one (ps_ret (pe_op op_add (pe_op op_mul pe_int (pe_callF o_blocks_for hr (by decide) (by rfl) pass0 (pa_cons (pv 0) pa_nil))) pe_int)))

theorem ok_same_again (T : Tx P w K mg base) : Okf P w K mg base (L2.CX P w) 2 "same_again" ["octets", "again"] (sp_same_again K) := by
  obtain ⟨fd, FD⟩ := T.d_same_again
  refine ⟨⟨fd, FunD.look FD, FD.bindsN fun _ _ _ _ _ _ us hl => match us, hl with | [_, _], _ => rfl, ?_⟩, FD.kp, T.g_same_again⟩
  refine FunD.ok (CX := (L2.CX P w)) FD sc_same_again (len_same_again K) (fun cdv A outer s H vs Q E hr h => ⟨t_same_again K E, ?_, rd_same_again K vs H Q E h⟩)
  exact (pss_one (ps_if (pt_cmpR (op_neD hr.units) (pv 0) (pv 1) (nomark _))
  (pss_one (ps_rz T.x_NoOctets (takes_of rfl rfl rfl rfl)))
  pss_nil))

theorem ok_signs_long (T : Tx P w K mg base) (o_levels_for : Okf P w K mg base CX0 1 "levels_for" ["kinds"] (sp_levels_for K)) (o_row_long : Okf P w K mg base CX0 2 "row_long" ["many"] (sp_row_long K)) : Okf P w K mg base CX0 3 "signs_long" ["many", "count"] (sp_signs_long K) := by
  obtain ⟨fd, FD⟩ := T.d_signs_long
  refine ⟨⟨fd, FunD.look FD, FD.bindsN fun _ _ _ _ _ _ us hl => match us, hl with | [_, _], _ => rfl, ?_⟩, FD.kp, T.g_signs_long⟩
  refine FunD.ok (CX := CX0) FD sc_signs_long (len_signs_long K) (fun cdv A outer s H vs Q E hr h => ⟨t_signs_long K, PSs.nox ?_, rd_signs_long K vs H Q E h⟩)
  exact (pss_one (ps_ret (pe_op op_add (pe_op op_add pe_int (pe_op op_mul (pe_gint T.i_SIGN_WIDE (by rfl)) (pv 1))) (pe_op op_mul (pe_callF o_levels_for hr (by decide) (by rfl) pass0 (pa_cons (pv 1) pa_nil)) (pe_callF o_row_long hr (by decide) (by rfl) pass0 (pa_cons (pv 0) pa_nil))))))

theorem ok_ranks_in (T : Tx P w K mg base) (o_row_long : Okf P w K mg base CX0 2 "row_long" ["many"] (sp_row_long K)) (o_unpacked : Okf P w K mg base (L2.CX P w) 2 "unpacked" ["blocks", "many"] (sp_unpacked K)) (o_numbers_of : Okf P w K mg base CX0 2 "numbers_of" ["octets", "wide"] (sp_numbers_of K)) (o_blocks_for : Okf P w K mg base CX0 1 "blocks_for" ["many"] (sp_blocks_for K)) : Okf P w K mg base (L2.CX P w) 4 "ranks_in" ["octets", "many", "levels"] (sp_ranks_in K) := by
  obtain ⟨fd, FD⟩ := T.d_ranks_in
  refine ⟨⟨fd, FunD.look FD, FD.bindsN fun _ _ _ _ _ _ us hl => match us, hl with | [_, _, _], _ => rfl, ?_⟩, FD.kp, T.g_ranks_in⟩
  refine FunD.ok (CX := (L2.CX P w)) FD sc_ranks_in (len_ranks_in K) (fun cdv A outer s H vs Q E hr h => ⟨t_ranks_in K E, ?_, rd_ranks_in K vs H Q E h⟩)
  exact (pss_cons (ps_set (i := 3) sc_ranks_in.nd rfl (.inl rfl) (pe_op op_rep (pe_lst (pa_cons pe_int pa_nil)) (pv 1)))
  (pss_cons (ps_set (i := 4) sc_ranks_in.nd rfl (.inl rfl) (pe_listRg (by rfl) (by rfl) T.b_list (prg_1 (by rfl) T.b_range (pv 1))))
  (pss_cons (ps_for (passes_of rfl) rfl (pi_range1 (by rfl) T.b_range (pa_cons (pv 2) pa_nil)) (pg_name (i := 5) sc_ranks_in.nd rfl (.inl rfl))
  (pss_cons (ps_set (i := 6) sc_ranks_in.nd rfl (.inl rfl) (pe_op op_mul (pe_callF o_row_long hr (by decide) (by rfl) pass0 (pa_cons (pv 1) pa_nil)) (pv 5)))
  (pss_cons (ps_set (i := 7) sc_ranks_in.nd rfl (.inl rfl) (pe_callF o_unpacked hr (by decide) (by rfl) (passX (takes_of rfl rfl rfl rfl)) (pa_cons (pe_callF o_numbers_of hr (by decide) (by rfl) pass0 (pa_cons (pe_slice sl_list (pv 0) (po_some (pv 6)) (po_some (pe_op op_add (pv 6) (pe_op op_mul pe_int (pe_callF o_blocks_for hr (by decide) (by rfl) pass0 (pa_cons (pv 1) pa_nil)))))) (pa_cons pe_int pa_nil))) (pa_cons (pv 1) pa_nil))))
  (pss_cons (ps_set (i := 8) sc_ranks_in.nd rfl (.inl rfl) (pe_lst (pa_cons (pe_lst pa_nil) (pa_cons (pe_lst pa_nil) pa_nil))))
  (pss_cons (ps_for (passes_of rfl) rfl (pi_zip (by rfl) T.b_zip (pa_cons (pv 4) (pa_cons (pv 7) pa_nil))) (pg_tup rfl (pgs_cons (pg_name (i := 9) sc_ranks_in.nd rfl (.inl rfl)) (pgs_cons (pg_name (i := 10) sc_ranks_in.nd rfl (.inl rfl)) pgs_nil)))
  (pss_cons (ps_asg (pe_op op_add (pe_op op_mul pe_int (pe_ix ix_list (pv 3) (pv 9) (fun _ _ => rfl))) (pv 10)) (pg_sub (pv 3) (pv 9) set_list))
  (pss_one (ps_expr (pe_bm PySem.F.plainAttrs_list PySem.F.slot_list_append PySem.F.type_list_append mt_append (pe_ix ix_list (pv 8) (pv 10) (fun _ _ => rfl)) (pa_cons (pv 9) pa_nil))))))
  (pss_one (ps_set (i := 4) sc_ranks_in.nd rfl (.inl rfl) (pe_op op_cat (pe_ix ix_list (pv 8) pe_int (fun _ _ => rfl)) (pe_ix ix_list (pv 8) pe_int (fun _ _ => rfl))))))))))
  (pss_one (ps_ret (pv 3))))))

theorem ok_read_signs (T : Tx P w K mg base) (o_head_of : Okf P w K mg base (L2.CX P w) 3 "head_of" ["octets", "kind", "wide"] (sp_head_of K)) (o_signs_long : Okf P w K mg base CX0 3 "signs_long" ["many", "count"] (sp_signs_long K)) (o_numbers_of : Okf P w K mg base CX0 2 "numbers_of" ["octets", "wide"] (sp_numbers_of K)) (o_ranks_in : Okf P w K mg base (L2.CX P w) 4 "ranks_in" ["octets", "many", "levels"] (sp_ranks_in K)) (o_levels_for : Okf P w K mg base CX0 1 "levels_for" ["kinds"] (sp_levels_for K)) (o_same_again : Okf P w K mg base (L2.CX P w) 2 "same_again" ["octets", "again"] (sp_same_again K)) (o_signs_octets : Okf P w K mg base (L2.CX P w) 8 "signs_octets" ["signs"] (sp_signs_octets K)) : Okf P w K mg base (L2.CX P w) 10 "read_signs" ["octets"] (sp_read_signs K) := by
  obtain ⟨fd, FD⟩ := T.d_read_signs
  refine ⟨⟨fd, FunD.look FD, FD.bindsN fun _ _ _ _ _ _ us hl => match us, hl with | [_], _ => rfl, ?_⟩, FD.kp, T.g_read_signs⟩
  refine FunD.ok (CX := (L2.CX P w)) FD sc_read_signs (len_read_signs K) (fun cdv A outer s H vs Q E hr h => ⟨t_read_signs K E, ?_, rd_read_signs K vs H Q E h⟩)
  exact (pss_cons (ps_asg (pe_callF o_head_of hr (by decide) (by rfl) (passX (takes_of rfl rfl rfl rfl)) (pa_cons (pv 0) (pa_cons pe_int (pa_cons pe_int pa_nil)))) (pg_tup rfl (pgs_cons (pg_name (i := 1) sc_read_signs.nd rfl (.inl rfl)) (pgs_cons (pg_name (i := 2) sc_read_signs.nd rfl (.inl rfl)) pgs_nil))))
  (pss_cons (ps_if (PW.pt (pw_or (pt_cmpR op_gt (pv 2) (pv 1) (nomark _)) (pw_or1 (pt_cmpR op_ne (pe_callB call_lenK (by rfl) T.b_len (by decide +kernel) (pa_cons (pv 0) pa_nil)) (pe_callF o_signs_long hr (by decide) (by rfl) pass0 (pa_cons (pv 1) (pa_cons (pv 2) pa_nil))) (nomark _)))))
  (pss_one (ps_rz T.x_NoOctets (takes_of rfl rfl rfl rfl)))
  pss_nil)
  (pss_cons (ps_set (i := 3) sc_read_signs.nd rfl (.inl rfl) (pe_op op_add pe_int (pe_op op_mul (pe_gint T.i_SIGN_WIDE (by rfl)) (pv 2))))
  (pss_cons (ps_set (i := 4) sc_read_signs.nd rfl (.inr rfl) (pe_lc (own := [("number", 5)]) (g := (gName 5)) (tt := tYes) rfl sc_read_signs.nd (pi_list (pe_callF o_numbers_of hr (by decide) (by rfl) pass0 (pa_cons (pe_slice sl_list (pv 0) (po_some pe_int) (po_some (pv 3))) (pa_cons (pe_gint T.i_SIGN_WIDE (by rfl)) pa_nil)))) (blkOk_by (N := ["octets", "many", "count", "stop", "kinds", "number", "ranks", "kind", "signs", "rank"]) (sc := defScope s_read_signs) (own := [("number", 5)]) (by decide +kernel)) (fun _ _ _ _ _ => (pg_name (i := 5) sc_read_signs.nd rfl (.inl rfl))) (fun _ _ _ _ _ => pts_nil) (fun _ _ _ _ _ => (pe_op op_sub (pv 5) (pe_gint T.i_FAR (by rfl))))))
  (pss_cons (ps_set (i := 6) sc_read_signs.nd rfl (.inl rfl) (pe_callF o_ranks_in hr (by decide) (by rfl) (passX (takes_of rfl rfl rfl rfl)) (pa_cons (pe_slice sl_list (pv 0) (po_some (pv 3)) po_none) (pa_cons (pv 1) (pa_cons (pe_callF o_levels_for hr (by decide) (by rfl) pass0 (pa_cons (pv 2) pa_nil)) pa_nil)))))
  (pss_cons (ps_if (PW.pt (pw_or (pt_not (pt_val (pe_callB (cr_all rfl) (by rfl) T.b_all (by decide +kernel) (pa_cons (pe_lc (own := [("kind", 7)]) (g := (gName 7)) (tt := tYes) rfl sc_read_signs.nd (pi_list (pv 4)) (blkOk_by (N := ["octets", "many", "count", "stop", "kinds", "number", "ranks", "kind", "signs", "rank"]) (sc := defScope s_read_signs) (own := [("kind", 7)]) (by decide +kernel)) (fun _ _ _ _ _ => (pg_name (i := 7) sc_read_signs.nd rfl (.inl rfl))) (fun _ _ _ _ _ => pts_nil) (fun _ _ _ _ _ => (pe_chain op_lt op_lt (pe_cst (pe_op op_sub pe_int (pe_gint T.i_FAR (by rfl))) fun _ _ _ h => ⟨_, _, rfl, rfl, h⟩) (pv 7) (pe_gint T.i_FAR (by rfl))))) pa_nil)))) (pw_or1 (pt_cmpR op_ge (pe_callBK (cr_maxD rfl) (by rfl) T.b_max (by decide +kernel) (pa_cons (pv 6) pa_nil) (pk_cons (pe_un un_neg pe_int) pk_nil)) (pv 2) (nomark _)))))
  (pss_one (ps_rz T.x_NoOctets (takes_of rfl rfl rfl rfl)))
  pss_nil)
  (pss_cons (ps_setLc (i := 8) (own := [("rank", 9)]) (g := (gName 9)) (tt := tYes) rfl sc_read_signs.nd rfl rfl (sw_true rfl rfl rfl (by decide +kernel)) (pi_list (pv 6)) (blkOk_by (N := ["octets", "many", "count", "stop", "kinds", "number", "ranks", "kind", "signs", "rank"]) (sc := defScope s_read_signs) (own := [("rank", 9)]) (by decide +kernel)) (fun _ _ _ _ _ => (pg_name (i := 9) sc_read_signs.nd rfl (.inl rfl))) (fun _ _ _ _ _ => pts_nil) (fun _ _ _ _ _ => (pe_ix ix_list (pv 4) (pv 9) (fun _ _ => rfl))))
  (pss_cons (ps_expr (pe_callF o_same_again hr (by decide) (by rfl) (passX (takes_of rfl rfl rfl rfl)) (pa_cons (pv 0) (pa_cons (pe_callF o_signs_octets hr (by decide) (by rfl) (passX (takes_of rfl rfl rfl rfl)) (pa_cons (pv 8) pa_nil)) pa_nil))))
  (pss_one (ps_ret (pv 8)))))))))))

theorem ok_law_cell_at (T : Tx P w K mg base) : Okf P w K mg base CX0 1 "_law_cell_at" ["_law_script", "_law_k"] (sp_law_cell_at K) := by
  obtain ⟨fd, FD⟩ := T.d_law_cell_at
  refine ⟨⟨fd, FunD.look FD, FD.bindsN fun _ _ _ _ _ _ us hl => match us, hl with | [_, _], _ => rfl, ?_⟩, FD.kp, T.g_law_cell_at⟩
  refine FunD.ok (CX := CX0) FD sc_law_cell_at (len_law_cell_at K) (fun cdv A outer s H vs Q E hr h => ⟨t_law_cell_at K, PSs.nox ?_, rd_law_cell_at K vs H Q E h⟩)
  exact (pss_cons (ps_if (pt_cmpR op_lt (pv 1) (pe_callB call_lenK (by rfl) T.b_len (by decide +kernel) (pa_cons (pv 0) pa_nil)) (nomark _))
  (pss_one (ps_ret (pe_ix ix_list (pv 0) (pv 1) (fun _ _ => rfl))))
  pss_nil)
  (pss_one (ps_ret pe_int)))

theorem ok_law_whole (T : Tx P w K mg base) : Okf P w K mg base CX0 1 "_law_whole" ["_law_found"] (sp_law_whole K) := by
  obtain ⟨fd, FD⟩ := T.d_law_whole
  refine ⟨⟨fd, FunD.look FD, FD.bindsN fun _ _ _ _ _ _ us hl => match us, hl with | [_], _ => rfl, ?_⟩, FD.kp, T.g_law_whole⟩
  refine FunD.ok (CX := CX0) FD sc_law_whole (len_law_whole K) (fun cdv A outer s H vs Q E hr h => ⟨t_law_whole K, PSs.nox ?_, rd_law_whole K vs H Q E h⟩)
  exact (pss_one (ps_ret (pe_and (pe_callB call_isB (by rfl) T.b_isinstance (by decide +kernel) (pa_cons (pv 0) (pa_cons (pe_bltn (v := .ty "int") (by rfl) T.b_int (by decide +kernel) rfl) pa_nil))) (pe_one (pe_not (pe_callB call_isB (by rfl) T.b_isinstance (by decide +kernel) (pa_cons (pv 0) (pa_cons (pe_bltn (v := .ty "bool") (by rfl) T.b_bool (by decide +kernel) rfl) pa_nil))))))))

theorem ok_law_signs (T : Tx P w K mg base) (o_law_cell_at : Okf P w K mg base CX0 1 "_law_cell_at" ["_law_script", "_law_k"] (sp_law_cell_at K)) : Okf P w K mg base CX0 2 "_law_signs" ["_law_script"] (sp_law_signs K) := by
  obtain ⟨fd, FD⟩ := T.d_law_signs
  refine ⟨⟨fd, FunD.look FD, FD.bindsN fun _ _ _ _ _ _ us hl => match us, hl with | [_], _ => rfl, ?_⟩, FD.kp, T.g_law_signs⟩
  refine FunD.ok (CX := CX0) FD sc_law_signs (len_law_signs K) (fun cdv A outer s H vs Q E hr h => ⟨t_law_signs K, PSs.nox ?_, rd_law_signs K vs H Q E h⟩)
  exact (pss_cons (ps_set (i := 1) sc_law_signs.nd rfl (.inl rfl) (pe_lst pa_nil))
  (pss_cons (ps_for PassesOwn.never rfl (pi_list (pe_slice sl_list (pv 0) po_none (po_some pe_int))) (pg_name (i := 2) sc_law_signs.nd rfl (.inl rfl))
  (pss_cons (ps_set (i := 3) sc_law_signs.nd rfl (.inl rfl) (pe_op op_mod (pe_op op_mul (pv 2) pe_int) pe_int))
  (pss_one (ps_for PassesOwn.never rfl (pi_range1 (by rfl) T.b_range (pa_cons (pe_op op_add pe_int (pe_op op_mod (pe_op op_fdiv (pv 3) pe_int) pe_int)) pa_nil)) (pg_name (i := 4) sc_law_signs.nd rfl (.inl rfl))
  (pss_cons (ps_set (i := 5) sc_law_signs.nd rfl (.inl rfl) (pe_op op_mod (pe_op op_mod (pe_op op_mul (pe_op op_mul (pv 3) (pe_op op_add (pe_op op_mul pe_int (pv 4)) pe_int)) pe_int) pe_int) pe_int))
  (Evl.pss_cut (ps_if (pt_cmpR op_eq (pe_op op_mod (pv 3) pe_int) pe_int (nomark _))
  (pss_one (ps_set (i := 5) sc_law_signs.nd rfl (.inl rfl) (pe_op op_sub (pe_op op_mod (pe_op op_mod (pe_op op_mul (pe_op op_mul (pv 3) (pe_op op_add (pe_op op_mul pe_int (pv 4)) pe_int)) pe_int) pe_int) pe_int) pe_int)))
  pss_nil)
  (Evl.pss_cut (ps_if (pt_cmpR op_eq (pe_op op_mod (pv 3) pe_int) pe_int (nomark _))
  (pss_one (ps_set (i := 5) sc_law_signs.nd rfl (.inl rfl) (pe_op op_add (pe_op op_sub (pe_op op_mod (pe_op op_mul (pe_op op_add (pv 2) (pe_op op_mul (pv 4) (pv 4))) pe_int) (pe_cst (pe_op op_sub (pe_cst (pe_op op_mulW pe_int (pe_cst (pe_op op_pow pe_int pe_int) fun _ _ _ h => ⟨_, _, rfl, rfl, ⟨by decide, by decide, by decide⟩, h⟩)) fun _ _ _ h => ⟨_, _, rfl, rfl, (by unfold CMulW; decide +kernel), h⟩) pe_int) fun _ _ _ h => ⟨_, _, rfl, rfl, h⟩)) (pe_cst (pe_op op_pow pe_int pe_int) fun _ _ _ h => ⟨_, _, rfl, rfl, ⟨by decide, by decide, by decide⟩, h⟩)) pe_int)))
  pss_nil)
  (Evl.pss_cut (ps_if (PW.pt (pw_and (pt_cmpR op_eq (pe_op op_mod (pv 3) pe_int) pe_int (nomark _)) (pw_and1 (pt_cmpR op_gt (pe_callB call_lenK (by rfl) T.b_len (by decide +kernel) (pa_cons (pv 1) pa_nil)) pe_int (nomark _)))))
  (pss_one (ps_set (i := 5) sc_law_signs.nd rfl (.inl rfl) (pe_ix ix_list (pv 1) (pe_op op_fdiv (pe_callB call_lenK (by rfl) T.b_len (by decide +kernel) (pa_cons (pv 1) pa_nil)) pe_int) (fun _ _ => rfl))))
  pss_nil)
  (pss_one (ps_expr (pe_bm PySem.F.plainAttrs_list PySem.F.slot_list_append PySem.F.type_list_append mt_append (pv 1) (pa_cons (pv 5) pa_nil))))))))))))
  (Evl.pss_cut (ps_if (pt_cmpR op_eq (pe_op op_mod (pe_callF o_law_cell_at hr (by decide) (by rfl) pass0 (pa_cons (pv 0) (pa_cons pe_int pa_nil))) pe_int) pe_int (nomark _))
  (pss_cons (ps_set (i := 6) sc_law_signs.nd rfl (.inr rfl) (pe_op op_mod (pe_callF o_law_cell_at hr (by decide) (by rfl) pass0 (pa_cons (pv 0) (pa_cons pe_int pa_nil))) (pe_cst (pe_op op_pow pe_int pe_int) fun _ _ _ h => ⟨_, _, rfl, rfl, ⟨by decide, by decide, by decide⟩, h⟩)))
  (pss_one (ps_set (i := 1) sc_law_signs.nd rfl (.inl rfl) (pe_op op_cat (pv 1) (pe_lc (own := [("_law_k", 4)]) (g := (gName 4)) (tt := tYes) rfl sc_law_signs.nd (pi_range1 (by rfl) T.b_range (pa_cons (pe_op op_add pe_int (pe_op op_mod (pe_callF o_law_cell_at hr (by decide) (by rfl) pass0 (pa_cons (pv 0) (pa_cons pe_int pa_nil))) pe_int)) pa_nil)) (blkOk_by (N := ["_law_script", "_law_signs_here", "_law_cell", "_law_number", "_law_k", "_law_sign", "_law_far"]) (sc := defScope s_law_signs) (own := [("_law_k", 4)]) (by decide +kernel)) (fun _ _ _ _ _ => (pg_name (i := 4) sc_law_signs.nd rfl (.inl rfl))) (fun _ _ _ _ _ => pts_nil) (fun _ _ _ _ _ => (pe_op op_add (pv 6) (pe_op op_mul (pe_op op_mod (pv 6) pe_int) (pv 4)))))))))
  pss_nil)
  (pss_one (ps_ret (pv 1))))))

theorem ok_law_two (T : Tx P w K mg base) : Okf P w K mg base CX0 1 "_law_two" ["_law_number"] (sp_law_two K) := by
  obtain ⟨fd, FD⟩ := T.d_law_two
  refine ⟨⟨fd, FunD.look FD, FD.bindsN fun _ _ _ _ _ _ us hl => match us, hl with | [_], _ => rfl, ?_⟩, FD.kp, T.g_law_two⟩
  refine FunD.ok (CX := CX0) FD sc_law_two (len_law_two K) (fun cdv A outer s H vs Q E hr h => ⟨t_law_two K, PSs.nox ?_, rd_law_two K vs H Q E h⟩)
  exact (pss_one (ps_ret (pe_lst (pa_cons (pe_op op_mod (pv 0) pe_int) (pa_cons (pe_op op_fdiv (pv 0) pe_int) pa_nil)))))

theorem ok_law_many (T : Tx P w K mg base) : Okf P w K mg base CX0 1 "_law_many" ["_law_number"] (sp_law_many K) := by
  obtain ⟨fd, FD⟩ := T.d_law_many
  refine ⟨⟨fd, FunD.look FD, FD.bindsN fun _ _ _ _ _ _ us hl => match us, hl with | [_], _ => rfl, ?_⟩, FD.kp, T.g_law_many⟩
  refine FunD.ok (CX := CX0) FD sc_law_many (len_law_many K) (fun cdv A outer s H vs Q E hr h => ⟨t_law_many K, PSs.nox ?_, rd_law_many K vs H Q E h⟩)
  exact (pss_cons (ps_set (i := 1) sc_law_many.nd rfl (.inl rfl) (pe_lst pa_nil))
  (pss_cons (ps_for PassesOwn.never rfl (pi_range1 (by rfl) T.b_range (pa_cons pe_int pa_nil)) (pg_name (i := 2) sc_law_many.nd rfl (.inl rfl))
  (pss_cons (ps_expr (pe_bm PySem.F.plainAttrs_list PySem.F.slot_list_append PySem.F.type_list_append mt_append (pv 1) (pa_cons (pe_op op_mod (pv 0) pe_int) pa_nil)))
  (pss_one (ps_set (i := 0) sc_law_many.nd rfl (.inl rfl) (pe_op op_fdiv (pv 0) pe_int)))))
  (pss_one (ps_ret (pv 1)))))

theorem ok_law_level (T : Tx P w K mg base) (o_law_two : Okf P w K mg base CX0 1 "_law_two" ["_law_number"] (sp_law_two K)) : Okf P w K mg base CX0 2 "_law_level" ["_law_bits"] (sp_law_level K) := by
  obtain ⟨fd, FD⟩ := T.d_law_level
  refine ⟨⟨fd, FunD.look FD, FD.bindsN fun _ _ _ _ _ _ us hl => match us, hl with | [_], _ => rfl, ?_⟩, FD.kp, T.g_law_level⟩
  refine FunD.ok (CX := CX0) FD sc_law_level (len_law_level K) (fun cdv A outer s H vs Q E hr h => ⟨t_law_level K, PSs.nox ?_, rd_law_level K vs H Q E h⟩)
  exact (pss_cons (ps_set (i := 1) sc_law_level.nd rfl (.inl rfl) (pe_lst pa_nil))
  (pss_cons (ps_for PassesOwn.never rfl (pi_range3 (by rfl) T.b_range (pa_cons pe_int (pa_cons (pe_callB call_lenK (by rfl) T.b_len (by decide +kernel) (pa_cons (pv 0) pa_nil)) (pa_cons pe_int pa_nil)))) (pg_name (i := 2) sc_law_level.nd rfl (.inl rfl))
  (pss_cons (ps_set (i := 3) sc_law_level.nd rfl (.inl rfl) pe_int)
  (pss_cons (ps_for PassesOwn.never rfl (pi_reversed (by rfl) T.b_reversed (pa_cons (pe_slice sl_list (pv 0) (po_some (pv 2)) (po_some (pe_op op_add (pv 2) pe_int))) pa_nil)) (pg_name (i := 4) sc_law_level.nd rfl (.inl rfl))
  (pss_one (ps_set (i := 3) sc_law_level.nd rfl (.inl rfl) (pe_op op_add (pe_op op_mul pe_int (pv 3)) (pv 4)))))
  (pss_one (ps_expr (pe_bm PySem.F.plainAttrs_list PySem.F.slot_list_append PySem.F.type_list_append mt_append (pv 1) (pa_cons (pv 3) pa_nil)))))))
  (pss_cons (ps_while PassesOwn.never (pt_cmpR op_ne (pe_op op_mod (pe_callB call_lenK (by rfl) T.b_len (by decide +kernel) (pa_cons (pv 1) pa_nil)) pe_int) pe_int (nomark _))
  (pss_one (ps_expr (pe_bm PySem.F.plainAttrs_list PySem.F.slot_list_append PySem.F.type_list_append mt_append (pv 1) (pa_cons pe_int pa_nil)))))
  (pss_cons (ps_expr (pe_bm PySem.F.plainAttrs_list PySem.F.slot_list_extend PySem.F.type_list_extend mt_extend (pv 1) (pa_cons (pe_lst (pa_cons pe_int (pa_cons pe_int pa_nil))) pa_nil)))
  (pss_cons (ps_set (i := 5) sc_law_level.nd rfl (.inl rfl) pe_int)
  (pss_cons (ps_for PassesOwn.never rfl (pi_range3 (by rfl) T.b_range (pa_cons pe_int (pa_cons (pe_callB call_lenK (by rfl) T.b_len (by decide +kernel) (pa_cons (pv 0) pa_nil)) (pa_cons pe_int pa_nil)))) (pg_name (i := 2) sc_law_level.nd rfl (.inl rfl))
  (pss_cons (ps_set (i := 5) sc_law_level.nd rfl (.inl rfl) (pe_op op_add (pv 5) (pe_callB (cr_sum rfl) (by rfl) T.b_sum (by decide +kernel) (pa_cons (pe_slice sl_list (pv 0) (po_some (pv 2)) (po_some (pe_op op_add (pv 2) pe_int))) pa_nil))))
  (pss_one (ps_expr (pe_bm PySem.F.plainAttrs_list PySem.F.slot_list_extend PySem.F.type_list_extend mt_extend (pv 1) (pa_cons (pe_callF o_law_two hr (by decide) (by rfl) pass0 (pa_cons (pv 5) pa_nil)) pa_nil))))))
  (pss_one (ps_ret (pv 1)))))))))

theorem ok_law_laid (T : Tx P w K mg base) (o_law_two : Okf P w K mg base CX0 1 "_law_two" ["_law_number"] (sp_law_two K)) (o_law_many : Okf P w K mg base CX0 1 "_law_many" ["_law_number"] (sp_law_many K)) (o_law_level : Okf P w K mg base CX0 2 "_law_level" ["_law_bits"] (sp_law_level K)) : Okf P w K mg base CX0 3 "_law_laid" ["_law_kinds", "_law_signs_here"] (sp_law_laid K) := by
  obtain ⟨fd, FD⟩ := T.d_law_laid
  refine ⟨⟨fd, FunD.look FD, FD.bindsN fun _ _ _ _ _ _ us hl => match us, hl with | [_, _], _ => rfl, ?_⟩, FD.kp, T.g_law_laid⟩
  refine FunD.ok (CX := CX0) FD sc_law_laid (len_law_laid K) (fun cdv A outer s H vs Q E hr h => ⟨t_law_laid K, PSs.nox ?_, rd_law_laid K vs H Q E h⟩)
  exact (pss_cons (ps_set (i := 2) sc_law_laid.nd rfl (.inl rfl) (pe_op op_cat (pe_op op_cat (pe_lst (pa_cons pe_int pa_nil)) (pe_callF o_law_two hr (by decide) (by rfl) pass0 (pa_cons (pe_callB call_lenK (by rfl) T.b_len (by decide +kernel) (pa_cons (pv 1) pa_nil)) pa_nil))) (pe_callF o_law_two hr (by decide) (by rfl) pass0 (pa_cons (pe_callB call_lenK (by rfl) T.b_len (by decide +kernel) (pa_cons (pv 0) pa_nil)) pa_nil))))
  (pss_cons (ps_set (i := 3) sc_law_laid.nd rfl (.inr rfl) pe_dnewK)
  (pss_cons (ps_for PassesOwn.never rfl (pi_range1 (by rfl) T.b_range (pa_cons (pe_callB call_lenK (by rfl) T.b_len (by decide +kernel) (pa_cons (pv 0) pa_nil)) pa_nil)) (pg_name (i := 4) sc_law_laid.nd rfl (.inl rfl))
  (pss_cons (ps_dput (hu_of hr) (pv 3) (pe_ix ix_list (pv 0) (pv 4) (fun _ _ => rfl)) (pv 4) rfl)
  (pss_one (ps_expr (pe_bm PySem.F.plainAttrs_list PySem.F.slot_list_extend PySem.F.type_list_extend mt_extend (pv 2) (pa_cons (pe_callF o_law_many hr (by decide) (by rfl) pass0 (pa_cons (pe_op op_add (pe_ix ix_list (pv 0) (pv 4) (fun _ _ => rfl)) (pe_cst (pe_op op_pow pe_int pe_int) fun _ _ _ h => ⟨_, _, rfl, rfl, ⟨by decide, by decide, by decide⟩, h⟩)) pa_nil)) pa_nil))))))
  (pss_cons (ps_set (i := 5) sc_law_laid.nd rfl (.inr rfl) pe_int)
  (pss_cons (ps_while PassesOwn.never (pt_cmpR op_lt (pv 5) (pe_callB call_lenK (by rfl) T.b_len (by decide +kernel) (pa_cons (pv 0) pa_nil)) (nomark _))
  (pss_one (ps_set (i := 5) sc_law_laid.nd rfl (.inr rfl) (pe_op op_mul pe_int (pv 5)))))
  (pss_cons (ps_setLc (i := 6) (own := [("_law_sign", 7)]) (g := (gName 7)) (tt := tYes) rfl sc_law_laid.nd rfl rfl (sw_true rfl rfl rfl (by decide +kernel)) (pi_list (pv 1)) (blkOk_by (N := ["_law_kinds", "_law_signs_here", "_law_octets", "_law_ranks", "_law_k", "_law_weight", "_law_row", "_law_sign", "_law_rank", "_law_low"]) (sc := defScope s_law_laid) (own := [("_law_sign", 7)]) (by decide +kernel)) (fun _ _ _ _ _ => (pg_name (i := 7) sc_law_laid.nd rfl (.inl rfl))) (fun _ _ _ _ _ => pts_nil) (fun _ _ _ _ _ => (pe_dget (hu_of hr) (pv 3) (pv 7) (fun _ _ => rfl))))
  (pss_cons (ps_while PassesOwn.never (pt_cmpR op_gt (pv 5) pe_int (nomark _))
  (pss_cons (ps_set (i := 5) sc_law_laid.nd rfl (.inr rfl) (pe_op op_fdiv (pv 5) pe_int))
  (pss_cons (ps_expr (pe_bm PySem.F.plainAttrs_list PySem.F.slot_list_extend PySem.F.type_list_extend mt_extend (pv 2) (pa_cons (pe_callF o_law_level hr (by decide) (by rfl) pass0 (pa_cons (pe_lc (own := [("_law_rank", 8)]) (g := (gName 8)) (tt := tYes) rfl sc_law_laid.nd (pi_list (pv 6)) (blkOk_by (N := ["_law_kinds", "_law_signs_here", "_law_octets", "_law_ranks", "_law_k", "_law_weight", "_law_row", "_law_sign", "_law_rank", "_law_low"]) (sc := defScope s_law_laid) (own := [("_law_rank", 8)]) (by decide +kernel)) (fun _ _ _ _ _ => (pg_name (i := 8) sc_law_laid.nd rfl (.inl rfl))) (fun _ _ _ _ _ => pts_nil) (fun _ _ _ _ _ => (pe_op op_mod (pe_op op_fdivW (pv 8) (pv 5)) pe_int))) pa_nil)) pa_nil)))
  (pss_cons (ps_setLc (i := 9) (own := [("_law_rank", 8)]) (g := (gName 8)) (tt := (tTest (tOp rEq (tOp rMod (tOp rDivW (tVar 8) (tVar 5)) (tC (.int 2))) (tC (.int 0))))) rfl sc_law_laid.nd rfl rfl (sw_true rfl rfl rfl (by decide +kernel)) (pi_list (pv 6)) (blkOk_by (N := ["_law_kinds", "_law_signs_here", "_law_octets", "_law_ranks", "_law_k", "_law_weight", "_law_row", "_law_sign", "_law_rank", "_law_low"]) (sc := defScope s_law_laid) (own := [("_law_rank", 8)]) (by decide +kernel)) (fun _ _ _ _ _ => (pg_name (i := 8) sc_law_laid.nd rfl (.inl rfl))) (fun _ _ _ _ _ => (pts_one (pt_cmpR op_eq (pe_op op_mod (pe_op op_fdivW (pv 8) (pv 5)) pe_int) pe_int (nomark _)))) (fun _ _ _ _ _ => (pv 8)))
  (pss_one (ps_set (i := 6) sc_law_laid.nd rfl (.inl rfl) (pe_op op_cat (pv 9) (pe_lc (own := [("_law_rank", 8)]) (g := (gName 8)) (tt := (tTest (tOp rEq (tOp rMod (tOp rDivW (tVar 8) (tVar 5)) (tC (.int 2))) (tC (.int 1))))) rfl sc_law_laid.nd (pi_list (pv 6)) (blkOk_by (N := ["_law_kinds", "_law_signs_here", "_law_octets", "_law_ranks", "_law_k", "_law_weight", "_law_row", "_law_sign", "_law_rank", "_law_low"]) (sc := defScope s_law_laid) (own := [("_law_rank", 8)]) (by decide +kernel)) (fun _ _ _ _ _ => (pg_name (i := 8) sc_law_laid.nd rfl (.inl rfl))) (fun _ _ _ _ _ => (pts_one (pt_cmpR op_eq (pe_op op_mod (pe_op op_fdivW (pv 8) (pv 5)) pe_int) pe_int (nomark _)))) (fun _ _ _ _ _ => (pv 8))))))))))
  (pss_one (ps_ret (pv 2))))))))))

theorem ok_law_odd_kinds (T : Tx P w K mg base) : Okf P w K mg base CX0 1 "_law_odd_kinds" ["_law_kinds", "_law_cell"] (sp_law_odd_kinds K) := by
  obtain ⟨fd, FD⟩ := T.d_law_odd_kinds
  refine ⟨⟨fd, FunD.look FD, FD.bindsN fun _ _ _ _ _ _ us hl => match us, hl with | [_, _], _ => rfl, ?_⟩, FD.kp, T.g_law_odd_kinds⟩
  refine FunD.ok (CX := CX0) FD sc_law_odd_kinds (len_law_odd_kinds K) (fun cdv A outer s H vs Q E hr h => ⟨t_law_odd_kinds K, PSs.nox ?_, rd_law_odd_kinds K vs H Q E h⟩)
  exact (pss_cons (ps_set (i := 2) sc_law_odd_kinds.nd rfl (.inl rfl) (pe_op op_mod (pe_op op_mul (pv 1) pe_int) pe_int))
  (pss_cons (ps_set (i := 3) sc_law_odd_kinds.nd rfl (.inl rfl) (pe_op op_mod (pe_op op_fdiv (pv 2) pe_int) (pe_op op_add (pe_callB call_lenK (by rfl) T.b_len (by decide +kernel) (pa_cons (pv 0) pa_nil)) pe_int)))
  (pss_cons (ps_if (pt_cmpR op_eq (pe_op op_mod (pv 2) pe_int) pe_int (nomark _))
  (pss_one (ps_ret (pe_op op_cat (pe_op op_cat (pe_slice sl_list (pv 0) po_none (po_some (pv 3))) (pe_revL (pe_slice sl_list (pv 0) (po_some (pv 3)) (po_some (pe_op op_add (pv 3) pe_int))))) (pe_slice sl_list (pv 0) (po_some (pe_op op_add (pv 3) pe_int)) po_none))))
  pss_nil)
  (pss_cons (ps_if (pt_cmpR op_eq (pe_op op_mod (pv 2) pe_int) pe_int (nomark _))
  (pss_one (ps_ret (pe_op op_cat (pe_op op_cat (pe_slice sl_list (pv 0) po_none (po_some (pv 3))) (pe_slice sl_list (pv 0) (po_some (pv 3)) (po_some (pe_op op_add (pv 3) pe_int)))) (pe_slice sl_list (pv 0) (po_some (pv 3)) po_none))))
  pss_nil)
  (pss_cons (ps_set (i := 4) sc_law_odd_kinds.nd rfl (.inl rfl) (pe_op op_fdiv (pv 2) pe_int))
  (pss_cons (ps_while PassesOwn.never (pt_cmpR (op_inD (room65 hr)) (pv 4) (pv 0) (by rfl))
  (pss_one (ps_set (i := 4) sc_law_odd_kinds.nd rfl (.inl rfl) (pe_op op_add (pv 4) pe_int))))
  (pss_one (ps_ret (pe_callB cr_sortedI (by rfl) T.b_sorted (by decide +kernel) (pa_cons (pe_op op_catK (pv 0) (pe_lst (pa_cons (pv 4) pa_nil))) pa_nil))))))))))

theorem ok_law_changed (T : Tx P w K mg base) : Okf P w K mg base CX0 1 "_law_changed" ["_law_octets", "_law_cell"] (sp_law_changed K) := by
  obtain ⟨fd, FD⟩ := T.d_law_changed
  refine ⟨⟨fd, FunD.look FD, FD.bindsN fun _ _ _ _ _ _ us hl => match us, hl with | [_, _], _ => rfl, ?_⟩, FD.kp, T.g_law_changed⟩
  refine FunD.ok (CX := CX0) FD sc_law_changed (len_law_changed K) (fun cdv A outer s H vs Q E hr h => ⟨t_law_changed K, PSs.nox ?_, rd_law_changed K vs H Q E h⟩)
  exact (pss_cons (ps_set (i := 2) sc_law_changed.nd rfl (.inl rfl) (pe_op op_mod (pv 1) (pe_cst (pe_op op_pow pe_int pe_int) fun _ _ _ h => ⟨_, _, rfl, rfl, ⟨by decide, by decide, by decide⟩, h⟩)))
  (pss_cons (ps_set (i := 3) sc_law_changed.nd rfl (.inl rfl) (pe_op op_mod (pe_op op_fdiv (pv 2) pe_int) (pe_op op_add (pe_callB call_lenK (by rfl) T.b_len (by decide +kernel) (pa_cons (pv 0) pa_nil)) pe_int)))
  (pss_cons (ps_set (i := 4) sc_law_changed.nd rfl (.inl rfl) (pe_op op_mod (pe_op op_mod (pe_op op_mul (pv 2) pe_int) pe_int) pe_int))
  (pss_cons (ps_if (PW.pt (pw_and (pt_cmpR op_eq (pe_op op_mod (pv 2) pe_int) pe_int (nomark _)) (pw_and1 (pt_cmpR op_lt (pv 3) (pe_callB call_lenK (by rfl) T.b_len (by decide +kernel) (pa_cons (pv 0) pa_nil)) (nomark _)))))
  (pss_cons (ps_set (i := 5) sc_law_changed.nd rfl (.inl rfl) (pe_op op_shlW pe_int (pe_op op_mod (pv 4) pe_int)))
  (pss_one (ps_ret (pe_op op_cat (pe_op op_cat (pe_slice sl_list (pv 0) po_none (po_some (pv 3))) (pe_lst (pa_cons (pe_op op_xor (pe_ix ix_list (pv 0) (pv 3) (fun _ _ => rfl)) (pv 5)) pa_nil))) (pe_slice sl_list (pv 0) (po_some (pe_op op_add (pv 3) pe_int)) po_none)))))
  pss_nil)
  (pss_cons (ps_if (PW.pt (pw_and (pt_cmpR op_eq (pe_op op_mod (pv 2) pe_int) pe_int (nomark _)) (pw_and1 (pt_cmpR op_lt (pv 3) (pe_callB call_lenK (by rfl) T.b_len (by decide +kernel) (pa_cons (pv 0) pa_nil)) (nomark _)))))
  (pss_one (ps_ret (pe_op op_cat (pe_op op_cat (pe_slice sl_list (pv 0) po_none (po_some (pv 3))) (pe_lst (pa_cons (pe_ix ix_list (pe_lst (pa_cons (pv 4) (pa_cons (pe_op op_add pe_int (pv 2)) (pa_cons (pe_op op_sub (pe_cst (pe_op op_sub pe_int pe_int) fun _ _ _ h => ⟨_, _, rfl, rfl, h⟩) (pv 2)) pa_nil)))) (pe_op op_mod (pv 4) pe_int) (fun _ _ => rfl)) pa_nil))) (pe_slice sl_list (pv 0) (po_some (pe_op op_add (pv 3) pe_int)) po_none))))
  pss_nil)
  (pss_cons (ps_if (pt_cmpR op_eq (pe_op op_mod (pv 2) pe_int) pe_int (nomark _))
  (pss_one (ps_ret (pe_op op_cat (pe_op op_cat (pe_slice sl_list (pv 0) po_none (po_some (pv 3))) (pe_lst (pa_cons (pv 4) pa_nil))) (pe_slice sl_list (pv 0) (po_some (pv 3)) po_none))))
  pss_nil)
  (pss_cons (ps_if (pt_cmpR op_eq (pe_op op_mod (pv 2) pe_int) pe_int (nomark _))
  (pss_one (ps_ret (pe_op op_cat (pe_slice sl_list (pv 0) po_none (po_some (pv 3))) (pe_slice sl_list (pv 0) (po_some (pe_op op_add (pv 3) pe_int)) po_none))))
  pss_nil)
  (pss_cons (ps_if (PW.pt (pw_and (pt_cmpR op_eq (pe_op op_mod (pv 2) pe_int) pe_int (nomark _)) (pw_and1 (pt_cmpR op_lt (pv 3) (pe_callB call_lenK (by rfl) T.b_len (by decide +kernel) (pa_cons (pv 0) pa_nil)) (nomark _)))))
  (pss_one (ps_ret (pe_op op_cat (pe_op op_cat (pe_slice sl_list (pv 0) po_none (po_some (pv 3))) (pe_revL (pe_slice sl_list (pv 0) (po_some (pv 3)) (po_some (pe_op op_add (pv 3) pe_int))))) (pe_slice sl_list (pv 0) (po_some (pe_op op_add (pv 3) pe_int)) po_none))))
  pss_nil)
  (pss_cons (ps_if (pt_cmpR op_eq (pe_op op_mod (pv 2) pe_int) pe_int (nomark _))
  (pss_one (ps_ret (pe_op op_catK (pv 0) (pe_lst (pa_cons pe_int pa_nil)))))
  pss_nil)
  (pss_one (ps_ret (pv 0))))))))))))

theorem ok_law_told (T : Tx P w K mg base) (o_read_signs : Okf P w K mg base (L2.CX P w) 10 "read_signs" ["octets"] (sp_read_signs K)) (o_law_whole : Okf P w K mg base CX0 1 "_law_whole" ["_law_found"] (sp_law_whole K)) : Okf P w K mg base CX0 11 "_law_told" ["_law_octets"] (sp_law_told K) := by
  obtain ⟨fd, FD⟩ := T.d_law_told
  refine ⟨⟨fd, FunD.look FD, FD.bindsN fun _ _ _ _ _ _ us hl => match us, hl with | [_], _ => rfl, ?_⟩, FD.kp, T.g_law_told⟩
  refine FunD.ok (CX := CX0) FD sc_law_told (len_law_told K) (fun cdv A outer s H vs Q E hr h => ⟨t_law_told K, PSs.nox ?_, rd_law_told K T.fx vs H Q E h⟩)
  exact (pss_cons (ps_set (i := 1) sc_law_told.nd rfl (.inl rfl) (pe_tup (pa_cons pe_int (pa_cons pe_bl (pa_cons pe_bl (pa_cons pe_bl pa_nil))))))
  (pss_cons (ps_set (i := 2) sc_law_told.nd rfl (.inl rfl) (pe_lst pa_nil))
  (pss_cons (ps_try_as (i := 3) (tb := fun W => (tAsg (tCallS (sp_read_signs K) (WE W) (tCons (tVar 0) tNil)) (gName 2))) (ts := fun a cls d => (tSeq (tAsg (tOrV (tCB (rIsX K cls d a) (tCons (tVar 3) (tCons (tC (.ref (He.ga K "NoSign"))) tNil))) (tOrV (tCB (rIsX K cls d a) (tCons (tVar 3) (tCons (tC (.ref (He.ga K "TooMany"))) tNil))) (tCB (rIsX K cls d a) (tCons (tVar 3) (tCons (tC (.ref (He.ga K "NoPlace"))) tNil))))) (gName 4))
  (tAsg (tTup (tCons (tC (.int 1)) (tCons (tCB (rIsX K cls d a) (tCons (tVar 3) (tCons (tC (.ref (He.ga K "WoodError"))) tNil))) (tCons (tCB (rIsX K cls d a) (tCons (tVar 3) (tCons (tC (.ty "ValueError")) tNil))) (tCons (tVar 4) tNil))))) (gName 1)))) (Wout := (fun _ _ _ _ => False)) rfl rfl sc_law_told.nd rfl rfl ⟨rfl, by decide, .inl T.g_NoOctets⟩ takes0 (fun W pn xe tk po => (pss_one (ps_set (i := 2) sc_law_told.nd rfl (.inl rfl) (pe_callFS o_read_signs hr (by decide) (by rfl) tk (pa_cons (pv 0) pa_nil))))) (fun a oe cls d pn hz hf => (pss_cons (ps_set (i := 4) sc_law_told.nd rfl (.inl rfl) (pe_or (pe_callB (call_isX hz hf) (by rfl) T.b_isinstance (by decide +kernel) (pa_cons (pv 3) (pa_cons (pe_glob (by rfl) T.g_NoSign rfl) pa_nil))) (pe_or (pe_callB (call_isX hz hf) (by rfl) T.b_isinstance (by decide +kernel) (pa_cons (pv 3) (pa_cons (pe_glob (by rfl) T.g_TooMany rfl) pa_nil))) (pe_one (pe_callB (call_isX hz hf) (by rfl) T.b_isinstance (by decide +kernel) (pa_cons (pv 3) (pa_cons (pe_glob (by rfl) T.g_NoPlace rfl) pa_nil)))))))
  (pss_one (ps_set (i := 1) sc_law_told.nd rfl (.inl rfl) (pe_tup (pa_cons pe_int (pa_cons (pe_callB (call_isX hz hf) (by rfl) T.b_isinstance (by decide +kernel) (pa_cons (pv 3) (pa_cons (pe_glob (by rfl) T.g_WoodError rfl) pa_nil))) (pa_cons (pe_callB (call_isX hz hf) (by rfl) T.b_isinstance (by decide +kernel) (pa_cons (pv 3) (pa_cons (pe_bltn (v := .ty "ValueError") (by rfl) T.b_ValueError (by decide +kernel) rfl) pa_nil))) (pa_cons (pv 4) pa_nil))))))))))
  (pss_cons (ps_if (pt_cmpR op_gt (pe_ix ix_tup (pv 1) pe_int (fun _ _ => rfl)) pe_int (nomark _))
  (pss_one (ps_ret (pv 1)))
  pss_nil)
  (pss_cons (ps_if (PW.pt (pw_or (pt_not (pt_val (pe_callB call_isB (by rfl) T.b_isinstance (by decide +kernel) (pa_cons (pv 2) (pa_cons (pe_bltn (v := .ty "list") (by rfl) T.b_list (by decide +kernel) rfl) pa_nil))))) (pw_or1 (pt_cmpR op_gt (pe_callB call_lenK (by rfl) T.b_len (by decide +kernel) (pa_cons (pe_lc (own := [("_law_sign", 5)]) (g := (gName 5)) (tt := (tNot (tB (tCall (sp_law_whole K) [] E0 (tCons (tVar 5) tNil))))) rfl sc_law_told.nd (pi_list (pv 2)) (blkOk_by (N := ["_law_octets", "_law_told_here", "_law_found", "e", "_law_others", "_law_sign"]) (sc := defScope s_law_told) (own := [("_law_sign", 5)]) (by decide +kernel)) (fun _ _ _ _ _ => (pg_name (i := 5) sc_law_told.nd rfl (.inl rfl))) (fun _ _ _ _ _ => (pts_one (pt_not (pt_val (pe_callF o_law_whole hr (by decide) (by rfl) pass0 (pa_cons (pv 5) pa_nil)))))) (fun _ _ _ _ _ => (pv 5))) pa_nil)) pe_int (nomark _)))))
  (pss_one (ps_ret (pe_tup (pa_cons pe_int (pa_cons pe_bl (pa_cons pe_bl (pa_cons pe_bl pa_nil)))))))
  pss_nil)
  (pss_one (ps_ret (pv 2))))))))

theorem ok_law (T : Tx P w K mg base) (o_law_signs : Okf P w K mg base CX0 2 "_law_signs" ["_law_script"] (sp_law_signs K)) (o_law_laid : Okf P w K mg base CX0 3 "_law_laid" ["_law_kinds", "_law_signs_here"] (sp_law_laid K)) (o_law_cell_at : Okf P w K mg base CX0 1 "_law_cell_at" ["_law_script", "_law_k"] (sp_law_cell_at K)) (o_law_changed : Okf P w K mg base CX0 1 "_law_changed" ["_law_octets", "_law_cell"] (sp_law_changed K)) (o_law_odd_kinds : Okf P w K mg base CX0 1 "_law_odd_kinds" ["_law_kinds", "_law_cell"] (sp_law_odd_kinds K)) (o_law_two : Okf P w K mg base CX0 1 "_law_two" ["_law_number"] (sp_law_two K)) (o_law_many : Okf P w K mg base CX0 1 "_law_many" ["_law_number"] (sp_law_many K)) (o_law_told : Okf P w K mg base CX0 11 "_law_told" ["_law_octets"] (sp_law_told K)) (o_signs_octets : Okf P w K mg base (L2.CX P w) 8 "signs_octets" ["signs"] (sp_signs_octets K)) : Okf P w K mg base CX0 12 "law" ["_law_script"] (sp_law K) := by
  obtain ⟨fd, FD⟩ := T.d_law
  refine ⟨⟨fd, FunD.look FD, FD.bindsN fun _ _ _ _ _ _ us hl => match us, hl with | [_], _ => rfl, ?_⟩, FD.kp, T.g_law⟩
  refine FunD.ok (CX := CX0) FD sc_law (len_law K) (fun cdv A outer s H vs Q E hr h => ⟨t_law K, PSs.nox ?_, rd_law K T.fx vs H Q E h⟩)
  exact (pss_cons (ps_set (i := 1) sc_law.nd rfl (.inl rfl) (pe_callF o_law_signs hr (by decide) (by rfl) pass0 (pa_cons (pv 0) pa_nil)))
  (pss_cons (ps_set (i := 2) sc_law.nd rfl (.inl rfl) (pe_sortSet (by rfl) T.b_sorted (by rfl) T.b_set (pv 1)))
  (pss_cons (ps_set (i := 3) sc_law.nd rfl (.inl rfl) (pe_callF o_law_laid hr (by decide) (by rfl) pass0 (pa_cons (pv 2) (pa_cons (pv 1) pa_nil))))
  (pss_cons (ps_set (i := 4) sc_law.nd rfl (.inl rfl) (pe_callTy call_listK (by rfl) T.b_list (by decide +kernel) (pa_cons (pv 3) pa_nil)))
  (Evl.pss_cut (ps_if (pt_cmpR op_eq (pe_op op_mod (pe_callF o_law_cell_at hr (by decide) (by rfl) pass0 (pa_cons (pv 0) (pa_cons pe_int pa_nil))) pe_int) pe_int (nomark _))
  (pss_one (ps_for PassesOwn.never rfl (pi_range1 (by rfl) T.b_range (pa_cons (pe_op op_add pe_int (pe_op op_mod (pe_callF o_law_cell_at hr (by decide) (by rfl) pass0 (pa_cons (pv 0) (pa_cons pe_int pa_nil))) pe_int)) pa_nil)) (pg_name (i := 5) sc_law.nd rfl (.inl rfl))
  (pss_one (ps_set (i := 4) sc_law.nd rfl (.inl rfl) (pe_callF o_law_changed hr (by decide) (by rfl) pass0 (pa_cons (pv 4) (pa_cons (pe_callF o_law_cell_at hr (by decide) (by rfl) pass0 (pa_cons (pv 0) (pa_cons (pe_op op_add pe_int (pv 5)) pa_nil))) pa_nil)))))))
  pss_nil)
  (Evl.pss_cut (ps_if (pt_cmpR op_eq (pe_op op_mod (pe_callF o_law_cell_at hr (by decide) (by rfl) pass0 (pa_cons (pv 0) (pa_cons pe_int pa_nil))) pe_int) pe_int (nomark _))
  (pss_one (ps_set (i := 4) sc_law.nd rfl (.inl rfl) (pe_callF o_law_laid hr (by decide) (by rfl) pass0 (pa_cons (pe_callF o_law_odd_kinds hr (by decide) (by rfl) pass0 (pa_cons (pv 2) (pa_cons (pe_callF o_law_cell_at hr (by decide) (by rfl) pass0 (pa_cons (pv 0) (pa_cons pe_int pa_nil))) pa_nil))) (pa_cons (pv 1) pa_nil)))))
  pss_nil)
  (Evl.pss_cut (ps_if (pt_cmpR op_eq (pe_op op_mod (pe_callF o_law_cell_at hr (by decide) (by rfl) pass0 (pa_cons (pv 0) (pa_cons pe_int pa_nil))) pe_int) pe_int (nomark _))
  (pss_one (ps_set (i := 4) sc_law.nd rfl (.inl rfl) (pe_op op_cat (pe_lst (pa_cons pe_int pa_nil)) (pe_lc (own := [("_law_cell", 6)]) (g := (gName 6)) (tt := tYes) rfl sc_law.nd (pi_list (pe_slice sl_list (pv 0) (po_some pe_int) (po_some pe_int))) (blkOk_by (N := ["_law_script", "_law_signs_here", "_law_kinds", "_law_good", "_law_octets", "_law_k", "_law_cell", "_law_many_here", "_law_kind", "_law_handed", "_law_found", "_law_kept", "_law_sign"]) (sc := defScope s_law) (own := [("_law_cell", 6)]) (by decide +kernel)) (fun _ _ _ _ _ => (pg_name (i := 6) sc_law.nd rfl (.inl rfl))) (fun _ _ _ _ _ => pts_nil) (fun _ _ _ _ _ => (pe_op op_mod (pv 6) pe_int))))))
  pss_nil)
  (Evl.pss_cut (ps_if (pt_cmpR op_eq (pe_op op_mod (pe_callF o_law_cell_at hr (by decide) (by rfl) pass0 (pa_cons (pv 0) (pa_cons pe_int pa_nil))) pe_int) pe_int (nomark _))
  (pss_cons (ps_set (i := 7) sc_law.nd rfl (.inl rfl) (pe_op op_add pe_int (pe_op op_mod (pe_callF o_law_cell_at hr (by decide) (by rfl) pass0 (pa_cons (pv 0) (pa_cons pe_int pa_nil))) pe_int)))
  (pss_cons (ps_set (i := 8) sc_law.nd rfl (.inl rfl) (pe_op op_mod (pe_callF o_law_cell_at hr (by decide) (by rfl) pass0 (pa_cons (pv 0) (pa_cons pe_int pa_nil))) (pe_cst (pe_op op_pow pe_int pe_int) fun _ _ _ h => ⟨_, _, rfl, rfl, ⟨by decide, by decide, by decide⟩, h⟩)))
  (pss_cons (ps_set (i := 4) sc_law.nd rfl (.inl rfl) (pe_op op_cat (pe_op op_cat (pe_op op_cat (pe_lst (pa_cons pe_int pa_nil)) (pe_callF o_law_two hr (by decide) (by rfl) pass0 (pa_cons (pv 7) pa_nil))) (pe_lst (pa_cons pe_int (pa_cons pe_int pa_nil)))) (pe_callF o_law_many hr (by decide) (by rfl) pass0 (pa_cons (pe_op op_add (pv 8) (pe_cst (pe_op op_pow pe_int pe_int) fun _ _ _ h => ⟨_, _, rfl, rfl, ⟨by decide, by decide, by decide⟩, h⟩)) pa_nil))))
  (pss_one (ps_if (pt_cmpR op_eq (pv 7) pe_int (nomark _))
  (pss_cons (ps_set (i := 1) sc_law.nd rfl (.inl rfl) (pe_op op_rep (pe_lst (pa_cons (pv 8) pa_nil)) (pv 7)))
  (pss_one (ps_set (i := 3) sc_law.nd rfl (.inl rfl) (pe_callTy call_listK (by rfl) T.b_list (by decide +kernel) (pa_cons (pv 4) pa_nil)))))
  pss_nil)))))
  pss_nil)
  (pss_cons (ps_set (i := 9) sc_law.nd rfl (.inl rfl) (pe_callTy call_listK (by rfl) T.b_list (by decide +kernel) (pa_cons (pv 4) pa_nil)))
  (pss_cons (ps_set (i := 10) sc_law.nd rfl (.inl rfl) (pe_callF o_law_told hr (by decide) (by rfl) pass0 (pa_cons (pv 9) pa_nil)))
  (pss_cons (ps_if (PW.pt (pw_or (pt_cmpR (op_neD hr.units) (pv 9) (pv 4) (nomark _)) (pw_or1 (PW.pt (pw_and (pt_cmpR (op_eqD hr.units) (pv 4) (pv 3) (nomark _)) (pw_and1 (pt_cmpR (op_neD hr.units) (pv 10) (pv 1) (nomark _))))))))
  (pss_one (ps_ret pe_bl))
  pss_nil)
  (pss_cons (ps_set (i := 11) sc_law.nd rfl (.inl rfl) (pe_tup (pa_cons pe_int (pa_cons pe_bl (pa_cons pe_bl (pa_cons pe_bl pa_nil))))))
  (Evl.pss_cut (ps_if (pt_val (pe_callB call_isB (by rfl) T.b_isinstance (by decide +kernel) (pa_cons (pv 10) (pa_cons (pe_bltn (v := .ty "list") (by rfl) T.b_list (by decide +kernel) rfl) pa_nil))))
  (pss_cons (ps_set (i := 11) sc_law.nd rfl (.inl rfl) (pe_callTy call_listK (by rfl) T.b_list (by decide +kernel) (pa_cons (pv 10) pa_nil)))
  (pss_cons (ps_if (PW.pt (pw_or (pt_cmpR op_gt (pe_callB call_lenK (by rfl) T.b_len (by decide +kernel) (pa_cons (pv 11) pa_nil)) pe_int (nomark _)) (pw_or1 (pt_cmpR (op_neD hr.units) (pe_lc (own := [("_law_sign", 12)]) (g := (gName 12)) (tt := (tTest (tOp rGeI (tCB rAbs (tCons (tVar 12) tNil)) (tC (.int 1000000000000000000000000000000000000000000000000000000000000))))) rfl sc_law.nd (pi_list (pv 11)) (blkOk_by (N := ["_law_script", "_law_signs_here", "_law_kinds", "_law_good", "_law_octets", "_law_k", "_law_cell", "_law_many_here", "_law_kind", "_law_handed", "_law_found", "_law_kept", "_law_sign"]) (sc := defScope s_law) (own := [("_law_sign", 12)]) (by decide +kernel)) (fun _ _ _ _ _ => (pg_name (i := 12) sc_law.nd rfl (.inl rfl))) (fun _ _ _ _ _ => (pts_one (pt_cmpR op_ge (pe_callB call_abs (by rfl) T.b_abs (by decide +kernel) (pa_cons (pv 12) pa_nil)) (pe_cst (pe_op op_pow pe_int pe_int) fun _ _ _ h => ⟨_, _, rfl, rfl, ⟨by decide, by decide, by decide⟩, h⟩) (nomark _)))) (fun _ _ _ _ _ => (pv 12))) (pe_lst pa_nil) (nomark _)))))
  (pss_one (ps_ret pe_bl))
  pss_nil)
  (pss_cons (ps_if (PW.pt (pw_or (pt_cmpR (op_neD hr.units) (pe_callF o_law_laid hr (by decide) (by rfl) pass0 (pa_cons (pe_sortSet (by rfl) T.b_sorted (by rfl) T.b_set (pv 11)) (pa_cons (pv 11) pa_nil))) (pv 4) (nomark _)) (pw_or1 (pt_cmpR (op_neD hr.units) (pe_callF o_signs_octets hr (by decide) (by rfl) passL (pa_cons (pe_callTy call_listK (by rfl) T.b_list (by decide +kernel) (pa_cons (pv 10) pa_nil)) pa_nil)) (pv 4) (nomark _)))))
  (pss_one (ps_ret pe_bl))
  pss_nil)
  (pss_one (ps_expr (pe_bm PySem.F.plainAttrs_list PySem.F.slot_list_append PySem.F.type_list_append mt_append (pv 10) (pa_cons pe_int pa_nil)))))))
  pss_nil)
  (pss_one (ps_ret (pe_and (pe_or (pe_callB call_isB (by rfl) T.b_isinstance (by decide +kernel) (pa_cons (pv 10) (pa_cons (pe_bltn (v := .ty "list") (by rfl) T.b_list (by decide +kernel) rfl) pa_nil))) (pe_one (pe_cmpR (op_eqD hr.units) (pv 10) (pv 11) (nomark _)))) (pe_one (pe_cmpR (op_eqD hr.units) (pe_callF o_law_told hr (by decide) (by rfl) pass0 (pa_cons (pv 9) pa_nil)) (pv 11) (nomark _)))))))))))))))))))
end
def dd_packed : He.DefD := ⟨("packed", none), "packed", "packed", defArgs s_packed, defBody s_packed, defScope s_packed, [], []⟩
def dd_unpacked : He.DefD := ⟨("unpacked", none), "unpacked", "unpacked", defArgs s_unpacked, defBody s_unpacked, defScope s_unpacked, [], []⟩
def dd_ones_in : He.DefD := ⟨("ones_in", none), "ones_in", "ones_in", defArgs s_ones_in, defBody s_ones_in, defScope s_ones_in, [], []⟩
def dd_ones_table : He.DefD := ⟨("ones_table", none), "ones_table", "ones_table", defArgs s_ones_table, defBody s_ones_table, defScope s_ones_table, [], []⟩
def dd_kept_row : He.DefD := ⟨("kept_row", none), "kept_row", "kept_row", defArgs s_kept_row, defBody s_kept_row, defScope s_kept_row, [], []⟩
def dd_octets_of : He.DefD := ⟨("octets_of", none), "octets_of", "octets_of", defArgs s_octets_of, defBody s_octets_of, defScope s_octets_of, [], []⟩
def dd_number_of : He.DefD := ⟨("number_of", none), "number_of", "number_of", defArgs s_number_of, defBody s_number_of, defScope s_number_of, [], []⟩
def dd_fields_of : He.DefD := ⟨("fields_of", none), "fields_of", "fields_of", defArgs s_fields_of, defBody s_fields_of, defScope s_fields_of, [], []⟩
def dd_numbers_of : He.DefD := ⟨("numbers_of", none), "numbers_of", "numbers_of", defArgs s_numbers_of, defBody s_numbers_of, defScope s_numbers_of, [], []⟩
def dd_levels_for : He.DefD := ⟨("levels_for", none), "levels_for", "levels_for", defArgs s_levels_for, defBody s_levels_for, defScope s_levels_for, [], []⟩
def dd_kept_signs : He.DefD := ⟨("kept_signs", none), "kept_signs", "kept_signs", defArgs s_kept_signs, defBody s_kept_signs, defScope s_kept_signs, [], []⟩
def dd_blocks_for : He.DefD := ⟨("blocks_for", none), "blocks_for", "blocks_for", defArgs s_blocks_for, defBody s_blocks_for, defScope s_blocks_for, [], []⟩
def dd_signs_laid : He.DefD := ⟨("signs_laid", none), "signs_laid", "signs_laid", defArgs s_signs_laid, defBody s_signs_laid, defScope s_signs_laid, [], []⟩
def dd_signs_octets : He.DefD := ⟨("signs_octets", none), "signs_octets", "signs_octets", defArgs s_signs_octets, defBody s_signs_octets, defScope s_signs_octets, [], []⟩
def dd_head_of : He.DefD := ⟨("head_of", none), "head_of", "head_of", defArgs s_head_of, defBody s_head_of, defScope s_head_of, [], []⟩
def dd_row_long : He.DefD := ⟨("row_long", none), "row_long", "row_long", defArgs s_row_long, defBody s_row_long, defScope s_row_long, [], []⟩
def dd_same_again : He.DefD := ⟨("same_again", none), "same_again", "same_again", defArgs s_same_again, defBody s_same_again, defScope s_same_again, [], []⟩
def dd_signs_long : He.DefD := ⟨("signs_long", none), "signs_long", "signs_long", defArgs s_signs_long, defBody s_signs_long, defScope s_signs_long, [], []⟩
def dd_ranks_in : He.DefD := ⟨("ranks_in", none), "ranks_in", "ranks_in", defArgs s_ranks_in, defBody s_ranks_in, defScope s_ranks_in, [], []⟩
def dd_read_signs : He.DefD := ⟨("read_signs", none), "read_signs", "read_signs", defArgs s_read_signs, defBody s_read_signs, defScope s_read_signs, [], []⟩
def dd_law_cell_at : He.DefD := ⟨("_law_cell_at", none), "_law_cell_at", "_law_cell_at", defArgs s_law_cell_at, defBody s_law_cell_at, defScope s_law_cell_at, [], []⟩
def dd_law_whole : He.DefD := ⟨("_law_whole", none), "_law_whole", "_law_whole", defArgs s_law_whole, defBody s_law_whole, defScope s_law_whole, [], []⟩
def dd_law_signs : He.DefD := ⟨("_law_signs", none), "_law_signs", "_law_signs", defArgs s_law_signs, defBody s_law_signs, defScope s_law_signs, [], []⟩
def dd_law_two : He.DefD := ⟨("_law_two", none), "_law_two", "_law_two", defArgs s_law_two, defBody s_law_two, defScope s_law_two, [], []⟩
def dd_law_many : He.DefD := ⟨("_law_many", none), "_law_many", "_law_many", defArgs s_law_many, defBody s_law_many, defScope s_law_many, [], []⟩
def dd_law_level : He.DefD := ⟨("_law_level", none), "_law_level", "_law_level", defArgs s_law_level, defBody s_law_level, defScope s_law_level, [], []⟩
def dd_law_laid : He.DefD := ⟨("_law_laid", none), "_law_laid", "_law_laid", defArgs s_law_laid, defBody s_law_laid, defScope s_law_laid, [], []⟩
def dd_law_odd_kinds : He.DefD := ⟨("_law_odd_kinds", none), "_law_odd_kinds", "_law_odd_kinds", defArgs s_law_odd_kinds, defBody s_law_odd_kinds, defScope s_law_odd_kinds, [], []⟩
def dd_law_changed : He.DefD := ⟨("_law_changed", none), "_law_changed", "_law_changed", defArgs s_law_changed, defBody s_law_changed, defScope s_law_changed, [], []⟩
def dd_law_told : He.DefD := ⟨("_law_told", none), "_law_told", "_law_told", defArgs s_law_told, defBody s_law_told, defScope s_law_told, [], []⟩
def dd_law : He.DefD := ⟨("law", none), "law", "law", defArgs s_law, defBody s_law, defScope s_law, [], []⟩
def fnL : List He.DefD := [dd_packed, dd_unpacked, dd_ones_in, dd_ones_table, dd_kept_row, dd_octets_of, dd_number_of, dd_fields_of, dd_numbers_of, dd_levels_for, dd_kept_signs, dd_blocks_for, dd_signs_laid, dd_signs_octets, dd_head_of, dd_row_long, dd_same_again, dd_signs_long, dd_ranks_in, dd_read_signs, dd_law_cell_at, dd_law_whole, dd_law_signs, dd_law_two, dd_law_many, dd_law_level, dd_law_laid, dd_law_odd_kinds, dd_law_changed, dd_law_told, dd_law]
def fxL : List Fx := [.excC "NoBit", .kitT "NoBit" "ValueError" true, .kit "NoBit" "NoBit" true, .exm "NoBit" "NoBit" true, .kit "NoBit" "NoOctets" false, .exm "NoBit" "NoOctets" false, .kit "NoBit" "NoPlace" false, .exm "NoBit" "NoPlace" false, .kit "NoBit" "NoSign" false, .exm "NoBit" "NoSign" false, .kit "NoBit" "TooMany" false, .exm "NoBit" "TooMany" false, .kit "NoBit" "WoodError" true, .exm "NoBit" "WoodError" true, .excC "NoOctets", .kitT "NoOctets" "ValueError" true, .kit "NoOctets" "NoBit" false, .exm "NoOctets" "NoBit" false, .kit "NoOctets" "NoOctets" true, .exm "NoOctets" "NoOctets" true, .kit "NoOctets" "NoPlace" false, .exm "NoOctets" "NoPlace" false, .kit "NoOctets" "NoSign" false, .exm "NoOctets" "NoSign" false, .kit "NoOctets" "TooMany" false, .exm "NoOctets" "TooMany" false, .kit "NoOctets" "WoodError" true, .exm "NoOctets" "WoodError" true, .excC "NoPlace", .kitT "NoPlace" "ValueError" true, .kit "NoPlace" "NoBit" false, .exm "NoPlace" "NoBit" false, .kit "NoPlace" "NoOctets" false, .exm "NoPlace" "NoOctets" false, .kit "NoPlace" "NoPlace" true, .exm "NoPlace" "NoPlace" true, .kit "NoPlace" "NoSign" false, .exm "NoPlace" "NoSign" false, .kit "NoPlace" "TooMany" false, .exm "NoPlace" "TooMany" false, .kit "NoPlace" "WoodError" true, .exm "NoPlace" "WoodError" true, .excC "NoSign", .kitT "NoSign" "ValueError" true, .kit "NoSign" "NoBit" false, .exm "NoSign" "NoBit" false, .kit "NoSign" "NoOctets" false, .exm "NoSign" "NoOctets" false, .kit "NoSign" "NoPlace" false, .exm "NoSign" "NoPlace" false, .kit "NoSign" "NoSign" true, .exm "NoSign" "NoSign" true, .kit "NoSign" "TooMany" false, .exm "NoSign" "TooMany" false, .kit "NoSign" "WoodError" true, .exm "NoSign" "WoodError" true, .excC "TooMany", .kitT "TooMany" "ValueError" true, .kit "TooMany" "NoBit" false, .exm "TooMany" "NoBit" false, .kit "TooMany" "NoOctets" false, .exm "TooMany" "NoOctets" false, .kit "TooMany" "NoPlace" false, .exm "TooMany" "NoPlace" false, .kit "TooMany" "NoSign" false, .exm "TooMany" "NoSign" false, .kit "TooMany" "TooMany" true, .exm "TooMany" "TooMany" true, .kit "TooMany" "WoodError" true, .exm "TooMany" "WoodError" true, .excC "WoodError", .kitT "WoodError" "ValueError" true, .kit "WoodError" "NoBit" false, .exm "WoodError" "NoBit" false, .kit "WoodError" "NoOctets" false, .exm "WoodError" "NoOctets" false, .kit "WoodError" "NoPlace" false, .exm "WoodError" "NoPlace" false, .kit "WoodError" "NoSign" false, .exm "WoodError" "NoSign" false, .kit "WoodError" "TooMany" false, .exm "WoodError" "TooMany" false, .kit "WoodError" "WoodError" true, .exm "WoodError" "WoodError" true]
def faL : List He.Fa := [.glo "packed", .glo "unpacked", .glo "ones_in", .glo "ones_table", .glo "kept_row", .glo "octets_of", .glo "number_of", .glo "fields_of", .glo "numbers_of", .glo "levels_for", .glo "kept_signs", .glo "blocks_for", .glo "signs_laid", .glo "signs_octets", .glo "head_of", .glo "row_long", .glo "same_again", .glo "signs_long", .glo "ranks_in", .glo "read_signs", .glo "_law_cell_at", .glo "_law_whole", .glo "_law_signs", .glo "_law_two", .glo "_law_many", .glo "_law_level", .glo "_law_laid", .glo "_law_odd_kinds", .glo "_law_changed", .glo "_law_told", .glo "law", .free "ValueError", .free "abs", .free "all", .free "bool", .free "divmod", .free "enumerate", .free "int", .free "isinstance", .free "len", .free "list", .free "max", .free "range", .free "reversed", .free "set", .free "sorted", .free "sum", .free "tuple", .free "zip", .int "FAR" 1000000000000000000000000000000000000000000000000000000000000, .int "MOST" 4096, .int "SIGN_WIDE" 26, .int "WIDE" 32, .exc "NoBit", .exc "NoOctets", .exc "NoPlace", .exc "NoSign", .exc "TooMany", .exc "WoodError", .glo "NoBit", .glo "NoOctets", .glo "NoPlace", .glo "NoSign", .glo "TooMany", .glo "WoodError"]
abbrev R : PySem.W.OpenRow := PySem.W.OpenLaw.row PySem.Challenge.rw_thinwood_k87_signs_read
abbrev hk : PySem.W.Hook := hookF 2 faL fnL fxL
def ob (s : PySem.W.SharedT) : AlF := obsFG 2 faL fnL fxL (HandSHeadRun.getT s)
theorem ob_eq (s : PySem.W.SharedT) : ob s = hk.obs s.abs := obsFG_eq (HandSHeadRun.getT_eq s)
def looseL : List PySem.Str := (["WoodError", "TooMany", "NoBit", "NoPlace", "NoSign", "NoOctets", "WIDE", "MOST", "packed", "unpacked", "ones_in", "ones_table", "kept_row", "octets_of", "number_of", "fields_of", "numbers_of", "FAR", "levels_for", "kept_signs", "blocks_for", "SIGN_WIDE", "signs_laid", "signs_octets", "head_of", "row_long", "same_again", "signs_long", "ranks_in", "read_signs"] : List PySem.Str) ++ (["_law_cell_at", "_law_whole", "_law_signs", "_law_two", "_law_many", "_law_level", "_law_laid", "_law_odd_kinds", "_law_changed", "_law_told"] : List PySem.Str)
theorem run (w : World) : HandSHeadRun.RunEq R (PySem.W.view R.prog [48]) hk ob 20000 looseL w := by
  intro os
  kernel_rfl
theorem tx_of {P : Program} {w : World} {K : PySem.W.Frag} {h : Heap} {mg : Str → Option Value} (X : K.In h) (G : h.Ns mainGlobals mg) (c2 : SaysF faL fnL fxL K) (base : Heap) : Tx P w K mg base :=
  have c := SaysF.d c2
  {
  d_packed := c.def_ 0 (d := dd_packed) rfl
  g_packed := He.glo_ok X G (c.fact 0 (f := .glo "packed") rfl)
  d_unpacked := c.def_ 1 (d := dd_unpacked) rfl
  g_unpacked := He.glo_ok X G (c.fact 1 (f := .glo "unpacked") rfl)
  d_ones_in := c.def_ 2 (d := dd_ones_in) rfl
  g_ones_in := He.glo_ok X G (c.fact 2 (f := .glo "ones_in") rfl)
  d_ones_table := c.def_ 3 (d := dd_ones_table) rfl
  g_ones_table := He.glo_ok X G (c.fact 3 (f := .glo "ones_table") rfl)
  d_kept_row := c.def_ 4 (d := dd_kept_row) rfl
  g_kept_row := He.glo_ok X G (c.fact 4 (f := .glo "kept_row") rfl)
  d_octets_of := c.def_ 5 (d := dd_octets_of) rfl
  g_octets_of := He.glo_ok X G (c.fact 5 (f := .glo "octets_of") rfl)
  d_number_of := c.def_ 6 (d := dd_number_of) rfl
  g_number_of := He.glo_ok X G (c.fact 6 (f := .glo "number_of") rfl)
  d_fields_of := c.def_ 7 (d := dd_fields_of) rfl
  g_fields_of := He.glo_ok X G (c.fact 7 (f := .glo "fields_of") rfl)
  d_numbers_of := c.def_ 8 (d := dd_numbers_of) rfl
  g_numbers_of := He.glo_ok X G (c.fact 8 (f := .glo "numbers_of") rfl)
  d_levels_for := c.def_ 9 (d := dd_levels_for) rfl
  g_levels_for := He.glo_ok X G (c.fact 9 (f := .glo "levels_for") rfl)
  d_kept_signs := c.def_ 10 (d := dd_kept_signs) rfl
  g_kept_signs := He.glo_ok X G (c.fact 10 (f := .glo "kept_signs") rfl)
  d_blocks_for := c.def_ 11 (d := dd_blocks_for) rfl
  g_blocks_for := He.glo_ok X G (c.fact 11 (f := .glo "blocks_for") rfl)
  d_signs_laid := c.def_ 12 (d := dd_signs_laid) rfl
  g_signs_laid := He.glo_ok X G (c.fact 12 (f := .glo "signs_laid") rfl)
  d_signs_octets := c.def_ 13 (d := dd_signs_octets) rfl
  g_signs_octets := He.glo_ok X G (c.fact 13 (f := .glo "signs_octets") rfl)
  d_head_of := c.def_ 14 (d := dd_head_of) rfl
  g_head_of := He.glo_ok X G (c.fact 14 (f := .glo "head_of") rfl)
  d_row_long := c.def_ 15 (d := dd_row_long) rfl
  g_row_long := He.glo_ok X G (c.fact 15 (f := .glo "row_long") rfl)
  d_same_again := c.def_ 16 (d := dd_same_again) rfl
  g_same_again := He.glo_ok X G (c.fact 16 (f := .glo "same_again") rfl)
  d_signs_long := c.def_ 17 (d := dd_signs_long) rfl
  g_signs_long := He.glo_ok X G (c.fact 17 (f := .glo "signs_long") rfl)
  d_ranks_in := c.def_ 18 (d := dd_ranks_in) rfl
  g_ranks_in := He.glo_ok X G (c.fact 18 (f := .glo "ranks_in") rfl)
  d_read_signs := c.def_ 19 (d := dd_read_signs) rfl
  g_read_signs := He.glo_ok X G (c.fact 19 (f := .glo "read_signs") rfl)
  d_law_cell_at := c.def_ 20 (d := dd_law_cell_at) rfl
  g_law_cell_at := He.glo_ok X G (c.fact 20 (f := .glo "_law_cell_at") rfl)
  d_law_whole := c.def_ 21 (d := dd_law_whole) rfl
  g_law_whole := He.glo_ok X G (c.fact 21 (f := .glo "_law_whole") rfl)
  d_law_signs := c.def_ 22 (d := dd_law_signs) rfl
  g_law_signs := He.glo_ok X G (c.fact 22 (f := .glo "_law_signs") rfl)
  d_law_two := c.def_ 23 (d := dd_law_two) rfl
  g_law_two := He.glo_ok X G (c.fact 23 (f := .glo "_law_two") rfl)
  d_law_many := c.def_ 24 (d := dd_law_many) rfl
  g_law_many := He.glo_ok X G (c.fact 24 (f := .glo "_law_many") rfl)
  d_law_level := c.def_ 25 (d := dd_law_level) rfl
  g_law_level := He.glo_ok X G (c.fact 25 (f := .glo "_law_level") rfl)
  d_law_laid := c.def_ 26 (d := dd_law_laid) rfl
  g_law_laid := He.glo_ok X G (c.fact 26 (f := .glo "_law_laid") rfl)
  d_law_odd_kinds := c.def_ 27 (d := dd_law_odd_kinds) rfl
  g_law_odd_kinds := He.glo_ok X G (c.fact 27 (f := .glo "_law_odd_kinds") rfl)
  d_law_changed := c.def_ 28 (d := dd_law_changed) rfl
  g_law_changed := He.glo_ok X G (c.fact 28 (f := .glo "_law_changed") rfl)
  d_law_told := c.def_ 29 (d := dd_law_told) rfl
  g_law_told := He.glo_ok X G (c.fact 29 (f := .glo "_law_told") rfl)
  d_law := c.def_ 30 (d := dd_law) rfl
  g_law := He.glo_ok X G (c.fact 30 (f := .glo "law") rfl)
  b_ValueError := He.free_ok X G (c.fact 31 (f := .free "ValueError") rfl)
  b_abs := He.free_ok X G (c.fact 32 (f := .free "abs") rfl)
  b_all := He.free_ok X G (c.fact 33 (f := .free "all") rfl)
  b_bool := He.free_ok X G (c.fact 34 (f := .free "bool") rfl)
  b_divmod := He.free_ok X G (c.fact 35 (f := .free "divmod") rfl)
  b_enumerate := He.free_ok X G (c.fact 36 (f := .free "enumerate") rfl)
  b_int := He.free_ok X G (c.fact 37 (f := .free "int") rfl)
  b_isinstance := He.free_ok X G (c.fact 38 (f := .free "isinstance") rfl)
  b_len := He.free_ok X G (c.fact 39 (f := .free "len") rfl)
  b_list := He.free_ok X G (c.fact 40 (f := .free "list") rfl)
  b_max := He.free_ok X G (c.fact 41 (f := .free "max") rfl)
  b_range := He.free_ok X G (c.fact 42 (f := .free "range") rfl)
  b_reversed := He.free_ok X G (c.fact 43 (f := .free "reversed") rfl)
  b_set := He.free_ok X G (c.fact 44 (f := .free "set") rfl)
  b_sorted := He.free_ok X G (c.fact 45 (f := .free "sorted") rfl)
  b_sum := He.free_ok X G (c.fact 46 (f := .free "sum") rfl)
  b_tuple := He.free_ok X G (c.fact 47 (f := .free "tuple") rfl)
  b_zip := He.free_ok X G (c.fact 48 (f := .free "zip") rfl)
  i_FAR := He.int_ok X G (c.fact 49 (f := .int "FAR" 1000000000000000000000000000000000000000000000000000000000000) rfl)
  i_MOST := He.int_ok X G (c.fact 50 (f := .int "MOST" 4096) rfl)
  i_SIGN_WIDE := He.int_ok X G (c.fact 51 (f := .int "SIGN_WIDE" 26) rfl)
  i_WIDE := He.int_ok X G (c.fact 52 (f := .int "WIDE" 32) rfl)
  x_NoBit := (fun q => ⟨He.glo_ok X G (c.fact 59 (f := .glo "NoBit") rfl), q.1, q.2.1, q.2.2.1, q.2.2.2⟩) (He.exc_ok (c.fact 53 (f := .exc "NoBit") rfl))
  g_NoBit := He.glo_ok X G (c.fact 59 (f := .glo "NoBit") rfl)
  x_NoOctets := (fun q => ⟨He.glo_ok X G (c.fact 60 (f := .glo "NoOctets") rfl), q.1, q.2.1, q.2.2.1, q.2.2.2⟩) (He.exc_ok (c.fact 54 (f := .exc "NoOctets") rfl))
  g_NoOctets := He.glo_ok X G (c.fact 60 (f := .glo "NoOctets") rfl)
  x_NoPlace := (fun q => ⟨He.glo_ok X G (c.fact 61 (f := .glo "NoPlace") rfl), q.1, q.2.1, q.2.2.1, q.2.2.2⟩) (He.exc_ok (c.fact 55 (f := .exc "NoPlace") rfl))
  g_NoPlace := He.glo_ok X G (c.fact 61 (f := .glo "NoPlace") rfl)
  x_NoSign := (fun q => ⟨He.glo_ok X G (c.fact 62 (f := .glo "NoSign") rfl), q.1, q.2.1, q.2.2.1, q.2.2.2⟩) (He.exc_ok (c.fact 56 (f := .exc "NoSign") rfl))
  g_NoSign := He.glo_ok X G (c.fact 62 (f := .glo "NoSign") rfl)
  x_TooMany := (fun q => ⟨He.glo_ok X G (c.fact 63 (f := .glo "TooMany") rfl), q.1, q.2.1, q.2.2.1, q.2.2.2⟩) (He.exc_ok (c.fact 57 (f := .exc "TooMany") rfl))
  g_TooMany := He.glo_ok X G (c.fact 63 (f := .glo "TooMany") rfl)
  x_WoodError := (fun q => ⟨He.glo_ok X G (c.fact 64 (f := .glo "WoodError") rfl), q.1, q.2.1, q.2.2.1, q.2.2.2⟩) (He.exc_ok (c.fact 58 (f := .exc "WoodError") rfl))
  g_WoodError := He.glo_ok X G (c.fact 64 (f := .glo "WoodError") rfl)
  fx := {
    ec_NoBit := Fx.excC_ok (SaysF.fx c2 0 (f := .excC "NoBit") rfl)
    kt_NoBit := Fx.kitT_ok (SaysF.fx c2 1 (f := .kitT "NoBit" "ValueError" true) rfl)
    k_NoBit_NoBit := Fx.kit_ok (SaysF.fx c2 2 (f := .kit "NoBit" "NoBit" true) rfl)
    e_NoBit_NoBit := Fx.exm_ok (SaysF.fx c2 3 (f := .exm "NoBit" "NoBit" true) rfl)
    k_NoBit_NoOctets := Fx.kit_ok (SaysF.fx c2 4 (f := .kit "NoBit" "NoOctets" false) rfl)
    e_NoBit_NoOctets := Fx.exm_ok (SaysF.fx c2 5 (f := .exm "NoBit" "NoOctets" false) rfl)
    k_NoBit_NoPlace := Fx.kit_ok (SaysF.fx c2 6 (f := .kit "NoBit" "NoPlace" false) rfl)
    e_NoBit_NoPlace := Fx.exm_ok (SaysF.fx c2 7 (f := .exm "NoBit" "NoPlace" false) rfl)
    k_NoBit_NoSign := Fx.kit_ok (SaysF.fx c2 8 (f := .kit "NoBit" "NoSign" false) rfl)
    e_NoBit_NoSign := Fx.exm_ok (SaysF.fx c2 9 (f := .exm "NoBit" "NoSign" false) rfl)
    k_NoBit_TooMany := Fx.kit_ok (SaysF.fx c2 10 (f := .kit "NoBit" "TooMany" false) rfl)
    e_NoBit_TooMany := Fx.exm_ok (SaysF.fx c2 11 (f := .exm "NoBit" "TooMany" false) rfl)
    k_NoBit_WoodError := Fx.kit_ok (SaysF.fx c2 12 (f := .kit "NoBit" "WoodError" true) rfl)
    e_NoBit_WoodError := Fx.exm_ok (SaysF.fx c2 13 (f := .exm "NoBit" "WoodError" true) rfl)
    ec_NoOctets := Fx.excC_ok (SaysF.fx c2 14 (f := .excC "NoOctets") rfl)
    kt_NoOctets := Fx.kitT_ok (SaysF.fx c2 15 (f := .kitT "NoOctets" "ValueError" true) rfl)
    k_NoOctets_NoBit := Fx.kit_ok (SaysF.fx c2 16 (f := .kit "NoOctets" "NoBit" false) rfl)
    e_NoOctets_NoBit := Fx.exm_ok (SaysF.fx c2 17 (f := .exm "NoOctets" "NoBit" false) rfl)
    k_NoOctets_NoOctets := Fx.kit_ok (SaysF.fx c2 18 (f := .kit "NoOctets" "NoOctets" true) rfl)
    e_NoOctets_NoOctets := Fx.exm_ok (SaysF.fx c2 19 (f := .exm "NoOctets" "NoOctets" true) rfl)
    k_NoOctets_NoPlace := Fx.kit_ok (SaysF.fx c2 20 (f := .kit "NoOctets" "NoPlace" false) rfl)
    e_NoOctets_NoPlace := Fx.exm_ok (SaysF.fx c2 21 (f := .exm "NoOctets" "NoPlace" false) rfl)
    k_NoOctets_NoSign := Fx.kit_ok (SaysF.fx c2 22 (f := .kit "NoOctets" "NoSign" false) rfl)
    e_NoOctets_NoSign := Fx.exm_ok (SaysF.fx c2 23 (f := .exm "NoOctets" "NoSign" false) rfl)
    k_NoOctets_TooMany := Fx.kit_ok (SaysF.fx c2 24 (f := .kit "NoOctets" "TooMany" false) rfl)
    e_NoOctets_TooMany := Fx.exm_ok (SaysF.fx c2 25 (f := .exm "NoOctets" "TooMany" false) rfl)
    k_NoOctets_WoodError := Fx.kit_ok (SaysF.fx c2 26 (f := .kit "NoOctets" "WoodError" true) rfl)
    e_NoOctets_WoodError := Fx.exm_ok (SaysF.fx c2 27 (f := .exm "NoOctets" "WoodError" true) rfl)
    ec_NoPlace := Fx.excC_ok (SaysF.fx c2 28 (f := .excC "NoPlace") rfl)
    kt_NoPlace := Fx.kitT_ok (SaysF.fx c2 29 (f := .kitT "NoPlace" "ValueError" true) rfl)
    k_NoPlace_NoBit := Fx.kit_ok (SaysF.fx c2 30 (f := .kit "NoPlace" "NoBit" false) rfl)
    e_NoPlace_NoBit := Fx.exm_ok (SaysF.fx c2 31 (f := .exm "NoPlace" "NoBit" false) rfl)
    k_NoPlace_NoOctets := Fx.kit_ok (SaysF.fx c2 32 (f := .kit "NoPlace" "NoOctets" false) rfl)
    e_NoPlace_NoOctets := Fx.exm_ok (SaysF.fx c2 33 (f := .exm "NoPlace" "NoOctets" false) rfl)
    k_NoPlace_NoPlace := Fx.kit_ok (SaysF.fx c2 34 (f := .kit "NoPlace" "NoPlace" true) rfl)
    e_NoPlace_NoPlace := Fx.exm_ok (SaysF.fx c2 35 (f := .exm "NoPlace" "NoPlace" true) rfl)
    k_NoPlace_NoSign := Fx.kit_ok (SaysF.fx c2 36 (f := .kit "NoPlace" "NoSign" false) rfl)
    e_NoPlace_NoSign := Fx.exm_ok (SaysF.fx c2 37 (f := .exm "NoPlace" "NoSign" false) rfl)
    k_NoPlace_TooMany := Fx.kit_ok (SaysF.fx c2 38 (f := .kit "NoPlace" "TooMany" false) rfl)
    e_NoPlace_TooMany := Fx.exm_ok (SaysF.fx c2 39 (f := .exm "NoPlace" "TooMany" false) rfl)
    k_NoPlace_WoodError := Fx.kit_ok (SaysF.fx c2 40 (f := .kit "NoPlace" "WoodError" true) rfl)
    e_NoPlace_WoodError := Fx.exm_ok (SaysF.fx c2 41 (f := .exm "NoPlace" "WoodError" true) rfl)
    ec_NoSign := Fx.excC_ok (SaysF.fx c2 42 (f := .excC "NoSign") rfl)
    kt_NoSign := Fx.kitT_ok (SaysF.fx c2 43 (f := .kitT "NoSign" "ValueError" true) rfl)
    k_NoSign_NoBit := Fx.kit_ok (SaysF.fx c2 44 (f := .kit "NoSign" "NoBit" false) rfl)
    e_NoSign_NoBit := Fx.exm_ok (SaysF.fx c2 45 (f := .exm "NoSign" "NoBit" false) rfl)
    k_NoSign_NoOctets := Fx.kit_ok (SaysF.fx c2 46 (f := .kit "NoSign" "NoOctets" false) rfl)
    e_NoSign_NoOctets := Fx.exm_ok (SaysF.fx c2 47 (f := .exm "NoSign" "NoOctets" false) rfl)
    k_NoSign_NoPlace := Fx.kit_ok (SaysF.fx c2 48 (f := .kit "NoSign" "NoPlace" false) rfl)
    e_NoSign_NoPlace := Fx.exm_ok (SaysF.fx c2 49 (f := .exm "NoSign" "NoPlace" false) rfl)
    k_NoSign_NoSign := Fx.kit_ok (SaysF.fx c2 50 (f := .kit "NoSign" "NoSign" true) rfl)
    e_NoSign_NoSign := Fx.exm_ok (SaysF.fx c2 51 (f := .exm "NoSign" "NoSign" true) rfl)
    k_NoSign_TooMany := Fx.kit_ok (SaysF.fx c2 52 (f := .kit "NoSign" "TooMany" false) rfl)
    e_NoSign_TooMany := Fx.exm_ok (SaysF.fx c2 53 (f := .exm "NoSign" "TooMany" false) rfl)
    k_NoSign_WoodError := Fx.kit_ok (SaysF.fx c2 54 (f := .kit "NoSign" "WoodError" true) rfl)
    e_NoSign_WoodError := Fx.exm_ok (SaysF.fx c2 55 (f := .exm "NoSign" "WoodError" true) rfl)
    ec_TooMany := Fx.excC_ok (SaysF.fx c2 56 (f := .excC "TooMany") rfl)
    kt_TooMany := Fx.kitT_ok (SaysF.fx c2 57 (f := .kitT "TooMany" "ValueError" true) rfl)
    k_TooMany_NoBit := Fx.kit_ok (SaysF.fx c2 58 (f := .kit "TooMany" "NoBit" false) rfl)
    e_TooMany_NoBit := Fx.exm_ok (SaysF.fx c2 59 (f := .exm "TooMany" "NoBit" false) rfl)
    k_TooMany_NoOctets := Fx.kit_ok (SaysF.fx c2 60 (f := .kit "TooMany" "NoOctets" false) rfl)
    e_TooMany_NoOctets := Fx.exm_ok (SaysF.fx c2 61 (f := .exm "TooMany" "NoOctets" false) rfl)
    k_TooMany_NoPlace := Fx.kit_ok (SaysF.fx c2 62 (f := .kit "TooMany" "NoPlace" false) rfl)
    e_TooMany_NoPlace := Fx.exm_ok (SaysF.fx c2 63 (f := .exm "TooMany" "NoPlace" false) rfl)
    k_TooMany_NoSign := Fx.kit_ok (SaysF.fx c2 64 (f := .kit "TooMany" "NoSign" false) rfl)
    e_TooMany_NoSign := Fx.exm_ok (SaysF.fx c2 65 (f := .exm "TooMany" "NoSign" false) rfl)
    k_TooMany_TooMany := Fx.kit_ok (SaysF.fx c2 66 (f := .kit "TooMany" "TooMany" true) rfl)
    e_TooMany_TooMany := Fx.exm_ok (SaysF.fx c2 67 (f := .exm "TooMany" "TooMany" true) rfl)
    k_TooMany_WoodError := Fx.kit_ok (SaysF.fx c2 68 (f := .kit "TooMany" "WoodError" true) rfl)
    e_TooMany_WoodError := Fx.exm_ok (SaysF.fx c2 69 (f := .exm "TooMany" "WoodError" true) rfl)
    ec_WoodError := Fx.excC_ok (SaysF.fx c2 70 (f := .excC "WoodError") rfl)
    kt_WoodError := Fx.kitT_ok (SaysF.fx c2 71 (f := .kitT "WoodError" "ValueError" true) rfl)
    k_WoodError_NoBit := Fx.kit_ok (SaysF.fx c2 72 (f := .kit "WoodError" "NoBit" false) rfl)
    e_WoodError_NoBit := Fx.exm_ok (SaysF.fx c2 73 (f := .exm "WoodError" "NoBit" false) rfl)
    k_WoodError_NoOctets := Fx.kit_ok (SaysF.fx c2 74 (f := .kit "WoodError" "NoOctets" false) rfl)
    e_WoodError_NoOctets := Fx.exm_ok (SaysF.fx c2 75 (f := .exm "WoodError" "NoOctets" false) rfl)
    k_WoodError_NoPlace := Fx.kit_ok (SaysF.fx c2 76 (f := .kit "WoodError" "NoPlace" false) rfl)
    e_WoodError_NoPlace := Fx.exm_ok (SaysF.fx c2 77 (f := .exm "WoodError" "NoPlace" false) rfl)
    k_WoodError_NoSign := Fx.kit_ok (SaysF.fx c2 78 (f := .kit "WoodError" "NoSign" false) rfl)
    e_WoodError_NoSign := Fx.exm_ok (SaysF.fx c2 79 (f := .exm "WoodError" "NoSign" false) rfl)
    k_WoodError_TooMany := Fx.kit_ok (SaysF.fx c2 80 (f := .kit "WoodError" "TooMany" false) rfl)
    e_WoodError_TooMany := Fx.exm_ok (SaysF.fx c2 81 (f := .exm "WoodError" "TooMany" false) rfl)
    k_WoodError_WoodError := Fx.kit_ok (SaysF.fx c2 82 (f := .kit "WoodError" "WoodError" true) rfl)
    e_WoodError_WoodError := Fx.exm_ok (SaysF.fx c2 83 (f := .exm "WoodError" "WoodError" true) rfl)
  }
  }
theorem facts {P : Program} {w : World} {K : PySem.W.Frag} {h : Heap} {mg : Str → Option Value} (X : K.In h) (G : h.Ns mainGlobals mg) (c : SaysF faL fnL fxL K) (base : Heap) :
    Okf P w K mg base CX0 12 "law" ["_law_script"] (sp_law K) := by
  have T : Tx P w K mg base := tx_of X G c base
  have o_packed := ok_packed (P := P) (w := w) T 
  have o_unpacked := ok_unpacked (P := P) (w := w) T 
  have o_ones_in := ok_ones_in (P := P) (w := w) T 
  have o_ones_table := ok_ones_table (P := P) (w := w) T o_ones_in
  have o_kept_row := ok_kept_row (P := P) (w := w) T o_packed o_ones_table
  have o_octets_of := ok_octets_of (P := P) (w := w) T 
  have o_number_of := ok_number_of (P := P) (w := w) T 
  have o_fields_of := ok_fields_of (P := P) (w := w) T o_octets_of
  have o_numbers_of := ok_numbers_of (P := P) (w := w) T o_number_of
  have o_levels_for := ok_levels_for (P := P) (w := w) T 
  have o_kept_signs := ok_kept_signs (P := P) (w := w) T o_levels_for o_kept_row
  have o_blocks_for := ok_blocks_for (P := P) (w := w) T 
  have o_signs_laid := ok_signs_laid (P := P) (w := w) T o_blocks_for o_fields_of
  have o_signs_octets := ok_signs_octets (P := P) (w := w) T o_kept_signs o_signs_laid
  have o_head_of := ok_head_of (P := P) (w := w) T o_number_of
  have o_row_long := ok_row_long (P := P) (w := w) T o_blocks_for
  have o_same_again := ok_same_again (P := P) (w := w) T 
  have o_signs_long := ok_signs_long (P := P) (w := w) T o_levels_for o_row_long
  have o_ranks_in := ok_ranks_in (P := P) (w := w) T o_row_long o_unpacked o_numbers_of o_blocks_for
  have o_read_signs := ok_read_signs (P := P) (w := w) T o_head_of o_signs_long o_numbers_of o_ranks_in o_levels_for o_same_again o_signs_octets
  have o_law_cell_at := ok_law_cell_at (P := P) (w := w) T 
  have o_law_whole := ok_law_whole (P := P) (w := w) T 
  have o_law_signs := ok_law_signs (P := P) (w := w) T o_law_cell_at
  have o_law_two := ok_law_two (P := P) (w := w) T 
  have o_law_many := ok_law_many (P := P) (w := w) T 
  have o_law_level := ok_law_level (P := P) (w := w) T o_law_two
  have o_law_laid := ok_law_laid (P := P) (w := w) T o_law_two o_law_many o_law_level
  have o_law_odd_kinds := ok_law_odd_kinds (P := P) (w := w) T 
  have o_law_changed := ok_law_changed (P := P) (w := w) T 
  have o_law_told := ok_law_told (P := P) (w := w) T o_read_signs o_law_whole
  have o_law := ok_law (P := P) (w := w) T o_law_signs o_law_laid o_law_cell_at o_law_changed o_law_odd_kinds o_law_two o_law_many o_law_told o_signs_octets
  exact o_law
theorem binds_law {K : PySem.W.Frag} (c : SaysF faL fnL fxL K) : ∃ fd : FuncData, FunD K "law" "law" (defArgs s_law) (defBody s_law) (defScope s_law) [] [] (He.ga K "law") fd := (SaysF.d c).def_ 30 (d := dd_law) rfl
end Tw
open PySem PySem.W PySem.Calls PyProof.Rows
set_option maxHeartbeats 0 in
theorem PySem.Challenge.cw_thinwood_k87_signs_read_holds : PySem.Challenge.rw_thinwood_k87_signs_read.Holds := by
  w_on; o_law
  refine HandSHeadRun.head_any (r := OpenLaw.row PySem.Challenge.rw_thinwood_k87_signs_read) (q := view (OpenLaw.row PySem.Challenge.rw_thinwood_k87_signs_read).prog [48]) (H := Tw.hk) (ob := Tw.ob) (M := 20000) (loose := Tw.looseL) (d := HandSHeadRun.topDef (OpenLaw.row PySem.Challenge.rw_thinwood_k87_signs_read).prog 48) (kwd := []) Tw.ob_eq
    Tw.z_e Tw.z_f Tw.run Tw.z_def Tw.z_hp Tw.z_hk (by rfl) (by first | assumption | decide +kernel) Tw.z_ok Tw.z_bare Tw.z_w ?hc
  case hc =>
    refine L2.walk_ofE (l := PySem.Challenge.rw_thinwood_k87_signs_read) (n := 63) (k := 12) (x := "_law_script") (CX := L2.CX0) rfl (by decide) (by as_aux_lemma => kernel_rfl) ⟨rfl, by decide, by decide⟩ ?F (fun _ _ _ _ z => z)
    intro w mg fa h Y G hmg0
    obtain ⟨K, KX, c⟩ := Y
    have hmg : mg ("law" : PySem.Str) = some (.ref fa) := by
      have e : (HandSHeadRun.topDef (OpenLaw.row PySem.Challenge.rw_thinwood_k87_signs_read).prog 48).name = ("law" : PySem.Str) := by kernel_rfl
      rw [← e]
      exact hmg0
    have e : fa = He.ga K "law" := by
      have z := hmg.symm.trans (Tw.facts (P := (PySem.Challenge.rw_thinwood_k87_signs_read).prog) (w := w) KX G c h).gl
      exact Value.ref.inj (Option.some.inj z)
    subst e
    obtain ⟨fd, FD⟩ := Tw.binds_law c
    refine ⟨K, fd, Tw.sp_law K, KX, fun s v => FunD.bindsA (ps := ["_law_script"]) FD (fun _ _ _ _ _ _ us hl => match us, hl with | [_], _ => rfl) s [v] rfl, fun H a ns hl _ hS => ⟨a, ns, rfl, hS, hl, fun _ => rfl⟩, fun base KB GB => ?_⟩
    exact Tw.okf_fn (Tw.facts KB GB c base) FD
#print axioms PySem.Challenge.cw_thinwood_k87_signs_read_holds
