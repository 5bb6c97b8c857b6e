import PyProof.Rows.All
import HandS.SetFor
import HandS.ExcValue
import Wide.All
import OpenK.AllK
import Wide.FinOn
import KE.KStateDown
import Lean
import HandS.ForMost
import HandS.ForExc
import HandS.Steps
import HandS.IsInst
import HandS.Wide
import HandS.WideBits
import HandS.Defaults
import HandS.Flow
import HandS.Style
import HandS.ExcIs
import HandS.TryMany
import HandS.Evl
import HandS.Walk
import HandS.Rev
import HandS.Conv
import HandS.RevRange
import HandS.SortInts
import HandS.Head0
import HandS.Head1
import HandS.Head2
import HandS.HeadEnd
import HandS.HeadHook1
import HandS.HeadHook2
import HandS.Deep
import HandS.Lambda
import HandS.HeadHook4
import HandS.HeadWalk
import HandS.Nested
import PySem.Challenge.RW_thinwood_k61_signs_refused
set_option Elab.async false
set_option linter.all false
set_option maxRecDepth 100000
set_option maxHeartbeats 4000000
open PySem PySem.W PySem.Calls PyProof.Rows in
section
namespace Tw
abbrev R0 : PySem.W.OpenRow := PySem.W.OpenLaw.row PySem.Challenge.rw_thinwood_k61_signs_refused
abbrev q0 : PySem.Program := PySem.W.view R0.prog [29]
abbrev d0 : PySem.DefRec := HandSHeadRun.topDef R0.prog 29
open PySem PySem.W PySem.Calls PyProof.Rows
theorem z_e : opening R0.prog = plainProg R0.prog.main.scope.names := by kernel_rfl
theorem z_f : ∀ s, fenceModules? R0.prog s = some s := fun s => by kernel_rfl
theorem z_def : defOf q0 R0.name = some (d0, []) := by kernel_rfl
theorem z_hp : R0.prog.theDef R0.name = some (d0.params, d0.body, d0.scope) := by kernel_rfl
theorem z_hk : kwWritten? d0.params.kwonlyargs d0.params.kw_defaults = some [] := by kernel_rfl
theorem z_ok : (chainsOk q0 && opensWell R0.prog && (frees R0.toRowW && R0.within.isEmpty)) = true := by decide +kernel
theorem z_bare : R0.prog.bare := ⟨rfl, rfl, rfl, rfl, rfl, by decide +kernel⟩
set_option maxHeartbeats 0 in
theorem z_w : R0.toRowW.promised := by w_witness2
end Tw
end
set_option Elab.async false
set_option linter.all false
set_option maxRecDepth 100000
set_option maxHeartbeats 4000000
namespace Tw
open PySem PySem.Spec PyProof.Rows L2
def nmL (l _c : Nat) : Str := ""
def tabL : List Str := []
/-! ### heaps: all that was tracked is as it was, but for code tables, which may have grown -/
class NT (o : HO) : Prop where
  ne : ∀ ps, o ≠ .tbl ps
instance {xs : List V} : NT (.lst xs) := ⟨fun _ z => nomatch z⟩
instance {xs : List V} : NT (.tup xs) := ⟨fun _ z => nomatch z⟩
instance {o : Obj} {u : HO} : NT (.frz o u) := ⟨fun _ z => nomatch z⟩
instance {φ : Heap → Prop} : NT (.ext φ) := ⟨fun _ z => nomatch z⟩
instance {S : Int → Bool} {n : Nat} : NT (.set S n) := ⟨fun _ z => nomatch z⟩
instance {kvs : List (Key × V)} : NT (.dK kvs) := ⟨fun _ z => nomatch z⟩
instance {C dx : Addr} {fs : List (Str × V)} : NT (.ins C dx fs) := ⟨fun _ z => nomatch z⟩
instance {x : Addr} : NT (.own x) := ⟨fun _ z => nomatch z⟩
structure Same (H H' : Hp) : Prop where
  keep : ∀ b o, H b = some o → (∀ ps, o ≠ .tbl ps) → H' b = some o
  gone : ∀ b, H' b = none → H b = none
  tabs : ∀ P, NdefX.TabN H P nmL → NdefX.TabN H' P nmL
theorem Same.get {H H' : Hp} (s : Same H H') {b : Addr} {o : HO} [NT o] (e : H b = some o) : H' b = some o := s.keep b o e NT.ne
theorem Same.of {H H' : Hp} (e : ∀ b o, H b = some o → H' b = some o) : Same H H' := by
  refine ⟨fun b o h _ => e b o h, fun b h => ?_, fun P t => NdefX.TabN.ext t e⟩
  cases q : H b with
  | none => rfl
  | some o => rw [e b o q] at h; cases h
theorem Same.refl (H : Hp) : Same H H := .of fun _ _ h => h
theorem Same.trans {H H1 H2 : Hp} (a : Same H H1) (b : Same H1 H2) : Same H H2 := ⟨fun c o h n => b.keep c o (a.keep c o h n) n, fun c h => a.gone c (b.gone c h), fun P t => b.tabs P (a.tabs P t)⟩
theorem Same.free {H H' : Hp} (e : Same H H') {l : Addr} (h : H' l = Option.none) : H l = Option.none := e.gone l h
theorem Same.seq {K : PySem.W.Frag} {H H' : Hp} {a : Addr} {xs : List V} (e : Same H H') (h : SqL K H a xs) : SqL K H' a xs := by
  rcases h with (h | ⟨o, h⟩) | h
  · exact .inl (.inl (e.get h))
  · exact .inl (.inr ⟨o, e.get h⟩)
  · exact .inr h
theorem same_new {H : Hp} {p : Addr} {o : HO} (h : H p = none) : Same H (upd H p o) := .of fun b x e => by
  rw [upd_ne (ne_of_none e h)]; exact e
/-- an object that H does not know may change -/
theorem Same.mut {H H' : Hp} {p : Addr} {o : HO} (e : Same H H') (h : H p = none) (hl : ∃ xs, H' p = some (.lst xs) := by exact ⟨_, by assumption⟩) : Same H (upd H' p o) := by
  obtain ⟨xs, hl⟩ := hl
  refine ⟨fun b x hb n => by rw [upd_ne (ne_of_none hb h)]; exact e.keep b x hb n, fun b hb => e.gone b (NdefX.upd_none hb), fun P t => ?_⟩
  obtain ⟨ps, h1, ht, hc⟩ := e.tabs P t
  have np : ∀ {b : Addr} {u : HO}, H' b = some u → (∀ xs, u ≠ .lst xs) → b ≠ p := fun {b u} q d z => by
    subst z; rw [hl] at q; cases q; exact d _ rfl
  refine ⟨ps, by rw [upd_ne (np h1 fun _ z => nomatch z)]; exact h1, ht, fun pos cv q => ?_⟩
  obtain ⟨c, e1, e2⟩ := hc pos cv q
  exact ⟨c, e1, by rw [upd_ne (np e2 fun _ z => by unfold LamX.CodeO at z; cases z)]; exact e2⟩
theorem Same.seqT {K : PySem.W.Frag} {H H' : Hp} {a : Addr} {xs : List V} (e : Same H H') (h : SqT K H a xs) : SqT K H' a xs := by
  rcases h with (h | ⟨o, h⟩) | h
  · exact .inl (.inl (e.get h))
  · exact .inl (.inr ⟨o, e.get h⟩)
  · exact .inr h
theorem Same.ne {H : Hp} {a p : Addr} {o : HO} (h : H p = none) (e : H a = some o) : a ≠ p := ne_of_none e h
/-! ### a def by its global name, and its call -/
/-- the def named x keeps the promise sp -/
structure Okf (P : Program) (w : World) (K : PySem.W.Frag) (mg : Str → Option Value) (base : Heap) (CX : CXT) (k : Nat) (x : Str) (ps : List Str) (sp : Sp) : Prop where
  ex : ∃ fd : FuncData, (∃ (oc : Value) (od : Option Addr) (osl : Array (Option Value)), K.lookup (He.ga K x) = some ⟨oc, od, .func fd, osl⟩) ∧ Binds K fd ps [] ∧ FnOk P w K mg base CX k (He.ga K x) fd ps sp
  kp : PySem.W.keepIn K (.ref (He.ga K x)) = true
  gl : mg x = some (.ref (He.ga K x))
theorem FunD.look {K : PySem.W.Frag} {x qual : Str} {params : Arguments} {body : List Stmt} {scope : Scope} {dvs : List V} {kws : List (Str × V)} {f : Addr} {fd : FuncData} (F : FunD K x qual params body scope dvs kws f fd) :
    ∃ (oc : Value) (od : Option Addr) (osl : Array (Option Value)), K.lookup f = some ⟨oc, od, .func fd, osl⟩ := by
  obtain ⟨oc, od, dV, kV, doc, pm, an, cdv, ct, osl, e, lk, _⟩ := F.ex
  exact ⟨oc, od, osl, lk⟩
section
variable {X : Cx} {CX : CXT} {k j : Nat} {ps : List Str} {sp : Sp} {E : XK} {x : Str} {p pos : Pos} {e : Expr} {es : List Expr} {t : TA}
theorem pe_callF (F : Okf X.prog X.w X.K X.mg X.base CX k x ps sp) (hr : Room j X.A) (hk : k ≤ j) (hg : Gl X x) (hx : Passes CX X E)
    (ha : PA X (e :: es) t) (hdb : (x == ("__debug__" : Str)) = false := by decide) (he : starEach (e :: es) X.env = (false, eval e X.env) :: starEach es X.env := by rfl) (hpl : (backTo pos (starEach es X.env)).any (·.1) = false := by rfl) :
    PE X (.Call (.Name x p) (e :: es) [] pos) (tCall sp [] E t) := by
  obtain ⟨fd, _, hb, ok⟩ := F.ex
  exact pe_call ok (hr.mono hk) hg F.gl F.kp hb .nil hx ha hdb he hpl
theorem pe_callF0 (F : Okf X.prog X.w X.K X.mg X.base CX k x ps sp) (hr : Room j X.A) (hk : k ≤ j) (hg : Gl X x) (hx : Passes CX X E)
    (hdb : (x == ("__debug__" : Str)) = false := by decide) : PE X (.Call (.Name x p) [] [] pos) (tCall sp [] E tNil) := by
  obtain ⟨fd, _, hb, ok⟩ := F.ex
  exact pe_call0 ok (hr.mono hk) hg F.gl F.kp hb .nil hx hdb
theorem Okf.imp {P : Program} {w : World} {K : PySem.W.Frag} {mg : Str → Option Value} {base : Heap} {sp' : Sp} (F : Okf P w K mg base CX k x ps sp)
    (h : ∀ vs H Q E, sp' vs H Q E → sp vs H Q E) : Okf P w K mg base CX k x ps sp' := by
  obtain ⟨⟨fd, lk, hb, ok⟩, kp, gl⟩ := F
  exact ⟨⟨fd, lk, hb, ok.imp h⟩, kp, gl⟩
theorem okf_fn {P : Program} {w : World} {K : PySem.W.Frag} {mg : Str → Option Value} {base : Heap} {params : Arguments} {body : List Stmt} {scope : Scope} {qual y : Str} {fd : FuncData} {dvs : List V} {kws : List (Str × V)} (F : Okf P w K mg base CX k x ps sp)
    (FD : FunD K y qual params body scope dvs kws (He.ga K x) fd) : FnOk P w K mg base CX k (He.ga K x) fd ps sp := by
  obtain ⟨⟨fd', ⟨_, _, _, lk'⟩, hb, ok⟩, kp, gl⟩ := F
  obtain ⟨_, _, _, lk⟩ := FunD.look FD
  rw [lk] at lk'
  injection lk' with e
  injection e with _ _ e
  injection e with e
  subst e
  exact ok
/-- a global int, as a constant -/
theorem pe_gint {i : Int} (h : ∃ t, X.mg x = some (.int i t)) (hg : Gl X x) (hd : (x == ("__debug__" : Str)) = false := by decide) : PE X (.Name x pos) (tC (.int i)) := by
  obtain ⟨t, h⟩ := h
  exact pe_glob hg h ⟨_, rfl⟩ hd
/-- a constant that the text reckons -/
theorem pe_cst {v : Int} {te : TE} (h : PE X e te) (hi : ∀ (σ : L2.St) (H : Hp) (Q : VK), Q (.int v) H → te σ H Q) : PE X e (tC (.int v)) :=
  ⟨fun pins s σ H Q I q => h.run pins s σ H Q I (hi σ H Q q)⟩
/-- e & 1 -/
def rAnd1 : R2 := fun x y H Q => ∃ i : Int, x = .int i ∧ y = .int 1 ∧ Q (.int (i % 2)) H
theorem op_and1 : OpR X (binaryOp .BitAnd) rAnd1 := by
  intro pins s σ H x y v u Q I rx ry h
  obtain ⟨i, rfl, rfl, q⟩ := h
  exact op_andM pins s σ H (.int i) (.int (2 ^ 1 - 1)) v u Q I rx ry ⟨i, 1, rfl, rfl, q⟩
/-- isinstance(x, T), T a built-in type's name -/
def rIsB : List V → Hp → VK → Prop := fun xs H Q => ∃ (x : V) (n : String), xs = [x, .ty n] ∧ ∃ (t : String) (b : Bool), (∀ K : PySem.W.Frag, TyX K H x (.type t)) ∧ kitB t n = some b ∧ Q (.bl b) H
theorem call_isB : CallR X (.builtin "isinstance") rIsB := by
  intro pins s σ H xs us Q I r h
  obtain ⟨x, n, rfl, t, b, ty, e, q⟩ := h
  exact call_isi pins s σ H [x, .ty n] us Q I r ⟨x, .ty n, .type t, .type n, b, rfl, .ty n, ty _, kit_ty e, q⟩
end
/-! ### names of the operators' readings -/
abbrev rPlus : R2 := rI0 fun i j => .int (i + j)
abbrev rMinus : R2 := rI0 fun i j => .int (i - j)
abbrev rTimes : R2 := rI CMul fun i j => .int (i * j)
abbrev rDiv : R2 := rI CDiv fun i j => .int (i / j)
abbrev rDivW : R2 := rI CDivW fun i j => .int (i / j)
abbrev rMod : R2 := rI (fun _ j => 0 < j) fun i j => .int (i % j)
abbrev rPow : R2 := rI CPow fun i j => .int (i ^ j.toNat)
abbrev rShl : R2 := rI CPow fun i j => .int (i * 2 ^ j.toNat)
abbrev rShr : R2 := rI (fun _ j => 0 ≤ j) fun i j => .int (i / 2 ^ j.toNat)
abbrev rBitAnd : R2 := rI0 fun i j => .int (Builtin.bitAnd i j)
abbrev rBitOr : R2 := rI0 fun i j => .int (Builtin.bitOr i j)
abbrev rBitXor : R2 := rI0 fun i j => .int (Builtin.bitXor i j)
abbrev rLt : R2 := rI0 fun i j => .bl (decide (i < j))
abbrev rLe : R2 := rI0 fun i j => .bl (decide (i ≤ j))
abbrev rGtI : R2 := rI0 fun i j => .bl (decide (j < i))
abbrev rGeI : R2 := rI0 fun i j => .bl (decide (j ≤ i))
abbrev rShlW : R2 := rI CShl fun i j => .int (i * 2 ^ j.toNat)
def rDivmod : List V → Hp → VK → Prop := fun xs H Q => ∃ i j, xs = [.int i, .int j] ∧ CDivP i j ∧ ∀ p, H p = none → Q (.ref p) (upd H p (.tup [.int (i / j), .int (i % j)]))
abbrev rNeg : V → Hp → VK → Prop := rU fun i => .int (-i)
/-! ### steps of a reading -/
section
variable {D : Ends} {σ : L2.St} {H : Hp} {Q : VK} {Qb : Bool → Hp → Prop} {ta tb te : TE} {t u v : TS} {c d : TT} {i : Nat} {x y z : V} {r : R2} {K : PySem.W.Frag}
theorem k_seq (h : t { D with nx := u D } σ H) : tSeq t u D σ H := h
theorem k_next (h : D.nx σ H) : tNext D σ H := h
theorem k_asg (h : te σ H fun x H1 => D.nx (σ.set i (some x)) H1) : tAsg te (gName i) D σ H := h
theorem k_drop (h : te σ H fun _ H1 => D.nx σ H1) : tDrop te D σ H := h
theorem k_ret (h : te σ H D.rt) : tRet te D σ H := h
theorem k_retN (h : D.rt .non H) : tRetN D σ H := h
theorem k_if (h : c σ H fun b H1 => if b = true then t D σ H1 else u D σ H1) : tIfS c t u D σ H := h
theorem k_var (h : σ[i]? = some (some x)) (q : Q x H) : tVar i σ H Q := ⟨x, h, q⟩
theorem k_c (q : Q x H) : tC x σ H Q := q
theorem k_op (h : ta σ H fun x H1 => tb σ H1 fun y H2 => r x y H2 Q) : tOp r ta tb σ H Q := h
theorem k_un {r : V → Hp → VK → Prop} (h : ta σ H fun x H1 => r x H1 Q) : tUn r ta σ H Q := h
theorem k_I0 {g : Int → Int → V} {a b : Int} (q : Q (g a b) H) : rI0 g (.int a) (.int b) H Q := ⟨a, b, rfl, rfl, q⟩
theorem k_I {C : Int → Int → Prop} {g : Int → Int → V} {a b : Int} (hc : C a b) (q : Q (g a b) H) : rI C g (.int a) (.int b) H Q := ⟨a, b, rfl, rfl, hc, q⟩
theorem k_U {g : Int → V} {a : Int} (q : Q (g a) H) : rU g (.int a) H Q := ⟨a, rfl, q⟩
theorem k_and1 {a : Int} (q : Q (.int (a % 2)) H) : rAnd1 (.int a) (.int 1) H Q := ⟨a, rfl, rfl, q⟩
theorem k_eqI {a b : Int} (q : Q (.bl (decide (a = b))) H) : rEq (.int a) (.int b) H Q := ⟨rfl, by
  have e : decide ((V.int a : V) = V.int b) = decide (a = b) := by simp
  rw [e]; exact q⟩
theorem k_neI {a b : Int} (q : Q (.bl (!decide (a = b))) H) : rNe (.int a) (.int b) H Q := ⟨rfl, by
  have e : decide ((V.int a : V) = V.int b) = decide (a = b) := by simp
  rw [e]; exact q⟩
theorem k_eq (hs : scal x y = true) (q : Q (.bl (decide (x = y))) H) : rEq x y H Q := ⟨hs, q⟩
theorem k_ne (hs : scal x y = true) (q : Q (.bl (!decide (x = y))) H) : rNe x y H Q := ⟨hs, q⟩
theorem k_isN (q : Q (.bl (decide (x = .non))) H) : rIsN x .non H Q := ⟨rfl, q⟩
theorem k_notN (q : Q (.bl (!decide (x = .non))) H) : rNotN x .non H Q := ⟨rfl, q⟩
def BlK (Qb : Bool → Hp → Prop) (x : V) (H : Hp) : Prop := ∃ k, x = .bl k ∧ Qb k H
theorem k_test (h : te σ H (BlK Qb)) : tTest te σ H Qb := h
theorem k_tB (h : te σ H (BlK Qb)) : tB te σ H Qb := h
theorem k_bl {b : Bool} (q : Qb b H) : BlK Qb (V.bl b) H := ⟨b, rfl, q⟩
theorem k_and (h : c σ H fun b H1 => if b = true then d σ H1 Qb else Qb false H1) : tAnd c d σ H Qb := h
theorem k_or (h : c σ H fun b H1 => if b = true then Qb true H1 else d σ H1 Qb) : tOr c d σ H Qb := h
theorem k_not (h : c σ H fun b H1 => Qb (!b) H1) : tNot c σ H Qb := h
def ChainK (Q : VK) (u : Hp → Prop) (z : V) (H : Hp) : Prop := ∃ k, z = .bl k ∧ (if k = true then u H else Q (.bl false) H)
theorem k_chain {r' : R2} {tc : TE} (h : ta σ H fun x H1 => tb σ H1 fun y H2 => r x y H2 (ChainK Q fun H3 => tc σ H3 fun w H4 => r' y w H4 Q)) : tChain r r' ta tb tc σ H Q := h
theorem k_chainE {u : Hp → Prop} {b : Bool} (h : if b = true then u H else Q (.bl false) H) : ChainK Q u (.bl b) H := ⟨b, rfl, h⟩
theorem k_andV (h : ta σ H (BlK fun k H1 => if k = true then tb σ H1 Q else Q (.bl false) H1)) : tAndV ta tb σ H Q := h
theorem k_orV (h : ta σ H (BlK fun k H1 => if k = true then Q (.bl true) H1 else tb σ H1 Q)) : tOrV ta tb σ H Q := h
theorem k_notV (h : ta σ H (BlK fun k H1 => Q (.bl (!k)) H1)) : tNotV ta σ H Q := h
theorem k_ifE (h : c σ H fun b H1 => if b = true then ta σ H1 Q else tb σ H1 Q) : tIf c ta tb σ H Q := h
theorem k_cons {Qv : List V → Hp → Prop} {tr : TA} (h : ta σ H fun x H1 => tr σ H1 fun xs H2 => Qv (x :: xs) H2) : tCons ta tr σ H Qv := h
theorem k_nil {Qv : List V → Hp → Prop} (h : Qv [] H) : tNil σ H Qv := h
theorem k_call {sp : Sp} {dvs : List V} {E : XK} {tr : TA} (h : tr σ H fun vs H1 => sp (vs ++ dvs) H1 Q E) : tCall sp dvs E tr σ H Q := h
theorem k_cb {rc : List V → Hp → VK → Prop} {tr : TA} (h : tr σ H fun vs H1 => rc vs H1 Q) : tCB rc tr σ H Q := h
theorem k_tup {tr : TA} (h : tr σ H fun xs H1 => xs.length ≤ sizeLine ∧ ∀ p, H1 p = none → Q (.ref p) (upd H1 p (.tup xs))) : tTup tr σ H Q := h
theorem k_lst {tr : TA} (h : tr σ H fun xs H1 => xs.length ≤ sizeLine ∧ ∀ p, H1 p = none → Q (.ref p) (upd H1 p (.lst xs))) : tLst tr σ H Q := h
theorem k_disp {A : Prop} {xs : List V} (h : xs.length ≤ 1000) (q : A) : xs.length ≤ sizeLine ∧ A := ⟨Nat.le_trans h (by decide), q⟩
theorem k_aug {ti : TIp} (hx : σ[i]? = some (some x)) (h : te σ H fun y H1 => ti x y H1 fun z H2 => D.nx (σ.set i (some z)) H2) : tAug i te ti D σ H := ⟨x, hx, h⟩
theorem k_ipI {f : Int → Int → Int} {a b : Int} (q : Q (.int (f a b)) H) : ipI f (.int a) (.int b) H Q := ⟨a, b, rfl, rfl, q⟩
theorem k_sl {rs : V → Option Int → Option Int → Hp → VK → Prop} {tl th : TO} (h : te σ H fun x H1 => tl σ H1 fun l H2 => th σ H2 fun u H3 => rs x l u H3 Q) : tSl rs te tl th σ H Q := h
def PartK (Qo : Option Int → Hp → Prop) (x : V) (H : Hp) : Prop := ∃ j, x = .int j ∧ Qo (some j) H
theorem k_part {Qo : Option Int → Hp → Prop} (h : te σ H (PartK Qo)) : tPart te σ H Qo := h
theorem k_partE {Qo : Option Int → Hp → Prop} {a : Int} (h : Qo (some a) H) : PartK Qo (.int a) H := ⟨a, rfl, h⟩
theorem k_noPart {Qo : Option Int → Hp → Prop} (h : Qo none H) : tNoPart σ H Qo := h
theorem k_bm {T : String} {rm : V → List V → Hp → VK → Prop} {tr : TA} (h : te σ H fun x H1 => tyV K T x H1 ∧ tr σ H1 fun xs H2 => rm x xs H2 Q) : tBM K T rm te tr σ H Q := h
theorem k_bm0 {T : String} {rm : V → List V → Hp → VK → Prop} (h : te σ H fun x H1 => tyV K T x H1 ∧ rm x [] H1 Q) : tBM0 K T rm te σ H Q := h
theorem k_app {l : Addr} {xs : List V} (h : H l = some (.lst xs)) (hl : xs.length < 100000) (q : Q .non (upd H l (.lst (xs ++ [y])))) : rAppend (.ref l) [y] H Q := ⟨l, xs, y, rfl, rfl, h, Nat.lt_of_lt_of_le hl (by decide), q⟩
theorem k_tyL {l : Addr} {xs : List V} {A : Prop} (h : SqL K H l xs) (q : A) : tyV K "list" (.ref l) H ∧ A := ⟨.inl ⟨rfl, _, h⟩, q⟩
theorem k_ixL {p : Addr} {xs : List V} {a : Int} (h : SqL K H p xs) (e : atI xs a = some x) (q : Q x H) : rIxL K (.ref p) (.int a) H Q := ⟨p, xs, a, x, rfl, rfl, h, e, q⟩
theorem k_ixT {p : Addr} {xs : List V} {a : Int} (h : SqT K H p xs) (e : atI xs a = some x) (q : Q x H) : rIxT K (.ref p) (.int a) H Q := ⟨p, xs, a, x, rfl, rfl, h, e, q⟩
theorem k_slL {p : Addr} {xs : List V} {lo hi : Option Int} (h : SqL K H p xs) (q : ∀ l, H l = none → Q (.ref l) (upd H l (.lst (cutV xs lo hi)))) : rSlL K (.ref p) lo hi H Q := ⟨p, xs, rfl, h, q⟩
def rLen (K : PySem.W.Frag) : List V → Hp → VK → Prop := fun xs H Q => ∃ p ys, xs = [.ref p] ∧ (SqL K H p ys ∨ SqT K H p ys) ∧ Q (.int ys.length) H
theorem call_lenK {X : Cx} : CallR X (.builtin "len") (rLen X.K) := call_len_seq
theorem k_lenL {p : Addr} {xs : List V} (h : SqL K H p xs) (q : Q (.int (xs.length : Int)) H) : rLen K [.ref p] H Q := ⟨p, xs, rfl, .inl h, q⟩
theorem k_lenT {p : Addr} {xs : List V} (h : SqT K H p xs) (q : Q (.int (xs.length : Int)) H) : rLen K [.ref p] H Q := ⟨p, xs, rfl, .inr h, q⟩
def rInsert : V → List V → Hp → VK → Prop := fun x vs H Q => ∃ (l : Addr) (xs : List V) (i : Int) (y : V), x = .ref l ∧ vs = [.int i, y] ∧ H l = some (.lst xs) ∧ xs.length < sizeLine ∧ 0 ≤ i ∧ i < 2 ^ 63 ∧ Q .non (upd H l (.lst (xs.take i.toNat ++ [y] ++ xs.drop i.toNat)))
theorem k_insert {l : Addr} {xs : List V} {i : Nat} (h : H l = some (.lst xs)) (hz : xs.length ≤ 100000) (hi : i ≤ 100000) (q : Q .non (upd H l (.lst (xs.take i ++ [y] ++ xs.drop i)))) : rInsert (.ref l) [.int (i : Int), y] H Q := ⟨l, xs, i, y, rfl, rfl, h, Nat.lt_of_le_of_lt hz (by decide), by omega, by omega, by rw [Int.toNat_natCast]; exact q⟩
theorem k_popAt {l : Addr} {xs : List V} {i : Nat} (h : H l = some (.lst xs)) (hi : i < xs.length) (hz : xs.length ≤ 100000) (e : xs[i]? = some y) (q : Q y (upd H l (.lst (xs.eraseIdx i)))) : rPopAt (.ref l) [.int (i : Int)] H Q := ⟨l, xs, i, i, y, rfl, rfl, h, by omega, by omega, by unfold PySem.seqIndex?; simp; omega, e, q⟩
theorem k_clear {l : Addr} {xs : List V} (h : H l = some (.lst xs)) (q : Q .non (upd H l (.lst []))) : rClear (.ref l) [] H Q := ⟨l, xs, rfl, rfl, h, q⟩
theorem k_extend {l b : Addr} {xs zs : List V} (h : H l = some (.lst xs)) (h2 : H b = some (.lst zs)) (hn : xs.length + zs.length ≤ 1000000) (q : Q .non (upd H l (.lst (xs ++ zs)))) : rExtend (.ref l) [.ref b] H Q := ⟨l, b, xs, zs, rfl, rfl, h, h2, Nat.le_trans hn (by decide), q⟩
theorem k_pop {l : Addr} {xs : List V} (h : H l = some (.lst (xs ++ [y]))) (q : Q y (upd H l (.lst xs))) : rPop (.ref l) [] H Q := ⟨l, xs ++ [y], y, rfl, rfl, h, by simp, by rw [List.dropLast_concat]; exact q⟩
def rInt1 : List V → Hp → VK → Prop := fun xs H Q => (∃ i, xs = [.int i] ∧ Q (.int i) H) ∨ ∃ k : Bool, xs = [.bl k] ∧ Q (.int (if k then 1 else 0)) H
theorem k_intB {k : Bool} (q : Q (.int (if k then 1 else 0)) H) : rInt1 [.bl k] H Q := .inr ⟨k, rfl, q⟩
def rTupOf (K : PySem.W.Frag) : List V → Hp → VK → Prop := fun xs H Q => ∃ p ys, xs = [.ref p] ∧ ((SqL K H p ys ∧ ∀ l, H l = none → Q (.ref l) (upd H l (.tup ys))) ∨ (SqT K H p ys ∧ Q (.ref p) H))
theorem call_tupK {X : Cx} : CallR X (.type "tuple") (rTupOf X.K) := call_tuple_of
theorem k_tupL {p : Addr} {xs : List V} (h : SqL K H p xs) (q : ∀ l, H l = none → Q (.ref l) (upd H l (.tup xs))) : rTupOf K [.ref p] H Q := ⟨p, xs, rfl, .inl ⟨h, q⟩⟩
def rLenStr : List V → Hp → VK → Prop := fun xs H Q => ∃ z : Str, xs = [.str z] ∧ z.length ≤ sizeLine ∧ Q (.int z.length) H
def rAddStr : R2 := fun x y H Q => ∃ i j : Str, x = .str i ∧ y = .str j ∧ i.length + j.length ≤ sizeLine ∧ Q (.str (i ++ j)) H
def rAbs : List V → Hp → VK → Prop := fun xs H Q => ∃ i, xs = [.int i] ∧ Q (.int (if i < 0 then -i else i)) H
theorem k_abs {a : Int} (q : Q (.int (if a < 0 then -a else a)) H) : rAbs [.int a] H Q := ⟨a, rfl, q⟩
def rMin2 : List V → Hp → VK → Prop := fun xs H Q => ∃ i j, xs = [.int i, .int j] ∧ Q (.int (if j < i then j else i)) H
def rMax2 : List V → Hp → VK → Prop := fun xs H Q => ∃ i j, xs = [.int i, .int j] ∧ Q (.int (if j > i then j else i)) H
theorem call_min2K {X : Cx} (hc : X.calm = true) : CallR X (.builtin "min") rMin2 := call_min2 hc
theorem call_max2K {X : Cx} (hc : X.calm = true) : CallR X (.builtin "max") rMax2 := call_max2 hc
theorem k_min2 {a b : Int} (q : Q (.int (if b < a then b else a)) H) : rMin2 [.int a, .int b] H Q := ⟨a, b, rfl, q⟩
theorem k_max2 {a b : Int} (q : Q (.int (if b > a then b else a)) H) : rMax2 [.int a, .int b] H Q := ⟨a, b, rfl, q⟩
def rListOf (K : PySem.W.Frag) : List V → Hp → VK → Prop := fun xs H Q => ∃ p ys, xs = [.ref p] ∧ (SqL K H p ys ∨ SqT K H p ys) ∧ ∀ l, H l = none → Q (.ref l) (upd H l (.lst ys))
theorem call_listK {X : Cx} : CallR X (.type "list") (rListOf X.K) := call_list_of
theorem k_listL {p : Addr} {xs : List V} (h : SqL K H p xs) (q : ∀ l, H l = none → Q (.ref l) (upd H l (.lst xs))) : rListOf K [.ref p] H Q := ⟨p, xs, rfl, .inl h, q⟩
theorem k_sum {p : Addr} {ns : List Int} (h : SqL K H p (ns.map V.int)) (q : Q (.int ns.sum) H) : rSum K [.ref p] H Q := ⟨p, ns, rfl, h, q⟩
theorem k_isInt {a : Int} (q : Q (.bl true) H) : rIsB [.int a, .ty "int"] H Q := ⟨.int a, "int", rfl, "int", true, fun _ => .base (.int a), by decide +kernel, q⟩
theorem k_isBool {a : Int} (q : Q (.bl false) H) : rIsB [.int a, .ty "bool"] H Q := ⟨.int a, "bool", rfl, "int", false, fun _ => .base (.int a), by decide +kernel, q⟩
theorem k_isBoolB {b : Bool} (q : Q (.bl true) H) : rIsB [.bl b, .ty "bool"] H Q := ⟨.bl b, "bool", rfl, "bool", true, fun _ => .base (.bl b), by decide +kernel, q⟩
theorem k_isIntB {b : Bool} (q : Q (.bl true) H) : rIsB [.bl b, .ty "int"] H Q := ⟨.bl b, "int", rfl, "bool", true, fun _ => .base (.bl b), by decide +kernel, q⟩
theorem k_isIntN (q : Q (.bl false) H) : rIsB [.non, .ty "int"] H Q := ⟨.non, "int", rfl, "NoneType", false, fun _ => .base .non, by decide +kernel, q⟩
theorem k_isList {a : Addr} {xs : List V} (h : H a = some (.lst xs)) (q : Q (.bl true) H) : rIsB [.ref a, .ty "list"] H Q := ⟨.ref a, "list", rfl, "list", true, fun _ => .base (.lst h), by decide +kernel, q⟩
theorem k_isTup {a : Addr} {xs : List V} (h : H a = some (.tup xs)) (q : Q (.bl true) H) : rIsB [.ref a, .ty "tuple"] H Q := ⟨.ref a, "tuple", rfl, "tuple", true, fun _ => .base (.tup h), by decide +kernel, q⟩
/-! ends -/
theorem k_nx {nx : L2.St → Hp → Prop} {rt : VK} {bk ct : L2.St → Hp → Prop} (h : nx σ H) : (Ends.mk nx rt bk ct).nx σ H := h
theorem k_rt {nx : L2.St → Hp → Prop} {rt : VK} {bk ct : L2.St → Hp → Prop} (h : rt x H) : (Ends.mk nx rt bk ct).rt x H := h
/-! ifs -/
theorem k_dec {p A B : Prop} [Decidable p] (h1 : p → A) (h2 : ¬ p → B) : if decide p = true then A else B := by
  by_cases h : p
  · rw [if_pos (decide_eq_true h)]; exact h1 h
  · rw [if_neg (fun z => h (of_decide_eq_true z))]; exact h2 h
theorem k_ndec {p A B : Prop} [Decidable p] (h1 : ¬ p → A) (h2 : p → B) : if (!decide p) = true then A else B := by
  by_cases h : p
  · rw [if_neg (by rw [decide_eq_true h]; decide)]; exact h2 h
  · rw [if_pos (by rw [decide_eq_false h]; decide)]; exact h1 h
theorem k_decT {p A B : Prop} [Decidable p] (h : p) (q : A) : if decide p = true then A else B := k_dec (fun _ => q) (fun z => absurd h z)
theorem k_decF {p A B : Prop} [Decidable p] (h : ¬ p) (q : B) : if decide p = true then A else B := k_dec (fun z => absurd z h) (fun _ => q)
theorem k_ndecT {p A B : Prop} [Decidable p] (h : p) (q : B) : if (!decide p) = true then A else B := k_ndec (fun z => absurd h z) (fun _ => q)
theorem k_ndecF {p A B : Prop} [Decidable p] (h : ¬ p) (q : A) : if (!decide p) = true then A else B := k_ndec (fun _ => q) (fun z => absurd z h)
theorem k_yes (h : Qb true H) : tYes σ H Qb := h
theorem k_T {A B : Prop} (q : A) : if true = true then A else B := iteT q
theorem k_F {A B : Prop} (q : B) : if false = true then A else B := iteF q
theorem k_nT {A B : Prop} (q : B) : if (!true) = true then A else B := iteF q
theorem k_nF {A B : Prop} (q : A) : if (!false) = true then A else B := iteT q
end
/-! ### items -/
theorem at_nat {α : Type} {xs : List α} {i : Nat} {x : α} (h : xs[i]? = some x) : atI xs (i : Int) = some x := atI_nat h
theorem at_int {α : Type} {xs : List α} {i : Int} {x : α} (h0 : 0 ≤ i) (h : xs[i.toNat]? = some x) : atI xs i = some x := by
  have e : i = ((i.toNat : Nat) : Int) := by omega
  rw [e]; exact atI_nat h
theorem mapint {ns : List Int} {i : Nat} {n : Int} (h : ns[i]? = some n) : (ns.map V.int)[i]? = some (.int n) := by
  rw [List.getElem?_map, h]; rfl
theorem of_mapint {ns : List Int} {i : Nat} {v : V} (h : (ns.map V.int)[i]? = some v) : ∃ n, ns[i]? = some n ∧ v = .int n := by
  rw [List.getElem?_map] at h
  cases e : ns[i]? with
  | none => rw [e] at h; cases h
  | some n => rw [e] at h; exact ⟨n, rfl, (Option.some.inj h).symm⟩
theorem cutTake (xs : List V) (n : Nat) : cutV xs none (some (n : Int)) = xs.take n := by
  unfold cutV
  rw [HT.sIx_none, HT.sIx_nat, List.drop_zero, Nat.sub_zero]
  rcases Nat.le_total n xs.length with h | h
  · rw [Nat.min_eq_left h]
  · rw [Nat.min_eq_right h, List.take_length, List.take_of_length_le h]
/-! ### steps on ends that are written out; loops -/
section
variable {σ : L2.St} {H : Hp} {Q rt : VK} {nx bk ct : L2.St → Hp → Prop} {t u tb : TS} {g : TG} {wi : TI} {c : TT} {i : Nat} {x : V} {K : PySem.W.Frag}
theorem m_seq (h : t (Ends.mk (u (Ends.mk nx rt bk ct)) rt bk ct) σ H) : tSeq t u (Ends.mk nx rt bk ct) σ H := h
theorem m_cut (Mid : L2.St → Hp → Prop) (h : t (Ends.mk Mid rt bk ct) σ H) (k : ∀ σ' H', Mid σ' H' → u (Ends.mk nx rt bk ct) σ' H') : Evl.tCut t u (Ends.mk nx rt bk ct) σ H := ⟨Mid, h, k⟩
theorem m_cut0 (h : t (Ends.mk (u (Ends.mk nx rt bk ct)) rt bk ct) σ H) : Evl.tCut t u (Ends.mk nx rt bk ct) σ H := ⟨_, h, fun _ _ x => x⟩
theorem m_bk (h : bk σ H) : tBreak (Ends.mk nx rt bk ct) σ H := h
theorem m_ct (h : ct σ H) : tCont (Ends.mk nx rt bk ct) σ H := h
theorem m_next (h : nx σ H) : tNext (Ends.mk nx rt bk ct) σ H := h
theorem m_gName {Qs : L2.St → Hp → Prop} (h : Qs (σ.set i (some x)) H) : gName i x σ H Qs := h
theorem m_call {sp : Sp} {E : XK} {tr : TA} (h : tr σ H fun vs H1 => sp vs H1 Q E) : tCall sp [] E tr σ H Q := by
  have e : (fun (vs : List V) (H1 : Hp) => sp (vs ++ []) H1 Q E) = fun vs H1 => sp vs H1 Q E := by
    funext vs H1; rw [List.append_nil]
  show tr σ H fun vs H1 => sp (vs ++ []) H1 Q E
  rw [e]; exact h
/-- a for loop over what J yields -/
def LoopOk (J : It) (g : TG) (tb : TS) (nx : L2.St → Hp → Prop) (rt : VK) (σ : L2.St) (H : Hp) : Prop :=
  ∃ W : Nat → Nat → L2.St → Hp → Prop, (∃ m, W 0 m σ H) ∧ ∀ i m σ H, W i m σ H →
  (J.stop i H ∧ nx σ H) ∨ (J.go i H ∧ ∃ N : L2.St → Hp → Prop, (∀ σ' H', N σ' H' → ∃ m', m' < m ∧ W (i + 1) m' σ' H') ∧ ∀ x H', J.yld i H x H' → g x σ H' fun σ2 H2 => tb (Ends.mk N rt nx N) σ2 H2)
theorem m_for (h : wi σ H fun J H1 => LoopOk J g tb nx rt σ H1) : tFor wi g tb (Ends.mk nx rt bk ct) σ H := h
def Rng1K (R : It → Hp → Prop) (vs : List V) (H : Hp) : Prop := ∃ j : Int, vs = [.int j] ∧ -(2 ^ 62) ≤ j ∧ j < 2 ^ 62 ∧ R (Itr 0 j.toNat) H
theorem m_rng1 {ta : TA} {R : It → Hp → Prop} (h : ta σ H (Rng1K R)) : iRng1 ta σ H R := h
theorem m_rng1e {R : It → Hp → Prop} {a : Int} (h1 : -(2 ^ 62) ≤ a ∧ a < 2 ^ 62) (h : R (Itr 0 a.toNat) H) : Rng1K R [V.int a] H := ⟨a, rfl, h1.1, h1.2, h⟩
theorem m_rng1n {R : It → Hp → Prop} {a : Nat} (h1 : (a : Int) < 2 ^ 62) (h : R (Itr 0 a) H) : Rng1K R [V.int (a : Int)] H := ⟨a, rfl, by omega, h1, by rw [Int.toNat_natCast]; exact h⟩
def Rng2K (R : It → Hp → Prop) (vs : List V) (H : Hp) : Prop := ∃ i j : Int, vs = [.int i, .int j] ∧ (-(2 ^ 62) ≤ i ∧ i < 2 ^ 62 ∧ -(2 ^ 62) ≤ j ∧ j < 2 ^ 62) ∧ R (Itr i (j - i).toNat) H
theorem m_rng2 {ta : TA} {R : It → Hp → Prop} (h : ta σ H (Rng2K R)) : iRng2 ta σ H R := h
theorem m_rng2e {R : It → Hp → Prop} {a b : Int} (h1 : -(2 ^ 62) ≤ a ∧ a < 2 ^ 62 ∧ -(2 ^ 62) ≤ b ∧ b < 2 ^ 62) (h : R (Itr a (b - a).toNat) H) : Rng2K R [V.int a, V.int b] H := ⟨a, b, rfl, h1, h⟩
def ListK (K : PySem.W.Frag) (R : It → Hp → Prop) (x : V) (H : Hp) : Prop := ∃ a, x = .ref a ∧ (∃ xs, SqL K H a xs) ∧ R (Itl K a) H
theorem m_iL {tl : TE} {R : It → Hp → Prop} (h : tl σ H (ListK K R)) : iList K tl σ H R := h
theorem m_iLe {R : It → Hp → Prop} {a : Addr} {xs : List V} (hx : SqL K H a xs) (h : R (Itl K a) H) : ListK K R (V.ref a) H := ⟨a, rfl, ⟨xs, hx⟩, h⟩
def TupK (K : PySem.W.Frag) (R : It → Hp → Prop) (x : V) (H : Hp) : Prop := ∃ a, x = .ref a ∧ (∃ xs, SqT K H a xs) ∧ R (Itt K a) H
theorem m_iT {tl : TE} {R : It → Hp → Prop} (h : tl σ H (TupK K R)) : iTup K tl σ H R := h
theorem m_iTe {R : It → Hp → Prop} {a : Addr} {xs : List V} (hx : SqT K H a xs) (h : R (Itt K a) H) : TupK K R (V.ref a) H := ⟨a, rfl, ⟨xs, hx⟩, h⟩
def iSeq (K : PySem.W.Frag) (tl : TE) : TI := fun σ H R => iList K tl σ H R ∨ iTup K tl σ H R
theorem m_seqL {tl : TE} {R : It → Hp → Prop} (h : tl σ H (ListK K R)) : iSeq K tl σ H R := .inl h
theorem m_seqT {tl : TE} {R : It → Hp → Prop} (h : tl σ H (TupK K R)) : iSeq K tl σ H R := .inr h
theorem pi_seq {X : Cx} {tg l : Expr} {tl : TE} (hl : PE X l tl) : PI X tg l (iSeq X.K tl) := ⟨fun pins s σ H R I h => h.elim (fun h => (pi_list hl).run pins s σ H R I h) fun h => (pi_tup hl).run pins s σ H R I h⟩
theorem loop_range {lo : Int} {n : Nat} (Pv : Nat → L2.St → Hp → Prop) (h0 : Pv 0 σ H)
    (hs : ∀ i σ H, i < n → Pv i σ H → g (.int (lo + i)) σ H fun σ2 H2 => tb (Ends.mk (Pv (i + 1)) rt nx (Pv (i + 1))) σ2 H2) (hd : ∀ σ H, Pv n σ H → nx σ H) : LoopOk (Itr lo n) g tb nx rt σ H :=
  for_range (D := Ends.mk nx rt nx nx) Pv h0 hs hd
theorem loop_range0 {n : Nat} (Pv : Nat → L2.St → Hp → Prop) (h0 : Pv 0 σ H)
    (hs : ∀ (i : Nat) σ H, i < n → Pv i σ H → g (.int (i : Int)) σ H fun σ2 H2 => tb (Ends.mk (Pv (i + 1)) rt nx (Pv (i + 1))) σ2 H2) (hd : ∀ σ H, Pv n σ H → nx σ H) : LoopOk (Itr 0 n) g tb nx rt σ H :=
  loop_range Pv h0 (fun i σ H hi p => by rw [Int.zero_add]; exact hs i σ H hi p) hd
theorem loop_list {a : Addr} {xs : List V} (Pv : Nat → L2.St → Hp → Prop) (h0 : Pv 0 σ H) (hl : ∀ i σ H, i ≤ xs.length → Pv i σ H → SqL K H a xs)
    (hs : ∀ i x σ H, xs[i]? = some x → Pv i σ H → g x σ H fun σ2 H2 => tb (Ends.mk (Pv (i + 1)) rt nx (Pv (i + 1))) σ2 H2) (hd : ∀ σ H, Pv xs.length σ H → nx σ H) : LoopOk (Itl K a) g tb nx rt σ H :=
  for_list (D := Ends.mk nx rt nx nx) Pv h0 hl hs hd
/-- over a list of ints -/
theorem loop_ints {a : Addr} {ns : List Int} (Pv : Nat → L2.St → Hp → Prop) (h0 : Pv 0 σ H) (hl : ∀ i σ H, Pv i σ H → SqL K H a (ns.map V.int))
    (hs : ∀ i n σ H, ns[i]? = some n → Pv i σ H → g (.int n) σ H fun σ2 H2 => tb (Ends.mk (Pv (i + 1)) rt nx (Pv (i + 1))) σ2 H2) (hd : ∀ σ H, Pv ns.length σ H → nx σ H) : LoopOk (Itl K a) g tb nx rt σ H :=
  loop_list (xs := ns.map V.int) Pv h0 (fun i σ H _ p => hl i σ H p) (fun i x σ H hx p => by
    obtain ⟨n, hn, rfl⟩ := of_mapint hx
    exact hs i n σ H hn p) (fun σ H p => hd σ H (by rw [List.length_map] at p; exact p))
theorem loop_tup {a : Addr} {xs : List V} (Pv : Nat → L2.St → Hp → Prop) (h0 : Pv 0 σ H) (hl : ∀ i σ H, i ≤ xs.length → Pv i σ H → SqT K H a xs)
    (hs : ∀ i x σ H, xs[i]? = some x → Pv i σ H → g x σ H fun σ2 H2 => tb (Ends.mk (Pv (i + 1)) rt nx (Pv (i + 1))) σ2 H2) (hd : ∀ σ H, Pv xs.length σ H → nx σ H) : LoopOk (Itt K a) g tb nx rt σ H :=
  for_tup (D := Ends.mk nx rt nx nx) Pv h0 hl hs hd
def WBody (W : Nat → L2.St → Hp → Prop) (m : Nat) (tb : TS) (rt : VK) (nx : L2.St → Hp → Prop) (σ : L2.St) (H : Hp) : Prop :=
  ∃ N : L2.St → Hp → Prop, (∀ σ' H', N σ' H' → ∃ m', m' < m ∧ W m' σ' H') ∧ tb (Ends.mk N rt nx N) σ H
theorem m_wbody {W : Nat → L2.St → Hp → Prop} {m : Nat} (h : tb (Ends.mk (fun σ' H' => ∃ m', m' < m ∧ W m' σ' H') rt nx (fun σ' H' => ∃ m', m' < m ∧ W m' σ' H')) σ H) : WBody W m tb rt nx σ H := ⟨_, fun _ _ h => h, h⟩
theorem loop_while (W : Nat → L2.St → Hp → Prop) (m : Nat) (h0 : W m σ H)
    (hs : ∀ m σ H, W m σ H → c σ H fun b H1 => if b = true then WBody W m tb rt nx σ H1 else nx σ H1) : tWhile c tb (Ends.mk nx rt bk ct) σ H := ⟨W, ⟨m, h0⟩, hs⟩
/-- a comprehension over what J yields -/
def CompOk (J : It) (g : TG) (tt : TT) (te : TE) (vs : List Nat) (σ : L2.St) (H1 : Hp) (Q : VK) : Prop :=
  ∀ D, H1 D = none → ∃ W : Nat → Nat → Hp → Prop, (∃ m, W 0 m (upd H1 D (.lst []))) ∧ ∀ i m H, W i m H →
  (J.stop i H ∧ Q (.ref D) H) ∨ (J.go i H ∧ ∃ Nx : Hp → Prop, (∀ H', Nx H' → ∃ m', m' < m ∧ W (i + 1) m' H') ∧ ∀ x H', J.yld i H x H' → g x (wipe σ vs) H' fun σ2 H2 => wipe σ2 vs = wipe σ vs ∧ tt σ2 H2 fun b H3 =>
    if b = true then te σ2 H3 fun y H4 => ∃ acc, H4 D = some (.lst acc) ∧ acc.length < sizeLine ∧ Nx (upd H4 D (.lst (acc ++ [y]))) else Nx H3)
theorem m_lc {tt : TT} {te : TE} {vs : List Nat} (h : wi σ H fun J H1 => CompOk J g tt te vs σ H1 Q) : tLc wi g tt te vs σ H Q := h
/-- over a range, no test, pure elements f i: the list made -/
theorem comp_rangeV {n : Nat} {te : TE} {j : Nat} {f : Nat → V} (hn : n ≤ 100000)
    (he : ∀ (k : Nat) (H2 : Hp) (Q2 : VK), k < n → Same H H2 → (∀ H3, Same H2 H3 → Q2 (f k) H3) → te ((wipe σ [j]).set j (some (.int (k : Int)))) H2 Q2)
    (q : ∀ p H', H p = none → Same H H' → H' p = some (.lst ((List.range n).map f)) → Q (.ref p) H') (hw : ∀ x, wipe ((wipe σ [j]).set j (some x)) [j] = wipe σ [j] := by intro _; rfl) : CompOk (Itr 0 n) (gName j) tYes te [j] σ H Q := by
  intro Dl hD
  refine lc_range (lo := 0) (n := n) (fun i H' => Same H H' ∧ H' Dl = some (.lst ((List.range i).map f))) ⟨same_new hD, upd_same⟩ (fun i H' hi p => ?_) (fun H' p => q Dl H' hD p.1 p.2)
  obtain ⟨p1, p2⟩ := p
  refine ⟨hw _, ?_⟩
  refine k_yes (iteT ?_)
  rw [Int.zero_add]
  refine he i H' _ hi p1 (fun H3 s3 => ⟨_, s3.get p2, ?_, Same.mut (p1.trans s3) hD ⟨_, s3.get p2⟩, ?_⟩)
  · rw [List.length_map, List.length_range]; exact Nat.lt_of_lt_of_le (Nat.lt_of_lt_of_le hi hn) (by decide)
  · rw [upd_same, List.range_succ, List.map_append]; rfl
/-- over a list, no test, pure elements -/
theorem comp_listV {a : Addr} {xs ys : List V} {te : TE} {j : Nat} (hl : SqL K H a xs) (hn : xs.length ≤ 100000) (hy : ys.length = xs.length)
    (he : ∀ (k : Nat) (x y : V) (H2 : Hp) (Q2 : VK), xs[k]? = some x → ys[k]? = some y → Same H H2 → (∀ H3, Same H2 H3 → Q2 y H3) → te ((wipe σ [j]).set j (some x)) H2 Q2)
    (q : ∀ p H', H p = none → Same H H' → H' p = some (.lst ys) → Q (.ref p) H') (hw : ∀ x, wipe ((wipe σ [j]).set j (some x)) [j] = wipe σ [j] := by intro _; rfl) : CompOk (Itl K a) (gName j) tYes te [j] σ H Q := by
  intro Dl hD
  refine lc_list (xs := xs) (fun i H' => Same H H' ∧ H' Dl = some (.lst (ys.take i))) ⟨same_new hD, upd_same⟩ (fun i H' _ p => p.1.seq hl) (fun i x H' hi p => ?_) (fun H' p => q Dl H' hD p.1 (by rw [p.2, ← hy, List.take_length]))
  obtain ⟨p1, p2⟩ := p
  refine ⟨hw _, ?_⟩
  refine k_yes (iteT ?_)
  have hlt : i < xs.length := (List.getElem?_eq_some_iff.mp hi).1
  obtain ⟨y, ey⟩ : ∃ y, ys[i]? = some y := ⟨ys[i]'(by omega), List.getElem?_eq_getElem (by omega)⟩
  refine he i x y H' _ hi ey p1 (fun H3 s3 => ⟨_, s3.get p2, ?_, Same.mut (p1.trans s3) hD ⟨_, s3.get p2⟩, ?_⟩)
  · rw [List.length_take]; exact Nat.lt_of_le_of_lt (Nat.min_le_right _ _) (Nat.lt_of_lt_of_le (show ys.length < 100001 by omega) (by decide))
  · rw [upd_same, List.take_add_one, ey]; rfl
/-- over a list, no test, elements of which something is known -/
theorem comp_listP {a : Addr} {xs : List V} {te : TE} {j : Nat} (P : Nat → V → Prop) (hl : SqL K H a xs) (hn : xs.length ≤ 100000)
    (he : ∀ (k : Nat) (x : V) (H2 : Hp) (Q2 : VK), xs[k]? = some x → Same H H2 → (∀ y H3, P k y → Same H2 H3 → Q2 y H3) → te ((wipe σ [j]).set j (some x)) H2 Q2)
    (q : ∀ p H' ys, H p = none → Same H H' → H' p = some (.lst ys) → ys.length = xs.length → (∀ k y, ys[k]? = some y → P k y) → Q (.ref p) H') (hw : ∀ x, wipe ((wipe σ [j]).set j (some x)) [j] = wipe σ [j] := by intro _; rfl) : CompOk (Itl K a) (gName j) tYes te [j] σ H Q := by
  intro Dl hD
  refine lc_list (xs := xs) (fun i H' => Same H H' ∧ ∃ ys, H' Dl = some (.lst ys) ∧ ys.length = i ∧ ∀ k y, ys[k]? = some y → P k y) ⟨same_new hD, [], upd_same, rfl, fun k y e => by simp at e⟩ (fun i H' _ p => p.1.seq hl) (fun i x H' hi p => ?_) (fun H' p => ?_)
  · obtain ⟨p1, ys, p2, p3, p4⟩ := p
    refine ⟨hw _, ?_⟩
    refine k_yes (iteT ?_)
    have hlt : i < xs.length := (List.getElem?_eq_some_iff.mp hi).1
    refine he i x H' _ hi p1 (fun y H3 hy s3 => ⟨_, s3.get p2, by rw [p3]; exact Nat.lt_of_lt_of_le (Nat.lt_of_lt_of_le hlt hn) (by decide), Same.mut (p1.trans s3) hD ⟨_, s3.get p2⟩, ys ++ [y], upd_same, by rw [List.length_append, p3]; rfl, fun k z e => ?_⟩)
    rcases Nat.lt_or_ge k ys.length with w | w
    · rw [List.getElem?_append_left w] at e; exact p4 k z e
    · rw [List.getElem?_append_right w] at e
      obtain ⟨h1, h2⟩ := List.getElem?_eq_some_iff.mp e
      rw [List.length_singleton] at h1
      have hk : k = i := by omega
      have e2 : z = y := by
        rw [show k - ys.length = 0 by omega] at e
        exact (Option.some.inj e).symm
      rw [hk, e2]; exact hy
  · obtain ⟨p1, ys, p2, p3, p4⟩ := p
    exact q Dl H' ys hD p1 p2 p3 p4
end
/-! ### loops over any walk -/
section
variable {σ : L2.St} {H : Hp} {Q rt : VK} {nx bk ct : L2.St → Hp → Prop} {t u tb : TS} {g : TG} {i : Nat} {x : V} {K : PySem.W.Frag} {J : It} {n : Nat} {G : Hp → Prop} {Y : Nat → Hp → V → Hp → Prop}
theorem loop_walk (w : Walk J n G Y) (Pv : Nat → L2.St → Hp → Prop) (h0 : Pv 0 σ H) (hG : ∀ i σ H, Pv i σ H → G H)
    (hs : ∀ i x σ H H', i < n → Pv i σ H → Y i H x H' → g x σ H' fun σ2 H2 => tb (Ends.mk (Pv (i + 1)) rt nx (Pv (i + 1))) σ2 H2) (hd : ∀ σ H, Pv n σ H → nx σ H) : LoopOk J g tb nx rt σ H :=
  for_it (D := Ends.mk nx rt nx nx) w Pv h0 (fun i σ H _ p => hG i σ H p) hs hd
/-- a comprehension with a test: at each turn the item is dropped, or f i is kept -/
theorem comp_walkV {te : TE} {tt : TT} {j : Nat} {f : Nat → Option V} (w : Walk J n G Y) (hn : n ≤ 100000) (hG : ∀ H', Same H H' → G H')
    (he : ∀ (k : Nat) (x : V) (H1 H2 : Hp) (Qb : Bool → Hp → Prop), k < n → Same H H1 → Y k H1 x H2 → (∀ b H3, Same H1 H3 → (b = true → ∀ Q2 : VK, ∀ H4, Same H3 H4 → ∃ y, f k = some y ∧ ((∀ H5, Same H4 H5 → Q2 y H5) → te ((wipe σ [j]).set j (some x)) H4 Q2)) → (b = false → f k = none) → Qb b H3) → tt ((wipe σ [j]).set j (some x)) H2 Qb)
    (q : ∀ p H', H p = none → Same H H' → H' p = some (.lst ((List.range n).filterMap f)) → Q (.ref p) H') (hw : ∀ x, wipe ((wipe σ [j]).set j (some x)) [j] = wipe σ [j] := by intro _; rfl) : CompOk J (gName j) tt te [j] σ H Q := by
  intro Dl hD
  refine lc_it w (fun i H' => Same H H' ∧ H' Dl = some (.lst ((List.range i).filterMap f))) ⟨same_new hD, upd_same⟩ (fun i H' _ p => hG H' p.1) (fun i x H' H'' hi p hy => ?_) (fun H' p => q Dl H' hD p.1 p.2)
  obtain ⟨p1, p2⟩ := p
  refine ⟨hw _, he i x H' H'' _ hi p1 hy (fun b H3 s3 hb1 hb0 => ?_)⟩
  have hl : ((List.range i).filterMap f).length < sizeLine := Nat.lt_of_le_of_lt (List.length_filterMap_le f (List.range i)) (by rw [List.length_range]; exact Nat.lt_of_lt_of_le (Nat.lt_of_lt_of_le hi hn) (by decide))
  cases b with
  | true =>
    refine iteT ?_
    obtain ⟨y, ey, go⟩ := hb1 rfl (fun y H4 => ∃ acc, H4 Dl = some (.lst acc) ∧ acc.length < sizeLine ∧ Same H (upd H4 Dl (.lst (acc ++ [y]))) ∧ upd H4 Dl (.lst (acc ++ [y])) Dl = some (.lst ((List.range (i + 1)).filterMap f))) H3 (Same.refl _)
    refine go fun H5 s5 => ⟨_, s5.get (s3.get p2), hl, Same.mut ((p1.trans s3).trans s5) hD ⟨_, s5.get (s3.get p2)⟩, ?_⟩
    rw [upd_same, List.range_succ, List.filterMap_append]
    show _ = some (HO.lst (_ ++ List.filterMap f [i]))
    rw [List.filterMap_cons, ey]; rfl
  | false =>
    refine iteF ⟨p1.trans s3, ?_⟩
    rw [List.range_succ, List.filterMap_append]
    rw [show List.filterMap f [i] = [] by rw [List.filterMap_cons, hb0 rfl]; rfl, List.append_nil]
    exact s3.get p2
theorem k_rev {a : Addr} {xs : List V} {ta : TA} {R : It → Hp → Prop} (h : ta σ H fun vs H1 => ∃ (a : Addr) (xs : List V), vs = [.ref a] ∧ SqL K H1 a xs ∧ R (Itv K a xs.length) H1) : iRev K ta σ H R := h
def RevK (K : PySem.W.Frag) (R : It → Hp → Prop) (vs : List V) (H : Hp) : Prop := ∃ (a : Addr) (xs : List V), vs = [.ref a] ∧ SqL K H a xs ∧ R (Itv K a xs.length) H
theorem m_rev {ta : TA} {R : It → Hp → Prop} (h : ta σ H (RevK K R)) : iRev K ta σ H R := h
theorem m_revE {a : Addr} {xs : List V} {R : It → Hp → Prop} (hx : SqL K H a xs) (h : R (Itv K a xs.length) H) : RevK K R [.ref a] H := ⟨a, xs, rfl, hx, h⟩
def EnumK (K : PySem.W.Frag) (R : It → Hp → Prop) (vs : List V) (H : Hp) : Prop := ∃ (a : Addr) (xs : List V), vs = [.ref a] ∧ SqL K H a xs ∧ R (Ite K a) H
theorem m_enum {ta : TA} {R : It → Hp → Prop} (h : ta σ H (EnumK K R)) : iEnum K ta σ H R := h
theorem m_enumE {a : Addr} {xs : List V} {R : It → Hp → Prop} (hx : SqL K H a xs) (h : R (Ite K a) H) : EnumK K R [.ref a] H := ⟨a, xs, rfl, hx, h⟩
def ZipK (K : PySem.W.Frag) (R : It → Hp → Prop) (vs : List V) (H : Hp) : Prop := ∃ a b xs ys, vs = [.ref a, .ref b] ∧ SqL K H a xs ∧ SqL K H b ys ∧ R (Itz K a b) H
theorem m_zip {ta : TA} {R : It → Hp → Prop} (h : ta σ H (ZipK K R)) : iZip K ta σ H R := h
theorem m_zipE {a b : Addr} {xs ys : List V} {R : It → Hp → Prop} (hx : SqL K H a xs) (hy : SqL K H b ys) (h : R (Itz K a b) H) : ZipK K R [.ref a, .ref b] H := ⟨a, b, xs, ys, rfl, hx, hy, h⟩
def RevLK (K : PySem.W.Frag) (Q : VK) (x : V) (H : Hp) : Prop := ∃ a xs, x = .ref a ∧ SqL K H a xs ∧ ∀ p, H p = none → Q (.ref p) (upd H p (.lst xs.reverse))
theorem m_revL {te : TE} (h : te σ H (RevLK K Q)) : tRevL K te σ H Q := h
theorem m_revLE {a : Addr} {xs : List V} (hx : SqL K H a xs) (q : ∀ p, H p = none → Q (.ref p) (upd H p (.lst xs.reverse))) : RevLK K Q (.ref a) H := ⟨a, xs, rfl, hx, q⟩
def Rng3K (R : It → Hp → Prop) (vs : List V) (H : Hp) : Prop := ∃ i j c n, vs = [.int i, .int j, .int c] ∧ RgC i j c n ∧ R (Itc i c n) H
theorem m_rng3 {ta : TA} {R : It → Hp → Prop} (h : ta σ H (Rng3K R)) : iRng3 ta σ H R := h
theorem m_rng3e {R : It → Hp → Prop} {a b c : Int} {n : Nat} (h1 : RgC a b c n) (h : R (Itc a c n) H) : Rng3K R [V.int a, V.int b, V.int c] H := ⟨a, b, c, n, rfl, h1, h⟩
/-- targets that are pairs -/
def GTupK (K : PySem.W.Frag) (n : Nat) (tg : TGs) (Qs : L2.St → Hp → Prop) (x : V) (σ : L2.St) (H : Hp) : Prop := ∃ a xs, x = .ref a ∧ SqT K H a xs ∧ xs.length = n ∧ tg xs σ H Qs
theorem m_gTup {tg : TGs} {Qs : L2.St → Hp → Prop} {a : Addr} {xs : List V} (hx : SqT K H a xs) (hn : xs.length = n) (h : tg xs σ H Qs) : gTup K n tg (.ref a) σ H Qs := ⟨a, xs, rfl, hx, hn, h⟩
theorem m_gCons {t1 : TG} {ts : TGs} {Qs : L2.St → Hp → Prop} {xs : List V} (h : t1 x σ H fun σ' H' => ts xs σ' H' Qs) : gCons t1 ts (x :: xs) σ H Qs := ⟨x, xs, rfl, h⟩
theorem m_gNil {Qs : L2.St → Hp → Prop} (h : Qs σ H) : gNil [] σ H Qs := ⟨rfl, h⟩
theorem m_asg {te : TE} (h : te σ H fun x H1 => g x σ H1 nx) : tAsg te g (Ends.mk nx rt bk ct) σ H := h
theorem k_rep {Q : VK} {l : Addr} {xs : List V} {n : Nat} (h : H l = some (.lst xs)) (hn : xs.length * n ≤ 1000000) (hn2 : n ≤ 1000000) (q : ∀ p, H p = none → Q (.ref p) (upd H p (.lst (List.replicate n xs).flatten))) : rRep (.ref l) (.int (n : Int)) H Q :=
  ⟨l, n, xs, rfl, rfl, h, by omega, by omega, by rw [Int.toNat_natCast]; exact Nat.le_trans hn (by decide), by rw [Int.toNat_natCast]; exact q⟩
theorem k_cat {Q : VK} {l b : Addr} {xs zs : List V} (h1 : H l = some (.lst xs)) (h2 : H b = some (.lst zs)) (hn : xs.length + zs.length ≤ 1000000) (q : ∀ p, H p = none → Q (.ref p) (upd H p (.lst (xs ++ zs)))) : rCat (.ref l) (.ref b) H Q :=
  ⟨l, b, xs, zs, rfl, rfl, h1, h2, Nat.le_trans hn (by decide), q⟩
theorem rep_one (x : V) (n : Nat) : (List.replicate n [x]).flatten = List.replicate n x := by
  induction n with
  | zero => rfl
  | succ n ih => rw [List.replicate_succ, List.flatten_cons, ih]; rfl
theorem m_gSub {to ti : TE} {ts : TSet} {Qs : L2.St → Hp → Prop} (h : to σ H fun o H1 => ti σ H1 fun i H2 => ts o i x H2 fun H3 => Qs σ H3) : gSub to ti ts x σ H Qs := h
theorem m_setL {p : Addr} {xs : List V} {k : Int} {j : Nat} {y : V} {Qh : Hp → Prop} (h : H p = some (.lst xs)) (hj : ixN xs.length k = some j) (q : Qh (upd H p (.lst (xs.set j y)))) : rSetL (.ref p) (.int k) y H Qh := ⟨p, xs, k, j, rfl, rfl, h, hj, q⟩
theorem ixN_nat {n : Nat} {k : Int} (h0 : 0 ≤ k) (h1 : k < n) : ixN n k = some k.toNat := by
  unfold ixN; rw [if_pos h0, if_pos h1]
def ParK (nx : L2.St → Hp → Prop) (i j : Nat) (σ : L2.St) (vs : List V) (H : Hp) : Prop := ∃ v w, vs = [v, w] ∧ nx ((σ.set i (some v)).set j (some w)) H
theorem m_par {i j : Nat} {ta : TA} (h : ta σ H (ParK nx i j σ)) : tPar i j ta (Ends.mk nx rt bk ct) σ H := h
theorem m_parE {i j : Nat} {a b : V} (h : nx ((σ.set i (some a)).set j (some b)) H) : ParK nx i j σ [a, b] H := ⟨a, b, rfl, h⟩
theorem k_divmod {Q : VK} {a b : Int} (h : CDivP a b) (q : ∀ p, H p = none → Q (.ref p) (upd H p (.tup [.int (a / b), .int (a % b)]))) : rDivmod [.int a, .int b] H Q := ⟨a, b, rfl, h, q⟩
end
/-! ### what a comprehension with a test leaves -/
theorem fm_head {α : Type} {f : Nat → Option α} : ∀ {n : Nat} {y : α}, ((List.range n).filterMap f)[0]? = some y → ∃ i, i < n ∧ f i = some y ∧ ∀ j, j < i → f j = none
  | 0, y, h => by simp at h
  | n + 1, y, h => by
    rw [List.range_succ, List.filterMap_append] at h
    cases e : (List.range n).filterMap f with
    | cons z zs =>
      rw [e] at h
      have h' : ((List.range n).filterMap f)[0]? = some y := by rw [e]; simpa using h
      obtain ⟨i, h1, h2, h3⟩ := fm_head h'
      exact ⟨i, by omega, h2, h3⟩
    | nil =>
      rw [e, List.nil_append] at h
      have none_all : ∀ j, j < n → f j = none := fun j hj => List.filterMap_eq_nil_iff.mp e j (List.mem_range.mpr hj)
      cases q : f n with
      | none => rw [List.filterMap_cons, q] at h; simp at h
      | some z =>
        rw [List.filterMap_cons, q] at h
        have : z = y := by simpa using h
        subst this
        exact ⟨n, by omega, q, none_all⟩
theorem fm_last {α : Type} {f : Nat → Option α} : ∀ {n : Nat} {y : α} {ys : List α}, (List.range n).filterMap f = ys ++ [y] → ∃ i, i < n ∧ f i = some y ∧ ∀ j, i < j → j < n → f j = none
  | 0, y, ys, h => by simp at h
  | n + 1, y, ys, h => by
    rw [List.range_succ, List.filterMap_append] at h
    cases q : f n with
    | none =>
      rw [show List.filterMap f [n] = [] by rw [List.filterMap_cons, q]; rfl, List.append_nil] at h
      obtain ⟨i, h1, h2, h3⟩ := fm_last h
      refine ⟨i, by omega, h2, fun j h4 h5 => ?_⟩
      rcases Nat.lt_or_ge j n with h6 | h6
      · exact h3 j h4 h6
      · have : j = n := by omega
        subst this; exact q
    | some z =>
      rw [show List.filterMap f [n] = [z] by rw [List.filterMap_cons, q]; rfl] at h
      have e := List.append_inj_right' h rfl
      injection e with e
      subst e
      exact ⟨n, by omega, q, fun j h4 h5 => by omega⟩
theorem fm_nil {α : Type} {f : Nat → Option α} {n : Nat} (h : (List.range n).filterMap f = []) : ∀ j, j < n → f j = none := fun j hj => List.filterMap_eq_nil_iff.mp h j (List.mem_range.mpr hj)
theorem fm_id {α : Type} (l : List α) {n : Nat} (hn : n = l.length) : (List.range n).filterMap (fun k => l[k]?) = l := by
  subst hn
  have h : ∀ n, n ≤ l.length → (List.range n).filterMap (fun k => l[k]?) = l.take n := by
    intro n
    induction n with
    | zero => intro _; rfl
    | succ n ih =>
      intro hn
      rw [List.range_succ, List.filterMap_append, ih (by omega), List.take_add_one, List.getElem?_eq_getElem (show n < l.length by omega)]
      congr 1
      rw [List.filterMap_cons, List.getElem?_eq_getElem (show n < l.length by omega)]; rfl
  rw [h _ (Nat.le_refl _), List.take_length]
theorem snoc_of {α : Type} : ∀ {l : List α}, l ≠ [] → ∃ ys y, l = ys ++ [y]
  | [], h => absurd rfl h
  | a :: l, _ => ⟨(a :: l).dropLast, (a :: l).getLast (List.cons_ne_nil _ _), (List.dropLast_concat_getLast _).symm⟩
theorem cutPart (xs : List V) (a b : Nat) : cutV xs (some (a : Int)) (some (b : Int)) = (xs.take b).drop a := by
  unfold cutV
  rw [HT.sIx_nat, HT.sIx_nat, List.drop_take]
  rcases Nat.le_total a xs.length with h | h
  · rw [Nat.min_eq_left h]
    rcases Nat.le_total b xs.length with h2 | h2
    · rw [Nat.min_eq_left h2]
    · rw [Nat.min_eq_right h2, List.take_of_length_le (by rw [List.length_drop]; omega), List.take_of_length_le (by rw [List.length_drop]; omega)]
  · rw [Nat.min_eq_right h, List.drop_of_length_le (Nat.le_refl _), List.drop_of_length_le h]
    simp
/-- a part of a list of ints -/
theorem cut_ints (ns : List Int) (lo hi : Option Int) : ∃ cs : List Int, cutV (ns.map V.int) lo hi = cs.map V.int ∧ (∀ x ∈ cs, x ∈ ns) ∧ cs.length ≤ ns.length := by
  unfold cutV
  refine ⟨_, by rw [← List.map_drop, ← List.map_take], fun x h => List.mem_of_mem_drop (List.mem_of_mem_take h), by rw [List.length_take, List.length_drop]; omega⟩
theorem cutDrop (xs : List V) (a : Nat) : cutV xs (some (a : Int)) none = xs.drop a := by
  unfold cutV
  rw [HT.sIx_nat, HT.sIx_none]
  rcases Nat.le_total a xs.length with h | h
  · rw [Nat.min_eq_left h, List.take_of_length_le (by rw [List.length_drop]; omega)]
  · rw [Nat.min_eq_right h, List.drop_of_length_le (Nat.le_refl _), List.drop_of_length_le h]
    simp
/-! ### data at any depth -/
section
variable {H H' : Hp} {K : PySem.W.Frag}
theorem dpAll_ints : ∀ ns : List Int, DpAll K H (ns.map V.int) (ns.map PyData.int)
  | [] => .nil
  | n :: ns => .cons (.int n) (dpAll_ints ns)
theorem dpAll_bools : ∀ bs : List Bool, DpAll K H (bs.map V.bl) (bs.map PyData.bool)
  | [] => .nil
  | b :: bs => .cons (.bl b) (dpAll_bools bs)
theorem dp_ints {a : Addr} {ns : List Int} (h : SqL K H a (ns.map V.int)) : Dp K H (.ref a) (.list (ns.map PyData.int)) := .lst h (dpAll_ints ns)
theorem dp_intsT {a : Addr} {ns : List Int} (h : SqT K H a (ns.map V.int)) : Dp K H (.ref a) (.tuple (ns.map PyData.int)) := .tup h (dpAll_ints ns)
theorem eqvAll_ints : ∀ as bs : List Int, PyData.eqvAll (as.map PyData.int) (bs.map PyData.int) = decide (as = bs)
  | [], [] => by rw [List.map_nil]; unfold PyData.eqvAll; rfl
  | [], b :: bs => by rw [List.map_nil, List.map_cons]; unfold PyData.eqvAll; simp
  | a :: as, [] => by rw [List.map_nil, List.map_cons]; unfold PyData.eqvAll; simp
  | a :: as, b :: bs => by
    rw [List.map_cons, List.map_cons]; unfold PyData.eqvAll
    rw [eqvAll_ints as bs]
    unfold PyData.eqv
    by_cases h : a = b
    · subst h; by_cases h2 : as = bs
      · subst h2; simp
      · simp [h2]
    · simp [h]
theorem eqv_ints (as bs : List Int) : PyData.eqv (.list (as.map PyData.int)) (.list (bs.map PyData.int)) = decide (as = bs) := by
  unfold PyData.eqv; exact eqvAll_ints as bs
theorem eqv_intsT (as bs : List Int) : PyData.eqv (.tuple (as.map PyData.int)) (.tuple (bs.map PyData.int)) = decide (as = bs) := by
  unfold PyData.eqv; exact eqvAll_ints as bs
/-- laid: no dict, texts in order, at most so deep -/
def laid (n : Nat) (d : PyData) : Prop := d.canLay0 = true ∧ d.depth ≤ n
theorem laid_int {n : Nat} (i : Int) : laid n (.int i) := ⟨by simp [PyData.canLay0], by simp [PyData.depth]⟩
theorem laid_bool {n : Nat} (i : Bool) : laid n (.bool i) := ⟨by simp [PyData.canLay0], by simp [PyData.depth]⟩
theorem laid_none {n : Nat} : laid n .none := ⟨by simp [PyData.canLay0], by simp [PyData.depth]⟩
theorem laid_all {n : Nat} : ∀ ds : List PyData, (∀ d ∈ ds, laid n d) → PyData.canLayAll0 ds = true ∧ PyData.depthAll ds ≤ n
  | [], _ => ⟨by simp [PyData.canLayAll0], by simp [PyData.depthAll]⟩
  | d :: ds, h => by
    obtain ⟨h1, h2⟩ := h d List.mem_cons_self
    obtain ⟨h3, h4⟩ := laid_all ds fun x hx => h x (List.mem_cons_of_mem _ hx)
    exact ⟨by simp [PyData.canLayAll0, h1, h3], by simp only [PyData.depthAll]; omega⟩
theorem laid_list {n : Nat} {ds : List PyData} (h : ∀ d ∈ ds, laid n d) : laid (n + 1) (.list ds) := by
  obtain ⟨h1, h2⟩ := laid_all ds h
  exact ⟨by simp [PyData.canLay0, h1], by simp only [PyData.depth]; omega⟩
theorem laid_tup {n : Nat} {ds : List PyData} (h : ∀ d ∈ ds, laid n d) : laid (n + 1) (.tuple ds) := by
  obtain ⟨h1, h2⟩ := laid_all ds h
  exact ⟨by simp [PyData.canLay0, h1], by simp only [PyData.depth]; omega⟩
theorem laid_ints {n : Nat} (ns : List Int) : laid (n + 1) (.list (ns.map PyData.int)) := laid_list fun d hd => by
  obtain ⟨i, _, rfl⟩ := List.mem_map.mp hd
  exact laid_int i
theorem laid_intsT {n : Nat} (ns : List Int) : laid (n + 1) (.tuple (ns.map PyData.int)) := laid_tup fun d hd => by
  obtain ⟨i, _, rfl⟩ := List.mem_map.mp hd
  exact laid_int i
theorem laid_bools {n : Nat} (bs : List Bool) : laid (n + 1) (.list (bs.map PyData.bool)) := laid_list fun d hd => by
  obtain ⟨i, _, rfl⟩ := List.mem_map.mp hd
  exact laid_bool i
theorem laid_shaped {d : PyData} (h : laid 64 d) : SeqAt.shaped d = true := by
  obtain ⟨h1, h2⟩ := h
  unfold SeqAt.shaped
  rw [h1, decide_eq_true h2]; rfl
theorem k_eqD {Q : VK} {x y : V} {d e : PyData} (h1 : Dp K H x d) (h2 : Dp K H y e) (l1 : laid 64 d) (l2 : laid 64 e) (q : Q (.bl (PyData.eqv d e)) H) : rEqD K x y H Q :=
  ⟨d, e, h1, h2, laid_shaped l1, laid_shaped l2, q⟩
theorem k_neD {Q : VK} {x y : V} {d e : PyData} (h1 : Dp K H x d) (h2 : Dp K H y e) (l1 : laid 64 d) (l2 : laid 64 e) (q : Q (.bl (!PyData.eqv d e)) H) : rNeD K x y H Q :=
  ⟨d, e, h1, h2, laid_shaped l1, laid_shaped l2, q⟩
theorem k_eqL {Q : VK} {a b : Addr} {ns ms : List Int} (h1 : SqL K H a (ns.map V.int)) (h2 : SqL K H b (ms.map V.int)) (q : Q (.bl (decide (ns = ms))) H) : rEqD K (.ref a) (.ref b) H Q :=
  k_eqD (dp_ints h1) (dp_ints h2) (laid_ints ns) (laid_ints ms) (by rw [eqv_ints]; exact q)
theorem k_neL {Q : VK} {a b : Addr} {ns ms : List Int} (h1 : SqL K H a (ns.map V.int)) (h2 : SqL K H b (ms.map V.int)) (q : Q (.bl (!decide (ns = ms))) H) : rNeD K (.ref a) (.ref b) H Q :=
  k_neD (dp_ints h1) (dp_ints h2) (laid_ints ns) (laid_ints ms) (by rw [eqv_ints]; exact q)
end
/-- a row's tables: a number and a tuple of numbers -/
theorem eqv_row (n : Int) (as : List Int) : PyData.eqv (.tuple [.int n, .tuple (as.map PyData.int)]) (.tuple [.int n, .tuple (as.map PyData.int)]) = true := by
  unfold PyData.eqv PyData.eqvAll; unfold PyData.eqv PyData.eqvAll
  simp [eqv_intsT, PyData.eqvAll]
theorem dp_row {K : PySem.W.Frag} {H : Hp} {t a : Addr} {n : Int} {as : List Int} (h1 : SqT K H t [.int n, .ref a]) (h2 : SqT K H a (as.map V.int)) : Dp K H (.ref t) (.tuple [.int n, .tuple (as.map PyData.int)]) :=
  .tup h1 (.cons (.int n) (.cons (dp_intsT h2) .nil))
theorem laid_row (n : Int) (as : List Int) : laid 64 (.tuple [.int n, .tuple (as.map PyData.int)]) := laid_tup (n := 63) fun d hd => by
  simp only [List.mem_cons, List.not_mem_nil, or_false] at hd
  rcases hd with rfl | rfl
  · exact laid_int _
  · exact laid_intsT _
theorem k_eqRow {K : PySem.W.Frag} {H : Hp} {Q : VK} {t u a b : Addr} {n : Int} {as : List Int} (h1 : SqT K H t [.int n, .ref a]) (h2 : SqT K H a (as.map V.int)) (h3 : SqT K H u [.int n, .ref b]) (h4 : SqT K H b (as.map V.int)) (q : Q (.bl true) H) : rEqD K (.ref t) (.ref u) H Q :=
  k_eqD (dp_row h1 h2) (dp_row h3 h4) (laid_row n as) (laid_row n as) (by rw [eqv_row]; exact q)
theorem any_int (i : Int) : ∀ ns : List Int, ((ns.map PyData.int).any fun z => PyData.eqv z (.int i)) = decide (i ∈ ns)
  | [] => by simp
  | n :: ns => by
    rw [List.map_cons, List.any_cons, any_int i ns]
    unfold PyData.eqv
    by_cases h : n = i
    · subst h; simp
    · have h' : ¬ i = n := fun z => h z.symm
      simp [h, h']
theorem k_inL {K : PySem.W.Frag} {H : Hp} {Q : VK} {i : Int} {a : Addr} {ns : List Int} (h : SqL K H a (ns.map V.int)) (q : Q (.bl (decide (i ∈ ns))) H) : rInD K (.int i) (.ref a) H Q :=
  ⟨.int i, _, .int i, dp_ints h, laid_shaped (laid_int i), laid_shaped (laid_ints ns), by rw [any_int]; exact q⟩
theorem k_notInL {K : PySem.W.Frag} {H : Hp} {Q : VK} {i : Int} {a : Addr} {ns : List Int} (h : SqL K H a (ns.map V.int)) (q : Q (.bl (!decide (i ∈ ns))) H) : rNotInD K (.int i) (.ref a) H Q :=
  ⟨.int i, _, .int i, dp_ints h, laid_shaped (laid_int i), laid_shaped (laid_ints ns), by rw [any_int]; exact q⟩
section
variable {H : Hp} {K : PySem.W.Frag}
theorem eqvAll_bools : ∀ as bs : List Bool, PyData.eqvAll (as.map PyData.bool) (bs.map PyData.bool) = decide (as = bs)
  | [], [] => by rw [List.map_nil]; unfold PyData.eqvAll; rfl
  | [], b :: bs => by rw [List.map_nil, List.map_cons]; unfold PyData.eqvAll; simp
  | a :: as, [] => by rw [List.map_nil, List.map_cons]; unfold PyData.eqvAll; simp
  | a :: as, b :: bs => by
    rw [List.map_cons, List.map_cons]; unfold PyData.eqvAll
    rw [eqvAll_bools as bs]
    unfold PyData.eqv
    by_cases h : a = b
    · subst h; by_cases h2 : as = bs
      · subst h2; simp
      · simp [h2]
    · simp [h]
theorem eqv_bools (as bs : List Bool) : PyData.eqv (.list (as.map PyData.bool)) (.list (bs.map PyData.bool)) = decide (as = bs) := by
  unfold PyData.eqv; exact eqvAll_bools as bs
theorem dp_bools {a : Addr} {bs : List Bool} (h : SqL K H a (bs.map V.bl)) : Dp K H (.ref a) (.list (bs.map PyData.bool)) := .lst h (dpAll_bools bs)
theorem k_eqB {Q : VK} {a b : Addr} (ns ms : List Bool) (h1 : SqL K H a (ns.map V.bl)) (h2 : SqL K H b (ms.map V.bl)) (q : Q (.bl (decide (ns = ms))) H) : rEqD K (.ref a) (.ref b) H Q :=
  k_eqD (dp_bools h1) (dp_bools h2) (laid_bools ns) (laid_bools ms) (by rw [eqv_bools]; exact q)
end
theorem m_neB {H : Hp} {K : PySem.W.Frag} {Q : VK} {a b : Addr} (ns ms : List Bool) (h1 : SqL K H a (ns.map V.bl)) (h2 : SqL K H b (ms.map V.bl)) (q : Q (.bl (!decide (ns = ms))) H) : rNeD K (.ref a) (.ref b) H Q :=
  k_neD (dp_bools h1) (dp_bools h2) (laid_bools ns) (laid_bools ms) (by rw [eqv_bools]; exact q)
theorem room65 {k : Nat} {A : Around} (r : Room k A) : A.units + 65 < cLine := by have := r.un; omega
/-- list + list, whichever way they are known -/
def rCatK (K : PySem.W.Frag) : R2 := fun x y H Q => ∃ l b xs zs, x = .ref l ∧ y = .ref b ∧ SqL K H l xs ∧ SqL K H b zs ∧ xs.length + zs.length ≤ sizeLine ∧ ∀ p, H p = none → Q (.ref p) (upd H p (.lst (xs ++ zs)))
theorem op_catK {X : Cx} : OpR X (binaryOp .Add) (rCatK X.K) := by
  intro pins s σ H x y v u Q I rx ry h
  obtain ⟨l, b, xs, zs, rfl, rfl, hH, hB, hz, q⟩ := h
  cases rx
  cases ry
  obtain ⟨its, r, ⟨⟨cls, dd, data, sl⟩, n, ho, hc, hdd, hd⟩, hl⟩ := I.list hH
  obtain ⟨its2, r2, ⟨⟨cls2, dd2, data2, sl2⟩, n2, ho2, hc2, hdd2, hd2⟩, hl2⟩ := I.list hB
  simp only at hc hdd hd hc2 hdd2 hd2
  subst hc hdd hd hc2 hdd2 hd2
  have h1 := r.length
  have h2 := r2.length
  refine concat_meets ⟨_, ho, rfl⟩ ⟨_, ho2, rfl⟩ noFill_list_add seq_list_add PySem.F.slot_list_add PySem.F.entry_list_add (PySem.F.args_list_add_2 _ _) (list_addW l b its.toArray its2.toArray n n2 none none sl sl2 (by rw [List.size_toArray, List.size_toArray]; omega)) ⟨ho, ho2, ?_⟩
  have ea : its.toArray ++ its2.toArray = (its ++ its2).toArray := by simp
  rw [ea]
  exact ⟨.ref _, _, I.lnew (t' := s.toks) (r.append r2) (by rw [List.length_append]; omega), rfl, q _ I.fresh⟩
theorem k_catK {H : Hp} {K : PySem.W.Frag} {Q : VK} {l b : Addr} {xs zs : List V} (h1 : SqL K H l xs) (h2 : SqL K H b zs) (hn : xs.length + zs.length ≤ 1000000) (q : ∀ p, H p = none → Q (.ref p) (upd H p (.lst (xs ++ zs)))) : rCatK K (.ref l) (.ref b) H Q :=
  ⟨l, b, xs, zs, rfl, rfl, h1, h2, Nat.le_trans hn (by decide), q⟩
/-! ### len(set(xs)) -/
/-- how many unlike numbers -/
def unlike (ns : List Int) : Nat := (PyProof.Rows.firstMet (fun i => ns.getD i 0) ns.length).length
theorem unlike_le (ns : List Int) : unlike ns ≤ ns.length := PyProof.Rows.firstMet_length_le _ _
def tLenSet (K : PySem.W.Frag) (ta : TE) : TE := fun σ H Q => ta σ H fun x H1 => ∃ (l : Addr) (ns : List Int), x = .ref l ∧ SqL K H1 l (ns.map V.int) ∧ ns.length ≤ 4000 ∧ Q (.int (unlike ns : Nat)) H1
theorem intsAre_vals : ∀ {ns : List Int} {us : List Value}, Vals (ns.map V.int) us → PyProof.Rows.IntsAre us ns
  | [], _, .nil => .nil
  | n :: ns, _, .cons r t => by
    obtain ⟨k, rfl⟩ := r
    exact .cons n k (intsAre_vals t)
theorem pe_lenSet {X : Cx} {a : Expr} {ta : TE} {p p2 q pos : Pos} (hg : Gl X "len") (hm : X.mg "len" = none) (hg2 : Gl X "set") (hm2 : X.mg "set" = none) (ha : PE X a ta) (hc : X.calm = true := by rfl)
    (na : starEach [a] X.env = (false, eval a X.env) :: starEach [] X.env := by rfl) : PE X (.Call (.Name "len" p) [.Call (.Name "set" p2) [a] [] q] [] pos) (tLenSet X.K ta) := by
  refine ⟨fun pins s σ H Q I h => ?_⟩
  refine Call_ (ld_blt I hg hm boot_len ?_)
  refine PyProof.Rows.callWith_builtin1 (PyProof.Rows.args_cons ?_ rfl) rfl rfl
  refine Call_ (ld_blt I hg2 hm2 boot_set ?_)
  refine PyProof.Rows.callWith_type1 (PyProof.Rows.args_cons (thn (ha.run pins s σ H _ I h) fun v s1 ⟨x, H1, I1, r1, q1⟩ => PyProof.Rows.args_nil ?_) na) na rfl
  obtain ⟨l, ns, rfl, hq, hl, q1⟩ := q1
  cases r1
  obtain ⟨its, r, pl, hz⟩ := I1.list hq
  have hlen : its.toArray.size = ns.length := by rw [List.size_toArray, ← r.length, List.length_map]
  refine call_set_list (I1.ok.hd hc) pl.isList (by simpa using intsAre_vals r) (by rw [hlen]; unfold scanBound; omega) fun h' tk hS hk => ?_
  refine PyProof.Rows.args_nil ?_
  rw [hlen] at hS
  obtain ⟨o, es, ep, t, ho, hex, hd, _, _, _, hf, hn⟩ := hS
  have I2 : Inv X pins σ H1 { s1 with heap := h', toks := tk } := I1.kept fun b o e => hk b o (Heap.lt_size e) e
  have hu := unlike_le ns
  unfold unlike at hu q1
  exact call_len_set ho hex hd hf (by rw [hn] <;> omega) ⟨.int ((PyProof.Rows.firstMet (fun i => ns.getD i 0) ns.length).length : Nat), H1, I2.tok _, ⟨_, by rw [hn]⟩, q1⟩
section
variable {σ : L2.St} {H : Hp} {Q : VK} {K : PySem.W.Frag} {te : TE}
def LenSetK (K : PySem.W.Frag) (Q : VK) (x : V) (H : Hp) : Prop := ∃ (l : Addr) (ns : List Int), x = .ref l ∧ SqL K H l (ns.map V.int) ∧ ns.length ≤ 4000 ∧ Q (.int (unlike ns : Nat)) H
theorem m_lenSet (h : te σ H (LenSetK K Q)) : tLenSet K te σ H Q := h
theorem m_lenSetE {l : Addr} {ns : List Int} (hS : SqL K H l (ns.map V.int)) (hl : ns.length ≤ 4000) (q : Q (.int (unlike ns : Nat)) H) : LenSetK K Q (.ref l) H := ⟨l, ns, rfl, hS, hl, q⟩
end
/-! ### errors: raised, let through, caught -/
section
variable {X : Cx} {E : XK} {W : WX} {k j : Nat} {ps : List Str} {sp : Sp} {x : Str} {p pos : Pos} {e : Expr} {es : List Expr} {t : TA}
theorem passX (tk : Takes X (fun cls d _ H => E cls d H)) : Passes (L2.CX X.prog X.w) X E := passes_call tk fun _ _ _ _ h => h
/-- raise C('..') -/
def tRz (W : WX) (C : Addr) : TS := fun _ σ H => W (.ref C) none σ H
/-- what stands of the class x: it can be raised -/
structure ExF (K : PySem.W.Frag) (mg : Str → Option Value) (x : Str) : Prop where
  gl : mg x = some (.ref (He.ga K x))
  ex : PySem.W.excIn K (He.ga K x) He.veBase "ValueError.__new__" = true
  kp : PySem.W.keepIn K (.ref (He.ga K x)) = true
  sb : PySem.W.subIn K (.ref (He.ga K x)) (.type "BaseException") = some true
  ty : PySem.W.typeIn K (.ref (He.ga K x)) = some (.type "type")
theorem ps_rz {m : Str} {j : Nat} {p2 pos2 : Pos} (F : ExF X.K X.mg x) (tk : Takes X W) (hc : X.calm = true := by rfl) (hg : Gl X x := by rfl) (hdb : (x == ("__debug__" : Str)) = false := by decide) :
    PS X (.Raise (some (.Call (.Name x p) [.Constant (.str m) j p2] [] pos)) none pos2) (tRz W (He.ga X.K x)) :=
  ps_raise hc tk (pmk_own PySem.F.excBase_ValueError F.ex F.gl F.kp (raises_own F.sb F.ty) hg hdb)
theorem k_rz {D : Ends} {C : Addr} {σ : L2.St} {H : Hp} (h : W (.ref C) none σ H) : tRz W C D σ H := h
/-- a call within a try's body -/
theorem pe_callFS (F : Okf X.prog X.w X.K X.mg X.base (L2.CX X.prog X.w) k x ps sp) (hr : Room j X.A) (hk : k ≤ j) (hg : Gl X x) (tk : Takes X W)
    (ha : PA X (e :: es) t) (hdb : (x == ("__debug__" : Str)) = false := by decide) (he : starEach (e :: es) X.env = (false, eval e X.env) :: starEach es X.env := by rfl) (hpl : (backTo pos (starEach es X.env)).any (·.1) = false := by rfl) :
    PE X (.Call (.Name x p) (e :: es) [] pos) (tCallS sp (WE W) t) := by
  obtain ⟨fd, _, hb, ok⟩ := F.ex
  exact pe_callS ok (hr.mono hk) hg F.gl F.kp hb (fun σ => passAt tk σ) ha hdb he hpl
theorem m_callS {E : L2.St → XK} {σ : L2.St} {H : Hp} {Q : VK} (h : t σ H fun vs H1 => sp vs H1 Q (E σ)) : tCallS sp E t σ H Q := h
/-- try: .. except C as n | except C -/
def tTryAs (K : PySem.W.Frag) (c : Value) (i : Nat) (tb : WX → TS) (ts : Addr → Value → Option Addr → TS) (Wout : WX) : TS := fun D σ H => tb (wAs K c i ts Wout D) D σ H
def tTryOnly (K : PySem.W.Frag) (c : Value) (tb : WX → TS) (ts : Addr → Value → Option Addr → TS) (Wout : WX) : TS := fun D σ H => tb (wOnly K c ts Wout D) D σ H
section
variable {K : PySem.W.Frag} {c cls : Value} {d : Option Addr} {i : Nat} {tb : WX → TS} {ts : Addr → Value → Option Addr → TS} {Wout : WX} {σ : L2.St} {H : Hp} {rt : VK} {nx bk ct : L2.St → Hp → Prop}
theorem m_tryAs (h : tb (wAs K c i ts Wout (Ends.mk nx rt bk ct)) (Ends.mk nx rt bk ct) σ H) : tTryAs K c i tb ts Wout (Ends.mk nx rt bk ct) σ H := h
theorem m_tryOnly (h : tb (wOnly K c ts Wout (Ends.mk nx rt bk ct)) (Ends.mk nx rt bk ct) σ H) : tTryOnly K c tb ts Wout (Ends.mk nx rt bk ct) σ H := h
theorem m_caught (he : PySem.W.exmOne K cls c = some true) (h : ∀ a, H a = none → ts a cls d (Ends.mk (fun σ' H' => nx (σ'.set i none) H') rt (fun σ' H' => bk (σ'.set i none) H') (fun σ' H' => ct (σ'.set i none) H')) (σ.set i (some (.ref a))) H) :
    WE (wAs K c i ts Wout (Ends.mk nx rt bk ct)) σ cls d H := ⟨true, he, fun _ => h, fun z => Bool.noConfusion z⟩
theorem m_passed (he : PySem.W.exmOne K cls c = some false) (h : Wout cls d σ H) : WE (wAs K c i ts Wout (Ends.mk nx rt bk ct)) σ cls d H := ⟨false, he, fun z => Bool.noConfusion z, fun _ => h⟩
theorem m_caughtO (he : PySem.W.exmOne K cls c = some true) (h : ∀ a, H a = none → ts a cls d (Ends.mk nx rt bk ct) σ H) :
    WE (wOnly K c ts Wout (Ends.mk nx rt bk ct)) σ cls d H := ⟨true, he, fun _ => h, fun z => Bool.noConfusion z⟩
theorem m_passedO (he : PySem.W.exmOne K cls c = some false) (h : Wout cls d σ H) : WE (wOnly K c ts Wout (Ends.mk nx rt bk ct)) σ cls d H := ⟨false, he, fun z => Bool.noConfusion z, fun _ => h⟩
end
/-! ### several except clauses, each with a name -/
def endN (i : Nat) (D : Ends) : Ends := Ends.mk (fun τ G => D.nx (τ.set i none) G) D.rt (fun τ G => D.bk (τ.set i none) G) (fun τ G => D.ct (τ.set i none) G)
def wManyA (K : PySem.W.Frag) (Wout : WX) (D : Ends) : List (Value × Nat × (Addr → Value → Option Addr → TS)) → WX
  | [] => Wout
  | (c, i, ts) :: l => fun cls d τ G => ∃ b, PySem.W.exmOne K cls c = some b ∧ (b = true → ∀ x, G x = none → ts x cls d (endN i D) (τ.set i (some (.ref x))) G) ∧ (b = false → wManyA K Wout D l cls d τ G)
inductive HdsA (X : Cx) : List ExceptHandler → List (Value × Nat × (Addr → Value → Option Addr → TS)) → Prop
  | nil : HdsA X [] []
  | cons {y n : Str} {c : Value} {i : Nat} {ts : Addr → Value → Option Addr → TS} {st : Stmt} {sts : List Stmt} {q1 q2 : Pos} {hs : List ExceptHandler} {l : List (Value × Nat × (Addr → Value → Option Addr → TS))} (hi : X.N[i]? = some n) (hl : X.env.kindOf n = some .local) (hc : Names X y c)
      (hb : ∀ (x : Addr) (ob : Obj) (cls : Value) (d : Option Addr) (pn : List (Addr × Obj)), Zc cls d ob → (∃ vs, ob.data = .fields vs) → X.base.get? x = none → PSs (X.suite x ((x, ob) :: pn)) (st :: sts) (ts x cls d)) (r : HdsA X hs l) : HdsA X (.ExceptHandler (some (.Name y q1)) (some n) (st :: sts) q2 :: hs) ((c, i, ts) :: l)
theorem ps_tryManyA {X : Cx} {body : List Stmt} {h₀ : ExceptHandler} {hds : List ExceptHandler} {l : List (Value × Nat × (Addr → Value → Option Addr → TS))} {pos : Pos} {tb : WX → TS} {Wout : WX} (stk : X.stack = X.env :: X.outer) (lf : X.env.frame = some X.env.locals) (nd : X.N.Nodup) (tk : Takes X Wout)
    (hb : ∀ (W : WX) (pn : List (Addr × Obj)) (xe : Value → Shared → Prop), Takes (X.tr pn xe) W → PassesOwn (model X.prog X.w) X.A X.env xe → PSs (X.tr pn xe) body (tb W)) (hh : HdsA X (h₀ :: hds) l) : PS X (.Try body (h₀ :: hds) [] [] pos) (fun D τ G => tb (wManyA X.K Wout D l) D τ G) := by
  refine ⟨fun pins s τ G D I h => ?_⟩
  have ok0 := I.ok
  have fr0 : X.A.frames = some (X.env :: X.outer) := by rw [ok0.frames, stk]
  refine wpAny_Try_except (wpAny_mono ((hb (wManyA X.K Wout D l) (X.pn ++ pins) (fun e s₁ => wpAny (model X.prog X.w) X.A (noteFrame e X.env) (fun _ s₂ => wpAny (model X.prog X.w) X.A (setFlight e none) (fun _ s₃ => wpAny (model X.prog X.w) X.A (handleBy e X.env (h₀ :: hds)) (SP X pins D) X.xe s₃) X.xe s₂) X.xe s₁) (fun u s' xx => ?_) PassesOwn.looking).run [] s τ G D (I.toTry _) h) (fun f s1 hq => ?_) (fun e s1 he => he))
  · obtain ⟨x, B, si, pins2, τ1, G1, cls, d, rfl, j1, nb, up1, sk1, nx, eos, eag, wish⟩ := xx
    have j0 : Inv X pins τ1 G1 si := j1.ofTry ok0
    have sk2 : Sky B (X.env :: X.outer) x (Zc cls d) X.env.locals s'.heap := by rw [← stk]; exact sk1
    show wpAny (model X.prog X.w) X.A (noteFrame (.ref x) X.env) _ _ _; refine Sky.land Zc.steady fr0 lf sk2 fun h3 fl3 up3 => ?_
    have j3 : Inv X pins τ1 G1 { s' with heap := h3 } := j0.landed nb fl3.1 (up1.trans up3) eos eag
    obtain ⟨o3, vs3, ho3, hz3, hd3⟩ := fl3.there
    have nfr : x ∉ frs (X.env :: X.outer) := fun hm => by
      obtain ⟨_, o2, e2, hnf⟩ := fl3.2.2.1.mem hm; rw [ho3] at e2; cases e2; exact hnf _ hd3
    have nL : x ≠ X.env.locals := fun z => nfr (List.mem_filterMap.mpr ⟨X.env, List.mem_cons_self, by rw [lf, z]⟩)
    have nF : x ∉ X.fs := fun hm => by
      obtain ⟨e, he, q⟩ := List.mem_filterMap.mp hm; exact nfr (List.mem_filterMap.mpr ⟨e, List.mem_cons_of_mem _ he, q⟩)
    have suite3 := j3.suite ho3 hd3 nx nL nF
    have hbn : X.base.get? x = none := by
      cases e : X.base.get? x with
      | none => rfl
      | some ob =>
        have h1 := (j0.bs x ob e).1
        have h2 := nb x ob h1 (by rw [stk]; exact nfr)
        rw [fl3.2.1] at h2; cases h2
    have go : ∀ {hs' : List ExceptHandler} {l' : List (Value × Nat × (Addr → Value → Option Addr → TS))}, HdsA X hs' l' → wManyA X.K Wout D l' cls d τ1 G1 → wpAny (model X.prog X.w) X.A (handleBy (.ref x) X.env hs') (SP X pins D) X.xe { s' with heap := h3 } := by
      intro hs' l' hk
      induction hk with
      | nil =>
        intro wish
        refine wpAny_handleBy_nil ?_; obtain ⟨k1, k2, k3, oe, vs, tt, oT, ts', he, hz, hd, h1, hr⟩ := id fl3
        unfold PySem.passOn; refine wpAny_bind (wpAny_field he hd h1 ?_)
        rw [if_neg (show ¬ ((Value.ref tt == Value.none) = true) from by simp)]
        have fin : wpAny (model X.prog X.w) X.A (setFlight (.ref x) X.env.frame) (fun _ s4 => wpAny (model X.prog X.w) X.A (throw (.ref x) : Sem Flow) (SP X pins D) X.xe s4) X.xe { s' with heap := h3 } := by
          rw [lf]; refine HandSPX.setFlight_upZ fl3 fun h4 hh4 up4 => wpAny_throw (tk _ _ ?_)
          exact ⟨x, B, si, pins, τ1, G1, cls, d, rfl, j0, nb, (up1.trans up3).trans up4, .inr (.inr (by rw [stk]; exact hh4)), nx, eos, eag, wish⟩
        first | exact wpAny_bind (wpAny_pure (wpAny_bind fin)) | exact wpAny_bind fin
      | @cons y n c i ts st sts q1 q2 hs2 l2 hi hl hc hsu r ih =>
        intro wish
        obtain ⟨b, hb1, yes, no⟩ := wish
        refine wpAny_handleBy_cons (codeAny_handlers_test ?_) (by intro q; cases q); have lt : PySem.W.Looks (model X.prog X.w) h3 (typeOf (.ref x)) cls := fun A Q E s k q => wpAny_typeOf_ref (k _ _ ho3) (by rw [hz3.1]; exact q)
        have lm := PySem.W.exm_one (M := model X.prog X.w) (j3.kIn) lt hb1
        have test : ∀ {Q : Value → Shared → Prop} {E : Value → Shared → Prop}, Q c { s' with heap := h3 } → wpAny (model X.prog X.w) (X.A.mark (some (.ref x))) (eval (.Name y q1) X.env) Q E { s' with heap := h3 } := fun {Q E} q => by
          obtain ⟨hg, hdbg, hm | ⟨hm, hv, hnn⟩⟩ := hc
          · exact ld_glob (X := X.suite x ((x, o3) :: (X.pn ++ pins))) suite3 hg hm q hdbg
          · exact ld_blt (X := X.suite x ((x, o3) :: (X.pn ++ pins))) suite3 hg hm hv q hnn hdbg
        refine test (lm.here ?_)
        cases b with
        | true =>
          refine codeAny_handlers_suite_as (HandSPX.lands_againZ fl3 fun h4 fl4 up4 => ?_)
          have j4 : Inv X pins τ1 G1 { s' with heap := h4 } := j0.landed nb fl4.1 ((up1.trans up3).trans up4) eos eag
          obtain ⟨o4, vs4, ho4, hz4, hd4⟩ := fl4.there
          refine store_ok (X := X.suite x ((x, o4) :: (X.pn ++ pins))) (v := .ref x) (j4.suite ho4 hd4 nx nL nF) nd hi (.inl hl) rfl (fun s5 S5 => ?_) (.inr hl)
          refine wpAny_mono ((hsu x o4 cls d (X.pn ++ pins) hz4 ⟨_, hd4⟩ hbn).run [] s5 _ G1 _ S5 (yes rfl x nx)) (fun f s6 hq => ?_) (fun _ _ z => False.elim z)
          have fin : ∀ {τ6 : L2.St} {G6 : Hp} {Q : Shared → Prop}, Inv (X.suite x ((x, o4) :: (X.pn ++ pins))) [] τ6 G6 s6 → (∀ s7, Inv X pins (τ6.set i none) G6 s7 → Q s7) → wpAny (model X.prog X.w) X.A (do bindName X.env n .none; unbindBehindTheSuite X.env n q2) (fun _ s7 => Q s7) X.xe s6 := fun {τ6 G6 Q} S6 hq => gone_ok (S6.unsuite ok0) nd hi hl hq
          cases f with
          | next => obtain ⟨τ6, G6, S6, q6⟩ := hq; exact fin S6 fun s7 J7 => ⟨_, _, J7, q6⟩
          | brk => obtain ⟨τ6, G6, S6, q6⟩ := hq; exact fin S6 fun s7 J7 => ⟨_, _, J7, q6⟩
          | cont => obtain ⟨τ6, G6, S6, q6⟩ := hq; exact fin S6 fun s7 J7 => ⟨_, _, J7, q6⟩
          | ret u => obtain ⟨v6, τ6, G6, S6, r6, q6⟩ := hq; exact fin S6 fun s7 J7 => ⟨_, _, _, J7, r6, q6⟩
        | false => exact ih (no rfl)
    exact go hh wish
  · cases f with
    | next => obtain ⟨τ1, G1, j1, q⟩ := hq; exact wpAny_execs_nil ⟨τ1, G1, j1.ofTry ok0, q⟩
    | brk => obtain ⟨τ1, G1, j1, q⟩ := hq; exact ⟨τ1, G1, j1.ofTry ok0, q⟩
    | cont => obtain ⟨τ1, G1, j1, q⟩ := hq; exact ⟨τ1, G1, j1.ofTry ok0, q⟩
    | ret u => obtain ⟨v, τ1, G1, j1, r, q⟩ := hq; exact ⟨v, τ1, G1, j1.ofTry ok0, r, q⟩
def tTryM (K : PySem.W.Frag) (tb : WX → TS) (l : List (Value × Nat × (Addr → Value → Option Addr → TS))) (Wout : WX) : TS := fun D τ G => tb (wManyA K Wout D l) D τ G
section
variable {K : PySem.W.Frag} {c cls : Value} {d : Option Addr} {i : Nat} {tb : WX → TS} {ts : Addr → Value → Option Addr → TS} {Wout : WX} {σ : L2.St} {H : Hp} {rt : VK} {nx bk ct : L2.St → Hp → Prop} {l : List (Value × Nat × (Addr → Value → Option Addr → TS))}
theorem m_tryM (h : tb (wManyA K Wout (Ends.mk nx rt bk ct) l) (Ends.mk nx rt bk ct) σ H) : tTryM K tb l Wout (Ends.mk nx rt bk ct) σ H := h
theorem m_caughtM (he : PySem.W.exmOne K cls c = some true) (h : ∀ a, H a = none → ts a cls d (Ends.mk (fun σ' H' => nx (σ'.set i none) H') rt (fun σ' H' => bk (σ'.set i none) H') (fun σ' H' => ct (σ'.set i none) H')) (σ.set i (some (.ref a))) H) :
    WE (wManyA K Wout (Ends.mk nx rt bk ct) ((c, i, ts) :: l)) σ cls d H := ⟨true, he, fun _ => h, fun z => Bool.noConfusion z⟩
theorem m_nextM (he : PySem.W.exmOne K cls c = some false) (h : WE (wManyA K Wout (Ends.mk nx rt bk ct) l) σ cls d H) : WE (wManyA K Wout (Ends.mk nx rt bk ct) ((c, i, ts) :: l)) σ cls d H := ⟨false, he, fun z => Bool.noConfusion z, fun _ => h⟩
end
/-- isinstance(e, c), e the error that the suite holds -/
def rIsX (K : PySem.W.Frag) (cls : Value) (d : Option Addr) (a : Addr) : List V → Hp → VK → Prop := fun xs H Q => ∃ D, cls = .ref D ∧ d = none ∧ ExcC K D ∧ rIsE K D a xs H Q
theorem call_isX {a : Addr} {oe : Obj} {cls : Value} {d : Option Addr} {pn : List (Addr × Obj)} (hz : Zc cls d oe) (hf : ∃ vs, oe.data = .fields vs) : CallR (X.suite a ((a, oe) :: pn)) (.builtin "isinstance") (rIsX X.K cls d a) := by
  intro pins s σ H xs us Q I r h
  obtain ⟨D, rfl, rfl, C, h⟩ := h
  exact call_isE C hz hf pins s σ H xs us Q I r h
theorem k_isX {K : PySem.W.Frag} {D C a : Addr} {b : Bool} {H : Hp} {Q : VK} (h : ExcC K D) (e : PySem.W.kitOne K (.ref D) (.ref C) = some b) (q : Q (.bl b) H) : rIsX K (.ref D) none a [.ref a, .ref C] H Q :=
  ⟨D, rfl, rfl, h, .ref C, .ref C, b, rfl, fun _ r => r, e, q⟩
theorem k_isXty {K : PySem.W.Frag} {D a : Addr} {n : String} {b : Bool} {H : Hp} {Q : VK} (h : ExcC K D) (e : PySem.W.kitOne K (.ref D) (.type n) = some b) (q : Q (.bl b) H) : rIsX K (.ref D) none a [.ref a, .ty n] H Q :=
  ⟨D, rfl, rfl, h, .ty n, .type n, b, rfl, fun _ r => r, e, q⟩
end
/-- isinstance(e, (c1, c2, ..)), all of them own classes -/
def rIsXT (K : PySem.W.Frag) (cls : Value) (d : Option Addr) (a : Addr) : List V → Hp → VK → Prop := fun xs H Q => ∃ (D tp : Addr) (cs : List Addr) (b : Bool), cls = .ref D ∧ d = none ∧ ExcC K D ∧ xs = [.ref a, .ref tp] ∧ H tp = some (.tup (cs.map V.ref)) ∧ PySem.W.kitAny K (.ref D) (cs.map Value.ref) = some b ∧ Q (.bl b) H
theorem clsV_all : ∀ cs : List Addr, Paired ClsV (cs.map V.ref) (cs.map Value.ref)
  | [] => .nil
  | c :: cs => .cons (.own c) (clsV_all cs)
theorem call_isXT {X : Cx} {a : Addr} {oe : Obj} {cls : Value} {d : Option Addr} {pn : List (Addr × Obj)} (hz : Zc cls d oe) (hf : ∃ vs, oe.data = .fields vs) : CallR (X.suite a ((a, oe) :: pn)) (.builtin "isinstance") (rIsXT X.K cls d a) := by
  intro pins s σ H xs us Q I r h
  obtain ⟨D, tp, cs, b, rfl, rfl, C, rfl, hT, e, q⟩ := h
  obtain ⟨u1, u2, rfl, r1, r2⟩ := vals2 r
  cases (show u1 = Value.ref a from r1)
  cases (show u2 = Value.ref tp from r2)
  obtain ⟨hget, _⟩ := I.pin (a, oe) (List.mem_append.mpr (.inl List.mem_cons_self))
  obtain ⟨vs, hv⟩ := hf
  have J : PySem.W.InstAt s.heap a oe D none := by
    obtain ⟨oc, od, oda, osl⟩ := oe
    obtain ⟨h1, h2⟩ := hz
    dsimp only at h1 h2 hv
    subst h1 h2 hv
    exact ⟨hget, rfl, rfl, trivial⟩
  obtain ⟨_, its, rv, o, h1, h2, n, h3⟩ := (show ObjOk X.prog X.w H s.heap tp (.tup (cs.map V.ref)) from I.hok tp _ hT)
  have e3 := ClsV.all (clsV_all cs) rv
  subst e3
  obtain ⟨oc, od, dt, sl⟩ := o
  simp only at h2 h3
  subst h2 h3
  exact PySem.W.kia_tup (PySem.W.handS_kitx_exc C.hg C.hk C.hs C.hd C.ha C.hn C.ht C.hm) I.kIn J h1 e (fun z => nomatch z) fun tk => ⟨.bl b, H, I.kept (t' := tk) fun _ _ z => z, rfl, q⟩
theorem kitAny_no {K : PySem.W.Frag} {t : Value} : ∀ us : List Value, (∀ u ∈ us, PySem.W.kitOne K t u = some false) → PySem.W.kitAny K t us = some false
  | [], _ => rfl
  | u :: us, h => kitAny_cons (h u List.mem_cons_self) (fun _ => kitAny_no us fun x hx => h x (List.mem_cons_of_mem _ hx)) (fun z => Bool.noConfusion z)
theorem k_isXT {K : PySem.W.Frag} {D a tp : Addr} {b : Bool} {H : Hp} {Q : VK} (cs : List Addr) (hT : H tp = some (.tup (cs.map V.ref))) (h : ExcC K D) (e : PySem.W.kitAny K (.ref D) (cs.map Value.ref) = some b) (q : Q (.bl b) H) : rIsXT K (.ref D) none a [.ref a, .ref tp] H Q :=
  ⟨D, tp, cs, b, rfl, rfl, h, rfl, hT, e, q⟩
/-! ### the head's facts, with what is asked of errors -/
inductive Fx where
  | excC (x : Str)
  | insC (x : Str)
  | kit (x y : Str) (b : Bool)
  | kitT (x : Str) (t : String) (b : Bool)
  | exm (x y : Str) (b : Bool)
/-- an own class of which isinstance tells -/
structure InsC (K : PySem.W.Frag) (C : Addr) : Prop where
  cl : Cls K C
  ha : PySem.W.findIn K (.ref C) "__class__" = some (some (.builtin "object.__class__"))
  hn : PySem.W.specialIn K (.builtin "object.__class__") "__get__" = some (some (.builtin "getset_descriptor.__get__"))
  ht : PySem.W.takesIn K (.builtin "object.__class__") = some true
  hm : PySem.W.mroIn K C (.type "object") = some true
def Fx.ok (K : PySem.W.Frag) : Fx → Bool
  | .insC x => (He.Fa.cls x).ok K && (He.eqO (PySem.W.findIn K (.ref (He.ga K x)) "__class__") (some (some (.builtin "object.__class__"))) &&
      (He.eqO (PySem.W.specialIn K (.builtin "object.__class__") "__get__") (some (some (.builtin "getset_descriptor.__get__"))) && (decide (PySem.W.takesIn K (.builtin "object.__class__") = some true) && decide (PySem.W.mroIn K (He.ga K x) (.type "object") = some true))))
  | .excC x => He.eqO (PySem.W.findIn K (.ref (He.ga K x)) "__getattribute__") (some (some (.builtin "BaseException.__getattribute__"))) && (He.eqO (PySem.W.findIn K (.ref (He.ga K x)) "__getattr__") (some none) &&
      (decide (PySem.W.subIn K (.ref (He.ga K x)) (.type "BaseException") = some true) && (PySem.W.hasDictIn K (He.ga K x) && (He.eqO (PySem.W.findIn K (.ref (He.ga K x)) "__class__") (some (some (.builtin "object.__class__"))) &&
      (He.eqO (PySem.W.specialIn K (.builtin "object.__class__") "__get__") (some (some (.builtin "getset_descriptor.__get__"))) && (decide (PySem.W.takesIn K (.builtin "object.__class__") = some true) && decide (PySem.W.mroIn K (He.ga K x) (.type "object") = some true)))))))
  | .kit x y b => decide (PySem.W.kitOne K (.ref (He.ga K x)) (.ref (He.ga K y)) = some b)
  | .kitT x t b => decide (PySem.W.kitOne K (.ref (He.ga K x)) (.type t) = some b)
  | .exm x y b => decide (PySem.W.exmOne K (.ref (He.ga K x)) (.ref (He.ga K y)) = some b)
theorem Fx.excC_ok {K : PySem.W.Frag} {x : Str} (c : (Fx.excC x).ok K = true) : ExcC K (He.ga K x) := by
  obtain ⟨c1, c⟩ := He.ba c
  obtain ⟨c2, c⟩ := He.ba c
  obtain ⟨c3, c⟩ := He.ba c
  obtain ⟨c4, c⟩ := He.ba c
  obtain ⟨c5, c⟩ := He.ba c
  obtain ⟨c6, c⟩ := He.ba c
  obtain ⟨c7, c8⟩ := He.ba c
  exact ⟨He.eqO_ok c1, He.eqO_ok c2, of_decide_eq_true c3, c4, He.eqO_ok c5, He.eqO_ok c6, of_decide_eq_true c7, of_decide_eq_true c8⟩
theorem Fx.insC_ok {K : PySem.W.Frag} {x : Str} (c : (Fx.insC x).ok K = true) : InsC K (He.ga K x) := by
  obtain ⟨c1, c⟩ := He.ba c
  obtain ⟨c2, c⟩ := He.ba c
  obtain ⟨c3, c⟩ := He.ba c
  obtain ⟨c4, c5⟩ := He.ba c
  exact ⟨He.cls_ok c1, He.eqO_ok c2, He.eqO_ok c3, of_decide_eq_true c4, of_decide_eq_true c5⟩
theorem k_isOwn {K : PySem.W.Frag} {C D a d : Addr} {fs : List (Str × V)} {b : Bool} {H : Hp} {Q : VK} (i : InsC K C) (e : H a = some (.ins C d fs)) (k : PySem.W.kitOne K (.ref C) (.ref D) = some b) (q : Q (.bl b) H) : rIsi K [.ref a, .ref D] H Q :=
  ⟨.ref a, .ref D, .ref C, .ref D, b, rfl, .own D, .base (.ins e i.cl i.ha i.hn i.ht i.hm), k, q⟩
theorem Fx.kit_ok {K : PySem.W.Frag} {x y : Str} {b : Bool} (c : (Fx.kit x y b).ok K = true) : PySem.W.kitOne K (.ref (He.ga K x)) (.ref (He.ga K y)) = some b := of_decide_eq_true c
theorem Fx.kitT_ok {K : PySem.W.Frag} {x : Str} {t : String} {b : Bool} (c : (Fx.kitT x t b).ok K = true) : PySem.W.kitOne K (.ref (He.ga K x)) (.type t) = some b := of_decide_eq_true c
theorem Fx.exm_ok {K : PySem.W.Frag} {x y : Str} {b : Bool} (c : (Fx.exm x y b).ok K = true) : PySem.W.exmOne K (.ref (He.ga K x)) (.ref (He.ga K y)) = some b := of_decide_eq_true c
abbrev AlF : Type := He.AlD × Bool
def obsF (fa : List He.Fa) (fn : List He.DefD) (fx : List Fx) (K : PySem.W.Frag) : AlF := (He.obsD fa fn K, fx.all fun f => f.ok K)
def SaysF (fa : List He.Fa) (fn : List He.DefD) (fx : List Fx) (K : PySem.W.Frag) : Prop := obsF fa fn fx K = (He.valD fn, true)
def obsFG (n : Nat) (fa : List He.Fa) (fn : List He.DefD) (fx : List Fx) (g : Addr → Option Obj) : AlF := obsF fa fn fx (He.frG g (He.asD g n))
def hookF (n : Nat) (fa : List He.Fa) (fn : List He.DefD) (fx : List Fx) : PySem.W.Hook where
  α := AlF
  obs := fun s => obsFG n fa fn fx s.heap.get?
  val := fun _ => (He.valD fn, true)
  says := fun _ h => ∃ K : PySem.W.Frag, K.In h ∧ SaysF fa fn fx K
  of := fun _ _ e => ⟨_, He.frG_in, e⟩
  keeps := fun _ _ _ ⟨K, hK, c⟩ k => ⟨K, PySem.W.Frag.In.keeps hK k, c⟩
theorem obsFG_eq {n : Nat} {fa : List He.Fa} {fn : List He.DefD} {fx : List Fx} {g : Addr → Option Obj} {s : Shared} (h : ∀ a, g a = s.heap.get? a) : obsFG n fa fn fx g = (hookF n fa fn fx).obs s := by
  have e : g = s.heap.get? := funext h
  rw [e] <;> rfl
theorem SaysF.d {fa : List He.Fa} {fn : List He.DefD} {fx : List Fx} {K : PySem.W.Frag} (c : SaysF fa fn fx K) : He.SaysD fa fn K := congrArg (fun z : AlF => z.1) c
theorem SaysF.fx {fa : List He.Fa} {fn : List He.DefD} {fx : List Fx} {K : PySem.W.Frag} (c : SaysF fa fn fx K) (i : Nat) {f : Fx} (h : fx[i]? = some f := by rfl) : f.ok K = true := by
  have c1 : (fx.all fun f => f.ok K) = true := congrArg (fun z : AlF => z.2) c
  exact List.all_eq_true.mp c1 f (List.mem_of_getElem? h)
end Tw
/-! ### a caught exception handed to another def -/
namespace Tw
open PySem PySem.Spec PyProof.Rows L2
/-- the exception object at a, as it stands -/
def ExcO (a : Addr) (oe : Obj) : HO := .ext fun h => h.get? a = some oe
instance {a : Addr} {oe : Obj} : NT (ExcO a oe) := ⟨fun _ z => by unfold ExcO at z; cases z⟩
theorem excO_ok {P : Program} {w : World} {H : Hp} {h : Heap} {a : Addr} {oe : Obj} (e : h.get? a = some oe) : ObjOk P w H h a (ExcO a oe) :=
  ⟨e, ⟨oe, e⟩, fun _ _ q k => k oe q⟩
def tCallH (sp : Sp) (a : Addr) (cls : Value) (d : Option Addr) (t : TA) : TE := fun σ H Q => t σ H fun vs H1 => ∀ oe, Zc cls d oe → (∃ vs, oe.data = .fields vs) → H1 a = none → sp vs (upd H1 a (ExcO a oe)) (fun v H' => H' a = some (ExcO a oe) ∧ Q v (delH H' a)) E0
section
variable {P : Program} {w : World} {K : PySem.W.Frag} {mg : Str → Option Value} {base : Heap} {A : Around} {outer : List Env} {s s' : Shared} {H : Hp} {a : Addr} {oe : Obj} {Q : VK} {u : Value}
theorem env0_track (e0 : Env0 P w K mg base A outer s H) (hg : s.heap.get? a = some oe) (hn : H a = none) (hf : ∃ vs, oe.data = .fields vs) (hbn : base.get? a = none) : Env0 P w K mg base A outer s (upd H a (ExcO a oe)) := by
  refine ⟨e0.frames, e0.mod, fun b o e => ⟨(e0.bs b o e).1, ?_⟩, e0.bsz, e0.funs, fun b hb => ?_, e0.hok.laidN (fun _ _ q => q) hn (excO_ok hg), e0.bare⟩
  · rw [upd_ne (fun z => by rw [z, hbn] at e; cases e)]; exact (e0.bs b o e).2
  · rw [upd_ne (fun z => ?_)]
    · exact e0.frf b hb
    · subst z
      obtain ⟨vs, hv⟩ := hf
      obtain ⟨_, o2, e2, hnf⟩ := e0.funs.mem hb
      rw [hg] at e2; cases e2
      exact hnf _ hv
theorem ce_untrack (hg : s.heap.get? a = some oe) (hn : H a = none) (h : CE outer P w (upd H a (ExcO a oe)) s (fun v H' => H' a = some (ExcO a oe) ∧ Q v (delH H' a)) u s') (hfr : a ∉ frs outer) : CE outer P w H s Q u s' := by
  obtain ⟨v, H', os, bare, un, ok', r, q0, q⟩ := h
  have hne : ∀ {b}, b ≠ a → H b = none → (upd H a (ExcO a oe)) b = none := fun {b} n z => (upd_ne n).trans z
  refine ⟨v, delH H' a, os, bare, ⟨fun b o e n hb hx => ?_, fun b o e n hb hx => ?_, fun b o e n hx => ?_, un.there, fun b xs e => ?_, fun b o u e => ?_, fun b ps e => ?_⟩, fun b o e => ?_, r, q⟩
  · by_cases z : b = a
    · subst z
      rw [hg] at e; cases e
      exact (ok' b _ q0).1
    · exact un.keep b o e (hne z n) hb hx
  · have z : b ≠ a := fun z => hfr (z ▸ hb)
    exact un.slot b o e (hne z n) hb hx
  · by_cases z : b = a
    · rw [z]; exact delH_same
    · rw [delH_ne z]; exact un.free b o e (hne z n) hx
  · have z : b ≠ a := fun z => by rw [z, hn] at e; cases e
    rw [delH_ne z]; exact un.tups b xs (by rw [upd_ne z]; exact e)
  · have z : b ≠ a := fun z => by rw [z, hn] at e; cases e
    rw [delH_ne z]; exact un.frzs b o u (by rw [upd_ne z]; exact e)
  · have z : b ≠ a := fun z => by rw [z, hn] at e; cases e
    rw [delH_ne z]; exact un.tbls b ps (by rw [upd_ne z]; exact e)
  · have z : b ≠ a := fun z => by rw [z, delH_same] at e; cases e
    rw [delH_ne z] at e
    refine (ok' b o e).stay (fun _ _ _ q => q) (fun c q => ?_) fun c xs q => ?_
    · rw [delH_ne (fun y => by rw [y, q0] at q; cases q)]; exact q
    · rw [delH_ne (fun y => by rw [y, q0] at q; cases q)]; exact q
end
/-! a def that is called where an exception is handled, that neither raises nor walks -/
structure RoomN (k : Nat) (A : Around) : Prop where
  dp : A.depth + 3 * k + 5 < recursionLimit
  un : A.units + 16 * k + 200 < cLine
theorem RoomN.of {k : Nat} {A : Around} (r : Room k A) (v : Option Value) : RoomN k (A.mark v) := ⟨r.dp, r.un⟩
structure FnN (P : Program) (w : World) (K : PySem.W.Frag) (mg : Str → Option Value) (base : Heap) (k : Nat) (f : Addr) (fd : FuncData) (ps : List Str) (sp : Sp) : Prop where
  len : ∀ vs H Q E, sp vs H Q E → vs.length = ps.length
  run : ∀ (A : Around) (outer : List Env) (s : Shared) (H : Hp) (args : Args) (us : List Value) (vs : List V) (Q : VK), RoomN k A → Env0 P w K mg base A outer s H → BindsTo s fd args (ps.zip us) → Vals vs us → sp vs H Q E0 →
    codeAny (model P w) A (.call (.ref f) args) (CR CX0 outer P w H s Q E0) s
def cxN (P : Program) (w : World) (K : PySem.W.Frag) (mg : Str → Option Value) (base : Heap) (N : List Str) (qual : Str) (scope : Scope) (f : Addr) (cd : Value) (A : Around) (outer : List Env) (s : Shared) (H : Hp) : Cx :=
  { (cxOf CX0 P w K mg base N qual scope f cd A outer s H E0).nox with calm := false }
theorem FunD.okN {P : Program} {w : World} {K : PySem.W.Frag} {mg : Str → Option Value} {base : Heap} {x qual : Str} {params : Arguments} {body : List Stmt} {scope : Scope} {dvs : List V} {kws : List (Str × V)} {f : Addr} {fd : FuncData} {N ps : List Str} {k : Nat} {sp : Sp} (F : FunD K x qual params body scope dvs kws f fd) (S : FnScope N ps scope) (len : ∀ vs H Q E, sp vs H Q E → vs.length = ps.length)
    (hbody : ∀ (cdv : Value) (A : Around) (outer : List Env) (s : Shared) (H : Hp) (vs : List V) (Q : VK), RoomN k (A.deeper (envOfC qual scope s.heap.objs.size f cdv)) → sp vs H Q E0 →
      ∃ t, PSs (cxN P w K mg base N qual scope f cdv A outer s H) body t ∧ t { nx := fun _ H' => Q .non H', rt := Q } (start N vs) H) : FnN P w K mg base (k + 1) f fd ps sp := by
  obtain ⟨oc, od, dV, kV, doc, pm, an, cdv, ct, osl, rfl, lk, hcd, _, _⟩ := F.ex
  refine ⟨len, fun A outer s0 H args us vs Q hrm env0 hbd rv hspec => ?_⟩
  have hlen := len _ _ _ _ hspec
  have KXn : K.In s0.heap := env0.mod.kin.keeps fun b o e => (env0.bs b o e).1
  have limN : s0.heap.NoLimit := env0.mod.nolimit.keeps fun b o e => (env0.bs b o e).1
  have kinds : ∀ y ∈ ps.zip us, scope.names.lookup y.1 = some .local ∨ (scope.names.lookup y.1 = some .cell ∧ ((cellsFrom (s0.heap.objs.size + 1) scope.names []).lookup y.1).isSome = true) := fun ⟨n, v⟩ hy =>
    (S.par n (List.of_mem_zip hy).1).imp id fun q => ⟨q, PySem.W.cellsFrom_some _ _ _ (.inl q)⟩
  have dpt : A.depth < recursionLimit := by have := hrm.dp; omega
  refine codeAny_call_function dpt (KXn _ _ lk) rfl S.co S.gen rfl (PySem.W.codeRec_of KXn hcd) (hbd _ _ _ _ ?_)
  refine wpAny_newFunctionEnv_cells S.kind kinds fun env he s2 xin => ?_
  subst he
  refine ⟨limN.keeps xin.toInCall.keep, codeAny_func ?_⟩
  obtain ⟨t, ht, hq⟩ := hbody cdv A outer s0 H vs Q ⟨by have := hrm.dp; show A.depth + 1 + 3 * k + 5 < _; omega, by have := hrm.un; show A.units + 3 + 16 * k + 200 < _; omega⟩ hspec
  have J : Inv (cxOf CX0 P w K mg base N qual scope f cdv { A with handled := none } outer s0 H E0) [] (start N vs) H s2 := inv_start S rfl ⟨env0.frames, env0.mod, env0.bs, env0.bsz, env0.funs, env0.frf, env0.hok, env0.bare⟩ hlen rv xin
  have I : Inv (cxN P w K mg base N qual scope f cdv A outer s0 H) [] (start N vs) H s2 :=
    ⟨⟨J.ok.mod, J.ok.kind, J.ok.glob, J.ok.blt, J.ok.above, J.ok.inj, J.ok.has, J.ok.cab, (fun z => Bool.noConfusion (show false = true from z)), Around.frames_deeper env0.frames, J.ok.stk, J.ok.exf, J.ok.bs, J.ok.bsz, J.ok.noex, J.ok.exfs, J.ok.funs, J.ok.frf⟩, J.os, J.bare, J.base, J.loc, J.cell, J.free, J.freeC, J.pin, J.hok, J.len⟩
  refine wpAny_mono (ht.run [] s2 (start N vs) H _ I hq) (fun fl s' hs => ?_) fun e s' hs => False.elim hs
  cases fl with
  | ret u => obtain ⟨v, σ', H', J, r1, q⟩ := hs; exact ⟨v, H', J.os, J.bare, J.base, J.hok, r1, q⟩
  | next => obtain ⟨σ', H', J, q⟩ := hs; exact ⟨V.non, H', J.os, J.bare, J.base, J.hok, rfl, q⟩
  | brk => obtain ⟨_, _, _, q⟩ := hs; exact False.elim q
  | cont => obtain ⟨_, _, _, q⟩ := hs; exact False.elim q
structure Okn (P : Program) (w : World) (K : PySem.W.Frag) (mg : Str → Option Value) (base : Heap) (k : Nat) (x : Str) (ps : List Str) (sp : Sp) : Prop where
  ex : ∃ fd : FuncData, (∃ (oc : Value) (od : Option Addr) (osl : Array (Option Value)), K.lookup (He.ga K x) = some ⟨oc, od, .func fd, osl⟩) ∧ Binds K fd ps [] ∧ FnN P w K mg base k (He.ga K x) fd ps sp
  kp : PySem.W.keepIn K (.ref (He.ga K x)) = true
  gl : mg x = some (.ref (He.ga K x))
theorem pe_callH {X : Cx} {k j : Nat} {ps : List Str} {sp : Sp} {x : Str} {p pos : Pos} {e : Expr} {es : List Expr} {t : TA} {a : Addr} {oe : Obj} {cls : Value} {d : Option Addr} (hm : (a, oe) ∈ X.pn) (hz : Zc cls d oe) (hf : ∃ vs, oe.data = .fields vs) (hbn : X.base.get? a = none)
    (F : Okn X.prog X.w X.K X.mg X.base k x ps sp) (hr : RoomN j X.A) (hk : k ≤ j) (hg : Gl X x) (ha : PA X (e :: es) t)
    (hdb : (x == ("__debug__" : Str)) = false := by decide) (he : starEach (e :: es) X.env = (false, eval e X.env) :: starEach es X.env := by rfl) (hpl : (backTo pos (starEach es X.env)).any (·.1) = false := by rfl) :
    PE X (.Call (.Name x p) (e :: es) [] pos) (tCallH sp a cls d t) := by
  obtain ⟨fd, _, hb, ok⟩ := F.ex
  refine ⟨fun pins s σ H Q I h => ?_⟩
  refine wpAny_Call_Name_kw (ld_glob I hg F.gl ?_ hdb)
  refine PySem.W.callWith_K (h₀ := X.base) I.ok.mod.kin F.kp (thn (ha.run pos pins s σ H _ I h) fun us s1 ⟨vs, H1, I1, r, q⟩ => ⟨I1.kIn, ?_⟩) he hpl
  obtain ⟨hget, hn, nL, nF, nc⟩ := I1.pin (a, oe) (List.mem_append.mpr (.inl hm))
  have q' := q oe hz hf hn
  have hl : us.length = ps.length := by rw [← r.length]; exact ok.len _ _ _ _ q'
  have E1 := env0_track I1.env0 hget hn hf hbn
  have hfr : a ∉ frs X.stack := fun hb => by
    obtain ⟨vs, hv⟩ := hf
    obtain ⟨_, o2, e2, hnf⟩ := I1.stack.mem hb
    rw [hget] at e2; cases e2
    exact hnf _ hv
  have hB := hb s1 us I1.kIn (by rw [List.append_nil]; exact hl)
  rw [List.append_nil] at hB
  refine wpAny_call (codeAny_mono (ok.run X.A X.stack s1 _ ⟨us, []⟩ us vs _ ⟨by have := hr.dp; omega, by have := hr.un; omega⟩ E1 hB r q') fun r s' hq => ?_)
  cases r with
  | error e => exact False.elim hq
  | ok fl =>
    cases fl with
    | ret u => exact I1.after (ce_untrack hget hn hq hfr)
    | next => exact False.elim hq
    | brk => exact False.elim hq
    | cont => exact False.elim hq
/-- isinstance(e, c), isinstance(e, (c1, c2, ..)): e an exception that was handed on -/
def rIsH (K : PySem.W.Frag) : List V → Hp → VK → Prop := fun xs H Q => ∃ (a D : Addr) (oe : Obj) (c : V), xs = [.ref a, c] ∧ H a = some (ExcO a oe) ∧ Zc (.ref D) none oe ∧ (∃ vs, oe.data = .fields vs) ∧ ExcC K D ∧
  ((∃ (cv : Value) (b : Bool), (∀ u, RelV c u → u = cv) ∧ PySem.W.kitOne K (.ref D) cv = some b ∧ Q (.bl b) H) ∨
   (∃ (tp : Addr) (cs : List Addr) (b : Bool), c = .ref tp ∧ H tp = some (.tup (cs.map V.ref)) ∧ PySem.W.kitAny K (.ref D) (cs.map Value.ref) = some b ∧ Q (.bl b) H))
theorem call_isH {X : Cx} : CallR X (.builtin "isinstance") (rIsH X.K) := by
  intro pins s σ H xs us Q I r h
  obtain ⟨a, D, oe, c, rfl, hH, hz, hf, C, h⟩ := h
  obtain ⟨u1, u2, rfl, r1, r2⟩ := vals2 r
  cases (show u1 = Value.ref a from r1)
  obtain ⟨hget, _, _⟩ := (show ObjOk X.prog X.w H s.heap a (ExcO a oe) from I.hok a _ hH)
  obtain ⟨vs, hv⟩ := hf
  have J : PySem.W.InstAt s.heap a oe D none := by
    obtain ⟨oc, od, oda, osl⟩ := oe
    obtain ⟨h1, h2⟩ := hz
    dsimp only at h1 h2 hv
    subst h1 h2 hv
    exact ⟨hget, rfl, rfl, trivial⟩
  rcases h with ⟨cv, b, hcv, e, q⟩ | ⟨tp, cs, b, rfl, hT, e, q⟩
  · have ec := hcv _ r2
    subst ec
    exact PySem.W.kia_one (PySem.W.handS_kitx_exc C.hg C.hk C.hs C.hd C.ha C.hn C.ht C.hm) I.kIn J e (fun z => nomatch z) fun tk => ⟨.bl b, H, I.kept (t' := tk) fun _ _ z => z, rfl, q⟩
  · cases (show u2 = Value.ref tp from r2)
    obtain ⟨_, its, rv, o, h1, h2, n, h3⟩ := (show ObjOk X.prog X.w H s.heap tp (.tup (cs.map V.ref)) from I.hok tp _ hT)
    have e3 := ClsV.all (clsV_all cs) rv
    subst e3
    obtain ⟨oc, od, dt, sl⟩ := o
    simp only at h2 h3
    subst h2 h3
    exact PySem.W.kia_tup (PySem.W.handS_kitx_exc C.hg C.hk C.hs C.hd C.ha C.hn C.ht C.hm) I.kIn J h1 e (fun z => nomatch z) fun tk => ⟨.bl b, H, I.kept (t' := tk) fun _ _ z => z, rfl, q⟩
section
variable {K : PySem.W.Frag} {H : Hp} {Q : VK} {a D C tp : Addr} {b : Bool} {oe : Obj}
/-- an exception of the class D stands at a -/
def ExcAt (K : PySem.W.Frag) (H : Hp) (a D : Addr) : Prop := ExcC K D ∧ ∃ oe, H a = some (ExcO a oe) ∧ Zc (.ref D) none oe ∧ ∃ vs, oe.data = .fields vs
theorem ExcAt.same {H' : Hp} (h : ExcAt K H a D) (s : Same H H') : ExcAt K H' a D := let ⟨c, oe, e, z, f⟩ := h; ⟨c, oe, s.get e, z, f⟩
theorem k_isH (h : ExcAt K H a D) (e : PySem.W.kitOne K (.ref D) (.ref C) = some b) (q : Q (.bl b) H) : rIsH K [.ref a, .ref C] H Q :=
  let ⟨c, oe, h1, z, f⟩ := h; ⟨a, D, oe, _, rfl, h1, z, f, c, .inl ⟨.ref C, b, fun _ r => r, e, q⟩⟩
theorem k_isHty {n : String} (h : ExcAt K H a D) (e : PySem.W.kitOne K (.ref D) (.type n) = some b) (q : Q (.bl b) H) : rIsH K [.ref a, .ty n] H Q :=
  let ⟨c, oe, h1, z, f⟩ := h; ⟨a, D, oe, _, rfl, h1, z, f, c, .inl ⟨.type n, b, fun _ r => r, e, q⟩⟩
theorem k_isHT (cs : List Addr) (hT : H tp = some (.tup (cs.map V.ref))) (h : ExcAt K H a D) (e : PySem.W.kitAny K (.ref D) (cs.map Value.ref) = some b) (q : Q (.bl b) H) : rIsH K [.ref a, .ref tp] H Q :=
  let ⟨c, oe, h1, z, f⟩ := h; ⟨a, D, oe, _, rfl, h1, z, f, c, .inr ⟨tp, cs, b, rfl, hT, e, q⟩⟩
def CallHK (sp : Sp) (a : Addr) (cls : Value) (d : Option Addr) (Q : VK) (vs : List V) (H1 : Hp) : Prop := ∀ oe, Zc cls d oe → (∃ vs, oe.data = .fields vs) → H1 a = none → sp vs (upd H1 a (ExcO a oe)) (fun v H' => H' a = some (ExcO a oe) ∧ Q v (delH H' a)) E0
theorem m_callH {sp : Sp} {cls : Value} {d : Option Addr} {t : TA} {σ : L2.St} (h : t σ H (CallHK sp a cls d Q)) : tCallH sp a cls d t σ H Q := h
theorem delH_id (h : H a = none) : delH (upd H a (ExcO a oe)) a = H := delH_new h
/-- what stood with the exception stands without it -/
theorem same_del {H' : Hp} (s : L2.Same (upd H a (ExcO a oe)) H') (hn : H a = none) : Same H (delH H' a) := .of fun b o e => by
  have z : b ≠ a := fun z => by rw [z, hn] at e; cases e
  rw [delH_ne z]; exact s b o ((upd_ne z).trans e)
theorem all_new {p : Addr} {o : HO} (h : H p = none) : L2.Same H (upd H p o) := fun b x e => by rw [upd_ne (ne_of_none e h)]; exact e
theorem all_trans {H1 H2 : Hp} (a : L2.Same H H1) (b : L2.Same H1 H2) : L2.Same H H2 := fun c o e => b c o (a c o e)
end
end Tw
/-! ### sorted(set(a list of ints)) -/
namespace SS
open PySem PySem.Spec PyProof.Rows L2
section
variable {P : Program} {w : World} {A : Around} {E : Value → Shared → Prop} {s : Shared}
theorem setR_few {h : Heap} {a : Addr} {S : Int → Bool} {n : Nat} (R : SetR w h a S n) {U : List Int} (hU : ∀ k, S k = true → k ∈ U) : n ≤ U.length := by
  obtain ⟨o, es, ep, t, ho, hex, hd, g, nd, hm, hb, hf, hn, _⟩ := R
  have hs : es.toList.map keyOf ⊆ U := fun k hk => hU k ((hm k).2 hk)
  have := List.Nodup.length_le_of_subset nd hs
  rw [List.length_map, Array.length_toList, hn] at this
  exact this
theorem set_update_few {I : Addr} {fp wr : List Addr} {G : Array GenState → Array GenState → Prop} {n : Nat} {Pv : Nat → Value → Prop} {St : Nat → Shared → Prop} {R : Result → Shared → Prop}
    (W : WalksS P w A.in1 I fp wr G n Pv St) (S : Addr) (hSf : S ∉ fp) (ns U : List Int) (hn : n = ns.length) (hb : U.length + 1 < scanBound) (hU : ∀ k ∈ ns, k ∈ U) (hval : ∀ i v, Pv i v → ∃ k t, ns[i]? = some k ∧ v = .int k t) :
    ∀ (k i : Nat) (s : Shared), n - i = k → i ≤ n → St i s → (∃ c, SetR w s.heap S (fun j => decide (j ∈ ns.take i)) c) →
      (∀ s' c, Moved (S :: wr) G s s' → SetR w s'.heap S (fun j => decide (j ∈ ns)) c → R (.ok (.ret .none)) s') →
      codeAny (model P w) A (.builtin "set.update.loop" ⟨[.ref S, .ref I], []⟩) R s := by
  have hSw : S ∉ wr := fun h => hSf (W.sub _ h)
  have hsub : ∀ b ∈ wr, b ∈ S :: wr := fun b hb => List.mem_cons_of_mem _ hb
  intro k
  induction k with
  | zero =>
    intro i s hk' hi hst ⟨c, hS⟩ hR
    have hin : i = n := by omega
    subst hin
    refine codeAny_builtin F.entry_set_update_loop ?_
    rw [Around.under_plainId F.plain_set_update_loop _]
    show wpAny _ A.in1 (pyNext (.ref I) >>= _) _ _ s
    refine wpAny_bind (W.done s _ _ hst fun s' hm => ?_)
    show wpAny _ A.in1 (ret Value.none) _ _ s'
    have e : ns.take i = ns := List.take_of_length_le (by omega)
    rw [e] at hS
    exact wpAny_pure (hR s' c (hm.mono hsub) (hS.at fun o e => hm.heap S o hSw e))
  | succ k ih =>
    intro i s hk' hi hst ⟨c, hS⟩ hR
    have hlt : i < n := by omega
    refine codeAny_builtin F.entry_set_update_loop ?_
    rw [Around.under_plainId F.plain_set_update_loop _]
    show wpAny _ A.in1 (pyNext (.ref I) >>= _) _ _ s
    refine wpAny_bind (W.item i s _ _ hlt hst fun v s' hP hst' hm => ?_)
    obtain ⟨z, t, hz, rfl⟩ := hval i v hP
    have hS' : SetR w s'.heap S (fun j => decide (j ∈ ns.take i)) c := hS.at fun o e => hm.heap S o hSw e
    have hcU : c ≤ U.length := setR_few hS' fun k hk => hU k (List.mem_of_mem_take (of_decide_eq_true hk))
    show wpAny _ A.in1 (holding [Value.int z t] (setAdd S (.int z t)) >>= _) _ _ s'
    refine wpAny_bind (wpAny_holding ?_)
    unfold setAdd
    refine wpAny_holding ?_
    refine wpAny_bind ((intKind P w).pyHash (k := z) (intKind_is _ _ _ _) ?_)
    refine setR_add_hashed (s := { s' with toks := s'.toks + 1 }) hS' (by omega) fun h' hsb hS2 => ?_
    have hS3 : SetR w h' S (fun j => decide (j ∈ ns.take (i + 1))) (if decide (z ∈ ns.take i) = true then c else c + 1) := hS2.congr fun j => by
      rw [List.take_add_one, hz]
      simp [List.mem_append]
    refine wpAny_pure ⟨plainId_quiet F.plain_set_update_loop _, ih (i + 1) _ (by omega) hlt (W.frame _ s' _ _ hst' (Nat.le_succ _) fun b hb o e => ?_) ⟨_, hS3⟩ fun s'' c2 hm'' hS'' => ?_⟩
    · rw [hsb.2 b (fun h : b = S => hSf (by rw [← h]; exact hb))]; exact e
    · refine hR s'' c2 (Moved.trans W.gtrans ((hm.mono hsub).then_heap (Nat.le_succ _) fun b o hb e => ?_) hm'') hS''
      rw [hsb.2 b (fun h : b = S => hb (by rw [h]; exact List.mem_cons_self))]; exact e
set_option maxRecDepth 100000 in
set_option maxHeartbeats 3200000 in
theorem call_set_listI {l : Addr} {items : Array Value} (ns U : List Int) {Q : Value → Shared → Prop} (hh : A.handled = none) (hl : s.heap.IsList l items) (hit : IntsAre items.toList ns) (hb : U.length + 1 < scanBound) (hU : ∀ k ∈ ns, k ∈ U)
    (h : ∀ (h' : Heap) (tk c : Nat), SetR w h' s.heap.objs.size (fun j => decide (j ∈ ns)) c → (∀ b o, s.heap.get? b = some o → h'.get? b = some o) → Q (.ref s.heap.objs.size) { s with heap := h', toks := tk }) :
    wpAny (model P w) A (call (.type "set") [.ref l]) Q E s := by
  have hisz : items.size = ns.length := by
    have q := IntsAre.length hit
    rw [Array.length_toList] at q
    exact q
  obtain ⟨c, tl, hmro⟩ := F.called_set.mro
  have hmade := F.called_set.made
  have hsub := F.called_set.sub
  refine wpAny_call (codeAny_of_tree ?_)
  show wpAny _ _ (callAny (.type "set") _) _ _ _
  refine wpAny_pure ⟨Code.quiet_builtin _ (by decide +kernel), codeAny_builtin F.entry_type_call ?_⟩
  rw [Around.under_plain (weight_type_call_type "set" [.ref l] []) rfl]
  have h1 := F.called_set.notType
  have h2 := F.called_set.canCreate
  have hct := F.typeCall_set_1 (.ref l)
  repeat (any_goals (first | assumption | wp_step))

  refine codeAny_mono (code_set_led1 (.ref l) (E := E) (Q₁ := fun obj s₁ => obj = .ref s.heap.objs.size ∧ s₁ = { s with heap := s.heap.push { cls := .type "set", dict := none, data := .set #[] 0 (.fresh 0 0 (!w.params.followText "set-order")) } }) ⟨rfl, rfl⟩) fun r s₁ hr => ?_
  cases r with
  | error e => exact hr
  | ok fl =>
    cases fl with
    | ret obj =>
      obtain ⟨rfl, rfl⟩ := hr
      have hS : (s.heap.push { cls := .type "set", dict := none, data := .set #[] 0 (.fresh 0 0 (!w.params.followText "set-order")) }).get? s.heap.objs.size = some { cls := .type "set", dict := none, data := .set #[] 0 (.fresh 0 0 (!w.params.followText "set-order")) } := Heap.get?_push_size _ rfl
      have hT : Shared.TypeIs { s with heap := s.heap.push { cls := .type "set", dict := none, data := .set #[] 0 (.fresh 0 0 (!w.params.followText "set-order")) } } (.ref s.heap.objs.size) "set" := ⟨_, hS, rfl⟩
      have hli := F.called_set.init.lookup
      have hbi := F.called_set.init.bind (.ref s.heap.objs.size)
      repeat (any_goals (first | assumption | wp_step))

      refine codeAny_mono (codeAny_call_builtin (R := wants (fun r s₂ => r = .none ∧ ∃ h' tk c, s₂ = { s with heap := h', toks := tk } ∧ SetR w h' s.heap.objs.size (fun j => decide (j ∈ ns)) c ∧
          (∀ b o, s.heap.get? b = some o → h'.get? b = some o)) E) F.called_set.init.plain F.entry_set_init (check_set_init_1 hT ?_)) fun r₂ s₂ hr₂ => ?_
      · obtain ⟨ol, hol, hcl, nl, hdl⟩ := hl
        obtain ⟨ocls, odict, odata, oslots⟩ := ol
        simp only at hcl hdl
        subst hcl; subst hdl
        have hol' : (s.heap.push { cls := .type "set", dict := none, data := .set #[] 0 (.fresh 0 0 (!w.params.followText "set-order")) }).get? l = some { cls := .type "list", dict := odict, data := .seq items nl, slots := oslots } := Heap.get?_push_of_some _ hol
        have hsls := F.sub_list_set
        have hslf := F.sub_list_frozenset
        have hne : (Value.type "list" == Value.type "dict") = false := by decide
        have hl1 : (s.heap.push { cls := .type "set", dict := none, data := .set #[] 0 (.fresh 0 0 (!w.params.followText "set-order")) }).IsList l items := ⟨_, hol', rfl, nl, rfl⟩
        unfold Builtin.«set.__init__» noKeywords Builtin.Frozenset.updateFrom
        generalize hPI : pyIter = PI
        wp_walk
        subst hPI

        refine wpAny_pyIter_list hl1 ?_
        refine wpAny_bind (wpAny_runValue ?_)
        have hlS : l < s.heap.objs.size := Heap.lt_size hol
        have hh3 : A.in1.in1.in1.handled = none := by simp [hh]
        have hz1 : (s.heap.push { cls := .type "set", dict := none, data := .set #[] 0 (.fresh 0 0 (!w.params.followText "set-order")) }).objs.size = s.heap.objs.size + 1 := Heap.size_push ..
        have hneI : l ≠ (s.heap.push { cls := .type "set", dict := none, data := .set #[] 0 (.fresh 0 0 (!w.params.followText "set-order")) }).objs.size := by
          rw [Heap.size_push]; exact Nat.ne_of_lt (Nat.lt_succ_of_lt hlS)
        have hSf : s.heap.objs.size ∉ [(s.heap.push { cls := .type "set", dict := none, data := .set #[] 0 (.fresh 0 0 (!w.params.followText "set-order")) }).objs.size, l] := by
          rw [Heap.size_push]; simp only [List.mem_cons, List.mem_singleton, List.not_mem_nil, or_false, not_or]
          exact ⟨Nat.ne_of_lt (Nat.lt_succ_self _), Nat.ne_of_gt hlS⟩
        have hval : ∀ (i : Nat) (v : Value), items[i]? = some v → ∃ k t, ns[i]? = some k ∧ v = .int k t := fun i v hv => by
          have hi : i < ns.length := by rw [← hisz]; exact (Array.getElem?_eq_some_iff.mp hv).1
          obtain ⟨t, e⟩ := PyProof.Rows.IntsAre.int_at hit i v (by rw [Array.getElem?_toList]; exact hv)
          refine ⟨ns[i], t, List.getElem?_eq_getElem hi, ?_⟩
          rw [e, List.getD_eq_getElem?_getD, List.getElem?_eq_getElem hi] <;> rfl
        refine set_update_few ((Walks.list hh3 _ l hneI items).toS) s.heap.objs.size
          hSf ns U hisz hb hU hval (items.size - 0) 0 _ (by omega) (Nat.zero_le _)
          ⟨⟨_, Heap.get?_push_size _ rfl, rfl, rfl⟩, (hl1.push _)⟩ ?hS0 ?hR
        case hS0 =>
          have hget : ((s.heap.push { cls := .type "set", dict := none, data := .set #[] 0 (.fresh 0 0 (!w.params.followText "set-order")) }).push { cls := .type "list_iterator", data := .fields #[.ref l, .int 0 0] }).get? s.heap.objs.size
              = some { cls := .type "set", dict := none, data := .set #[] 0 (.fresh 0 0 (!w.params.followText "set-order")) } := Heap.get?_push_of_some _ hS
          exact ⟨0, setR_new_at hget⟩
        case hR =>
          intro s' c' hm hS'
          obtain ⟨h', g2, d', tk', os'⟩ := s'
          have eg : g2 = s.gens := hm.gens
          have ed : d' = s.drawn := hm.drawn
          have eo : os' = s.os := hm.os
          subst eg; subst ed; subst eo
          show wpAny _ _ _ _ _ _
          refine wpAny_pure ?_
          show wpAny _ _ (ret Value.none) _ _ _
          refine wpAny_pure ⟨rfl, h', tk', c', rfl, hS', fun b o e => ?_⟩
          have hb0 : b < s.heap.objs.size := Heap.lt_size e
          have hb1 : b ≠ s.heap.objs.size := Nat.ne_of_lt hb0
          have hb2 : b ≠ (s.heap.push { cls := .type "set", dict := none, data := .set #[] 0 (.fresh 0 0 (!w.params.followText "set-order")) }).objs.size := by
            rw [Heap.size_push]; exact Nat.ne_of_lt (Nat.lt_succ_of_lt hb0)
          exact hm.heap b o (by simp only [List.mem_cons, List.mem_singleton, List.not_mem_nil, or_false, not_or]; exact ⟨hb1, hb2⟩) (Heap.get?_push_of_some _ (Heap.get?_push_of_some _ e))

      · cases r₂ with
        | error e => exact hr₂
        | ok fl₂ =>
          cases fl₂ with
          | ret r =>
            obtain ⟨rfl, h', tk, c', rfl, hS', hk'⟩ := hr₂
            repeat (any_goals (first | assumption | wp_step))
            exact h _ _ _ hS' hk'
          | _ => exact hr₂.elim
    | _ => exact hr.elim
theorem sorted_setU {a : Addr} {S : Int → Bool} {n : Nat} {Q : Value → Shared → Prop} (R : SetR w s.heap a S n) (hh : A.handled = none)
    (hQ : ∀ s' p (out : Array Value) (c : Nat) (ns : List Int), (∀ b o, s.heap.get? b = some o → s'.heap.get? b = some o) → s'.gens = s.gens → s'.os = s.os → s.heap.objs.size ≤ p →
      s'.heap.get? p = some (seqObj "list" out c) → IntsAre out.toList ns → ns.Pairwise (· < ·) → (∀ k, k ∈ ns ↔ S k = true) → ns.length = n → n < scanBound → Q (.ref p) s') :
    wpAny (model P w) A (call (.builtin "sorted") [.ref a]) Q E s := by
  obtain ⟨o, es, ep, t, ho, hex, hd, g, nd, hm, hb, hf, hn, hr, hl⟩ := R
  refine Calls.call_function_entry kind_sorted plain_sorted entry_sorted (args_sorted1 _) ?_
  unfold Builtin.«sorted»
  refine wpAny_bind (m := checkCount "sorted" 1 1 _) (wpAny_pure ?_)
  refine wpAny_bind (collect_set (A := A.in1) hh ⟨o, ho, hex.1, hd⟩ hf hb hr hl fun s1 vs k1 hz g1 o1 pm => ?_)
  have hvl : vs.length = n := by rw [pm.length_eq, List.length_map, Array.length_toList]; exact hn
  have hzl : vs.length ≤ sizeLine := by rw [hvl, sizeLine_eq]; unfold scanBound at hb; omega
  have hI : IntsAre vs (vs.map Builtin.Re.reRawOf) := ints_of vs fun v hv => by
    obtain ⟨e, he, q⟩ := List.mem_map.mp (pm.mem_iff.mp hv)
    obtain ⟨k, tk, h1, _⟩ := g e he
    exact ⟨k, tk, by rw [← q]; exact h1⟩
  have pk : (vs.map Builtin.Re.reRawOf).Perm (es.toList.map keyOf) := by
    have q := pm.map Builtin.Re.reRawOf
    rw [List.map_map] at q
    exact q
  refine wpAny_bind (wpAny_newList ?_ hzl)
  have hoL : (s1.heap.push (seqObj "list" vs.toArray 0)).get? s1.heap.objs.size = some (seqObj "list" vs.toArray 0) := Heap.get?_push_size _ rfl
  refine wpAny_bind (wpAny_holding (wpAny_call_entry slot_list_sort ⟨_, hoL, rfl⟩ entry_list_sort (SrtO.list_sort_ord SrtO.swo_int hoL hzl (fun h2 => SrtO.ints_sortable hI h2) fun out h1 h2 => ⟨_, rfl, ?_⟩) (args_list_sort _)))
  obtain ⟨a1, a2, a3⟩ := SrtO.ints_out hI h1 h2
  obtain ⟨c, hc⟩ := sortedHeap_at (vs := vs) (out := out.toArray) hoL
  have pn : (out.map SrtO.iv).Perm (es.toList.map keyOf) := a2.trans pk
  refine wpAny_pure ⟨_, rfl, hQ _ s1.heap.objs.size out.toArray c (out.map SrtO.iv) (fun b u e => ?_) g1 o1 hz hc (by rw [List.toList_toArray]; exact a1) (lt_of_le_nodup _ a3 (pn.nodup_iff.mpr nd)) (fun k => by rw [pn.mem_iff, ← hm k]) ?_ (by rw [← hn]; exact hb)⟩
  · have q := k1 b u e
    have hlt := Heap.lt_size q
    show (sortedHeap (s1.heap.push (seqObj "list" vs.toArray 0)) s1.heap.objs.size vs out.toArray).get? b = some u
    rw [sortedHeap_old (Nat.ne_of_lt hlt) (by rw [size_push']; exact Nat.lt_succ_of_lt hlt)]
    exact Heap.get?_push_of_some _ q
  · rw [pn.length_eq, List.length_map, Array.length_toList]; exact hn
end
end SS
namespace Tw
open PySem PySem.Spec PyProof.Rows L2
/-- sorted(set(xs)) -/
def SortSetK (K : PySem.W.Frag) (Q : VK) (x : V) (H : Hp) : Prop := ∃ (l : Addr) (ns U : List Int), x = .ref l ∧ SqL K H l (ns.map V.int) ∧ U.length ≤ 4090 ∧ (∀ k ∈ ns, k ∈ U) ∧ ∀ (ks : List Int) (p : Addr), ks.Pairwise (· < ·) → (∀ k, k ∈ ks ↔ k ∈ ns) → H p = none → Q (.ref p) (upd H p (.lst (ks.map V.int)))
def tSortSet (K : PySem.W.Frag) (ta : TE) : TE := fun σ H Q => ta σ H (SortSetK K Q)
theorem m_sortSet {K : PySem.W.Frag} {ta : TE} {σ : L2.St} {H : Hp} {Q : VK} (h : ta σ H (SortSetK K Q)) : tSortSet K ta σ H Q := h
theorem m_sortSetE {K : PySem.W.Frag} {H : Hp} {Q : VK} {l : Addr} {ns : List Int} (hS : SqL K H l (ns.map V.int)) (hn : ns.length ≤ 4090) (q : ∀ (ks : List Int) (p : Addr), ks.Pairwise (· < ·) → (∀ k, k ∈ ks ↔ k ∈ ns) → H p = none → Q (.ref p) (upd H p (.lst (ks.map V.int)))) : SortSetK K Q (.ref l) H := ⟨l, ns, ns, rfl, hS, hn, fun _ h => h, q⟩
theorem sort_step {X : Cx} {pins : List (Addr × Obj)} {σ : L2.St} {H : Hp} {s1 : Shared} {a : Addr} {S : Int → Bool} {c : Nat} {Q : VK} (I2 : Inv X pins σ H s1) (hh : X.A.handled = none) (hS : SetR X.w s1.heap a S c)
    (q1 : ∀ (ks : List Int) (p : Addr), ks.Pairwise (· < ·) → (∀ k, k ∈ ks ↔ S k = true) → H p = none → Q (.ref p) (upd H p (.lst (ks.map V.int)))) : wpAny (model X.prog X.w) X.A (call (.builtin "sorted") [.ref a]) (EP X pins σ Q) X.xe s1 := by
  refine SS.sorted_setU hS hh fun s' p out c ks k g o hp hg' hi hsrt hmem hlen hb => ?_
  have hzl : (ks.map V.int).length ≤ sizeLine := by rw [List.length_map, hlen, sizeLine_eq]; unfold scanBound at hb; omega
  have hn : H p = none := I2.hok.fresh hp
  have J : Inv X pins σ (upd H p (.lst (ks.map V.int))) { s1 with heap := s'.heap, gens := s'.gens, drawn := s'.drawn, toks := s'.toks } :=
    I2.call (ch := []) (Un.laid k hp hn) (I2.hok.laid k hp ⟨hzl, out.toList, c, vals_of_ints hi, hg'⟩) (by rw [g]; exact I2.bare) (fun _ z => nomatch z)
  have e : s' = { s1 with heap := s'.heap, gens := s'.gens, drawn := s'.drawn, toks := s'.toks } := by
    cases s'
    cases s1
    cases o
    rfl
  rw [e]
  exact ⟨.ref p, _, J, rfl, q1 ks p hsrt hmem hn⟩
theorem pe_sortSet {X : Cx} {a : Expr} {ta : TE} {p p2 q pos : Pos} (hg : Gl X "sorted") (hm : X.mg "sorted" = none) (hg2 : Gl X "set") (hm2 : X.mg "set" = none) (ha : PE X a ta) (hc : X.calm = true := by rfl)
    (na : starEach [a] X.env = (false, eval a X.env) :: starEach [] X.env := by rfl) : PE X (.Call (.Name "sorted" p) [.Call (.Name "set" p2) [a] [] q] [] pos) (tSortSet X.K ta) := by
  refine ⟨fun pins s σ H Q I h => ?_⟩
  refine Call_ (ld_blt I hg hm boot_sorted ?_)
  refine PyProof.Rows.callWith_builtin1 (PyProof.Rows.args_cons ?_ rfl) rfl rfl
  refine Call_ (ld_blt I hg2 hm2 boot_set ?_)
  refine PyProof.Rows.callWith_type1 (PyProof.Rows.args_cons (thn (ha.run pins s σ H _ I h) fun v s1 ⟨x, H1, I1, r1, q1⟩ => PyProof.Rows.args_nil ?_) na) na rfl
  obtain ⟨l, ns, U, rfl, hq, hU, hs, q1⟩ := q1
  cases r1
  obtain ⟨its, r, pl, hz⟩ := I1.list hq
  refine SS.call_set_listI ns U (I1.ok.hd hc) pl.isList (by simpa using intsAre_vals r) (by unfold scanBound; omega) hs fun h' tk c hS hk => ?_
  refine PyProof.Rows.args_nil ?_
  have I2 : Inv X pins σ H1 { s1 with heap := h', toks := tk } := I1.kept hk
  exact sort_step I2 (I1.ok.hd hc) hS fun ks p h1 h2 h3 => q1 ks p h1 (fun k => by rw [h2 k]; exact decide_eq_true_iff) h3
end Tw
open PySem PySem.Spec PyProof.Rows L2 Tw
set_option hygiene false in
local macro_rules | `(tactic| walk_at "s1") => `(tactic| first
  | with_reducible refine m_seq ?_
  | with_reducible refine k_asg ?_
  | with_reducible refine m_asg ?_
  | ((with_reducible refine' k_var ?kv ?_); case kv => walk_at "look")
  | with_reducible refine k_c ?_
  | with_reducible refine k_op ?_
  | with_reducible refine k_I0 ?_
  | ((with_reducible refine k_I ?kv ?_); case kv => walk_at "cond")
  | with_reducible refine k_and1 ?_
  | with_reducible refine k_eqI ?_
  | with_reducible refine k_neI ?_
  | ((with_reducible refine k_eq ?kv ?_); case kv => exact rfl)
  | ((with_reducible refine k_ne ?kv ?_); case kv => exact rfl)
  | with_reducible refine k_isN ?_
  | with_reducible refine k_notN ?_
  | with_reducible refine k_nx ?_
  | with_reducible refine k_rt ?_
  | with_reducible refine m_next ?_
  | with_reducible refine m_bk ?_
  | with_reducible refine m_ct ?_
  | with_reducible refine k_if ?_
  | with_reducible refine k_test ?_
  | with_reducible refine k_tB ?_
  | with_reducible refine k_bl ?_
  | with_reducible refine k_chain ?_
  | with_reducible refine k_chainE ?_
  | with_reducible refine k_not ?_
  | with_reducible refine k_and ?_
  | with_reducible refine k_or ?_
  | with_reducible refine k_andV ?_
  | with_reducible refine k_orV ?_
  | with_reducible refine k_notV ?_
  | with_reducible refine k_ifE ?_
  | with_reducible refine k_ret ?_
  | with_reducible refine k_retN ?_
  | with_reducible refine k_drop ?_
  | with_reducible refine k_cons ?_
  | with_reducible refine k_nil ?_
  | with_reducible refine m_call ?_
  | with_reducible refine m_callS ?_
  | with_reducible refine k_rz ?_
  | with_reducible refine m_tryAs ?_
  | with_reducible refine m_tryOnly ?_
  | with_reducible refine m_tryM ?_
  | with_reducible refine k_cb ?_
  | with_reducible refine k_tup ?_
  | with_reducible refine k_lst ?_
  | ((with_reducible refine' k_aug ?kv ?_); case kv => exact rfl)
  | with_reducible refine k_ipI ?_
  | with_reducible refine k_un ?_
  | with_reducible refine k_U ?_
  | with_reducible refine k_sl ?_
  | with_reducible refine k_part ?_
  | with_reducible refine k_noPart ?_
  | with_reducible refine k_partE ?_
  | with_reducible refine k_bm ?_
  | with_reducible refine k_bm0 ?_
  | with_reducible refine k_isInt ?_
  | with_reducible refine k_isBool ?_
  | with_reducible refine k_min2 ?_
  | with_reducible refine k_max2 ?_
  | with_reducible refine m_gName ?_
  | with_reducible refine m_for ?_
  | with_reducible refine m_rng1 ?_
  | ((with_reducible refine m_rng1n ?kv ?_); case kv => walk_at "arith")
  | ((with_reducible refine m_rng1e ?kv ?_); case kv => walk_at "arith")
  | with_reducible refine m_rng2 ?_
  | ((with_reducible refine m_rng2e ?kv ?_); case kv => walk_at "arith")
  | with_reducible refine m_iL ?_
  | with_reducible refine m_iT ?_
  | with_reducible refine m_lc ?_
  | ((with_reducible refine k_disp ?kv ?_); case kv => (first | decide | (simp only [List.length_cons, List.length_nil]; omega)))
  | with_reducible refine m_rev ?_
  | with_reducible refine m_revL ?_
  | with_reducible refine m_enum ?_
  | with_reducible refine m_zip ?_
  | with_reducible refine m_rng3 ?_
  | with_reducible refine m_gCons ?_
  | with_reducible refine m_gNil ?_
  | with_reducible refine m_gSub ?_
  | with_reducible refine m_par ?_
  | with_reducible refine m_parE ?_
  | with_reducible refine m_wbody ?_
  | with_reducible refine m_lenSet ?_
  | with_reducible refine m_minD ?_
  | ((with_reducible refine' m_callV ?kv ?kf ?_); (case kv => walk_at "look"); (case kf => walk_at "isfn"))
  | with_reducible refine k_yes ?_
  | with_reducible refine k_T ?_
  | with_reducible refine k_F ?_
  | with_reducible refine k_nT ?_
  | with_reducible refine k_nF ?_)
local macro_rules | `(tactic| walk_at "cond") => `(tactic| first | exact ⟨by decide, by decide⟩ | omega | decide | exact ⟨by omega, by omega⟩ | exact ⟨by omega, by omega, by decide⟩ | exact Or.inr (by omega) | exact Or.inr (by decide) | exact Or.inl (by omega) | exact Or.inl (by decide) | assumption)
local macro_rules | `(tactic| walk_at "st") => `(tactic| repeat (walk_at "s1"))
local macro_rules | `(tactic| walk_at "look") => `(tactic| first | exact rfl | (simp only [List.getElem?_set, List.getElem?_cons_zero, List.getElem?_cons_succ]; exact rfl))
local macro_rules | `(tactic| walk_at "if") => `(tactic| first | with_reducible apply k_dec | with_reducible apply k_ndec)
local macro_rules | `(tactic| walk_at "arith") => `(tactic| first | decide | omega | (simp only [List.length_map, List.length_take, List.length_drop, List.length_append, List.length_cons, List.length_nil] at *; first | omega | (split <;> omega) | (split <;> split <;> omega)))
local macro_rules | `(tactic| walk_at "isfn") => `(tactic| assumption)
namespace Tw
structure KFx (K : PySem.W.Frag) : Prop where
  ec_NoBit : ExcC K (He.ga K "NoBit")
  kt_NoBit : PySem.W.kitOne K (.ref (He.ga K "NoBit")) (.type "ValueError") = some true
  k_NoBit_NoBit : PySem.W.kitOne K (.ref (He.ga K "NoBit")) (.ref (He.ga K "NoBit")) = some true
  e_NoBit_NoBit : PySem.W.exmOne K (.ref (He.ga K "NoBit")) (.ref (He.ga K "NoBit")) = some true
  k_NoBit_NoNode : PySem.W.kitOne K (.ref (He.ga K "NoBit")) (.ref (He.ga K "NoNode")) = some false
  e_NoBit_NoNode : PySem.W.exmOne K (.ref (He.ga K "NoBit")) (.ref (He.ga K "NoNode")) = some false
  k_NoBit_NoOctets : PySem.W.kitOne K (.ref (He.ga K "NoBit")) (.ref (He.ga K "NoOctets")) = some false
  e_NoBit_NoOctets : PySem.W.exmOne K (.ref (He.ga K "NoBit")) (.ref (He.ga K "NoOctets")) = some false
  k_NoBit_NoPlace : PySem.W.kitOne K (.ref (He.ga K "NoBit")) (.ref (He.ga K "NoPlace")) = some false
  e_NoBit_NoPlace : PySem.W.exmOne K (.ref (He.ga K "NoBit")) (.ref (He.ga K "NoPlace")) = some false
  k_NoBit_NoSign : PySem.W.kitOne K (.ref (He.ga K "NoBit")) (.ref (He.ga K "NoSign")) = some false
  e_NoBit_NoSign : PySem.W.exmOne K (.ref (He.ga K "NoBit")) (.ref (He.ga K "NoSign")) = some false
  k_NoBit_NoTree : PySem.W.kitOne K (.ref (He.ga K "NoBit")) (.ref (He.ga K "NoTree")) = some false
  e_NoBit_NoTree : PySem.W.exmOne K (.ref (He.ga K "NoBit")) (.ref (He.ga K "NoTree")) = some false
  k_NoBit_NoWord : PySem.W.kitOne K (.ref (He.ga K "NoBit")) (.ref (He.ga K "NoWord")) = some false
  e_NoBit_NoWord : PySem.W.exmOne K (.ref (He.ga K "NoBit")) (.ref (He.ga K "NoWord")) = some false
  k_NoBit_TooMany : PySem.W.kitOne K (.ref (He.ga K "NoBit")) (.ref (He.ga K "TooMany")) = some false
  e_NoBit_TooMany : PySem.W.exmOne K (.ref (He.ga K "NoBit")) (.ref (He.ga K "TooMany")) = some false
  k_NoBit_Twice : PySem.W.kitOne K (.ref (He.ga K "NoBit")) (.ref (He.ga K "Twice")) = some false
  e_NoBit_Twice : PySem.W.exmOne K (.ref (He.ga K "NoBit")) (.ref (He.ga K "Twice")) = some false
  k_NoBit_WoodError : PySem.W.kitOne K (.ref (He.ga K "NoBit")) (.ref (He.ga K "WoodError")) = some true
  e_NoBit_WoodError : PySem.W.exmOne K (.ref (He.ga K "NoBit")) (.ref (He.ga K "WoodError")) = some true
  ec_NoNode : ExcC K (He.ga K "NoNode")
  kt_NoNode : PySem.W.kitOne K (.ref (He.ga K "NoNode")) (.type "ValueError") = some true
  k_NoNode_NoBit : PySem.W.kitOne K (.ref (He.ga K "NoNode")) (.ref (He.ga K "NoBit")) = some false
  e_NoNode_NoBit : PySem.W.exmOne K (.ref (He.ga K "NoNode")) (.ref (He.ga K "NoBit")) = some false
  k_NoNode_NoNode : PySem.W.kitOne K (.ref (He.ga K "NoNode")) (.ref (He.ga K "NoNode")) = some true
  e_NoNode_NoNode : PySem.W.exmOne K (.ref (He.ga K "NoNode")) (.ref (He.ga K "NoNode")) = some true
  k_NoNode_NoOctets : PySem.W.kitOne K (.ref (He.ga K "NoNode")) (.ref (He.ga K "NoOctets")) = some false
  e_NoNode_NoOctets : PySem.W.exmOne K (.ref (He.ga K "NoNode")) (.ref (He.ga K "NoOctets")) = some false
  k_NoNode_NoPlace : PySem.W.kitOne K (.ref (He.ga K "NoNode")) (.ref (He.ga K "NoPlace")) = some false
  e_NoNode_NoPlace : PySem.W.exmOne K (.ref (He.ga K "NoNode")) (.ref (He.ga K "NoPlace")) = some false
  k_NoNode_NoSign : PySem.W.kitOne K (.ref (He.ga K "NoNode")) (.ref (He.ga K "NoSign")) = some false
  e_NoNode_NoSign : PySem.W.exmOne K (.ref (He.ga K "NoNode")) (.ref (He.ga K "NoSign")) = some false
  k_NoNode_NoTree : PySem.W.kitOne K (.ref (He.ga K "NoNode")) (.ref (He.ga K "NoTree")) = some false
  e_NoNode_NoTree : PySem.W.exmOne K (.ref (He.ga K "NoNode")) (.ref (He.ga K "NoTree")) = some false
  k_NoNode_NoWord : PySem.W.kitOne K (.ref (He.ga K "NoNode")) (.ref (He.ga K "NoWord")) = some false
  e_NoNode_NoWord : PySem.W.exmOne K (.ref (He.ga K "NoNode")) (.ref (He.ga K "NoWord")) = some false
  k_NoNode_TooMany : PySem.W.kitOne K (.ref (He.ga K "NoNode")) (.ref (He.ga K "TooMany")) = some false
  e_NoNode_TooMany : PySem.W.exmOne K (.ref (He.ga K "NoNode")) (.ref (He.ga K "TooMany")) = some false
  k_NoNode_Twice : PySem.W.kitOne K (.ref (He.ga K "NoNode")) (.ref (He.ga K "Twice")) = some false
  e_NoNode_Twice : PySem.W.exmOne K (.ref (He.ga K "NoNode")) (.ref (He.ga K "Twice")) = some false
  k_NoNode_WoodError : PySem.W.kitOne K (.ref (He.ga K "NoNode")) (.ref (He.ga K "WoodError")) = some true
  e_NoNode_WoodError : PySem.W.exmOne K (.ref (He.ga K "NoNode")) (.ref (He.ga K "WoodError")) = some true
  ec_NoOctets : ExcC K (He.ga K "NoOctets")
  kt_NoOctets : PySem.W.kitOne K (.ref (He.ga K "NoOctets")) (.type "ValueError") = some true
  k_NoOctets_NoBit : PySem.W.kitOne K (.ref (He.ga K "NoOctets")) (.ref (He.ga K "NoBit")) = some false
  e_NoOctets_NoBit : PySem.W.exmOne K (.ref (He.ga K "NoOctets")) (.ref (He.ga K "NoBit")) = some false
  k_NoOctets_NoNode : PySem.W.kitOne K (.ref (He.ga K "NoOctets")) (.ref (He.ga K "NoNode")) = some false
  e_NoOctets_NoNode : PySem.W.exmOne K (.ref (He.ga K "NoOctets")) (.ref (He.ga K "NoNode")) = some false
  k_NoOctets_NoOctets : PySem.W.kitOne K (.ref (He.ga K "NoOctets")) (.ref (He.ga K "NoOctets")) = some true
  e_NoOctets_NoOctets : PySem.W.exmOne K (.ref (He.ga K "NoOctets")) (.ref (He.ga K "NoOctets")) = some true
  k_NoOctets_NoPlace : PySem.W.kitOne K (.ref (He.ga K "NoOctets")) (.ref (He.ga K "NoPlace")) = some false
  e_NoOctets_NoPlace : PySem.W.exmOne K (.ref (He.ga K "NoOctets")) (.ref (He.ga K "NoPlace")) = some false
  k_NoOctets_NoSign : PySem.W.kitOne K (.ref (He.ga K "NoOctets")) (.ref (He.ga K "NoSign")) = some false
  e_NoOctets_NoSign : PySem.W.exmOne K (.ref (He.ga K "NoOctets")) (.ref (He.ga K "NoSign")) = some false
  k_NoOctets_NoTree : PySem.W.kitOne K (.ref (He.ga K "NoOctets")) (.ref (He.ga K "NoTree")) = some false
  e_NoOctets_NoTree : PySem.W.exmOne K (.ref (He.ga K "NoOctets")) (.ref (He.ga K "NoTree")) = some false
  k_NoOctets_NoWord : PySem.W.kitOne K (.ref (He.ga K "NoOctets")) (.ref (He.ga K "NoWord")) = some false
  e_NoOctets_NoWord : PySem.W.exmOne K (.ref (He.ga K "NoOctets")) (.ref (He.ga K "NoWord")) = some false
  k_NoOctets_TooMany : PySem.W.kitOne K (.ref (He.ga K "NoOctets")) (.ref (He.ga K "TooMany")) = some false
  e_NoOctets_TooMany : PySem.W.exmOne K (.ref (He.ga K "NoOctets")) (.ref (He.ga K "TooMany")) = some false
  k_NoOctets_Twice : PySem.W.kitOne K (.ref (He.ga K "NoOctets")) (.ref (He.ga K "Twice")) = some false
  e_NoOctets_Twice : PySem.W.exmOne K (.ref (He.ga K "NoOctets")) (.ref (He.ga K "Twice")) = some false
  k_NoOctets_WoodError : PySem.W.kitOne K (.ref (He.ga K "NoOctets")) (.ref (He.ga K "WoodError")) = some true
  e_NoOctets_WoodError : PySem.W.exmOne K (.ref (He.ga K "NoOctets")) (.ref (He.ga K "WoodError")) = some true
  ec_NoPlace : ExcC K (He.ga K "NoPlace")
  kt_NoPlace : PySem.W.kitOne K (.ref (He.ga K "NoPlace")) (.type "ValueError") = some true
  k_NoPlace_NoBit : PySem.W.kitOne K (.ref (He.ga K "NoPlace")) (.ref (He.ga K "NoBit")) = some false
  e_NoPlace_NoBit : PySem.W.exmOne K (.ref (He.ga K "NoPlace")) (.ref (He.ga K "NoBit")) = some false
  k_NoPlace_NoNode : PySem.W.kitOne K (.ref (He.ga K "NoPlace")) (.ref (He.ga K "NoNode")) = some false
  e_NoPlace_NoNode : PySem.W.exmOne K (.ref (He.ga K "NoPlace")) (.ref (He.ga K "NoNode")) = some false
  k_NoPlace_NoOctets : PySem.W.kitOne K (.ref (He.ga K "NoPlace")) (.ref (He.ga K "NoOctets")) = some false
  e_NoPlace_NoOctets : PySem.W.exmOne K (.ref (He.ga K "NoPlace")) (.ref (He.ga K "NoOctets")) = some false
  k_NoPlace_NoPlace : PySem.W.kitOne K (.ref (He.ga K "NoPlace")) (.ref (He.ga K "NoPlace")) = some true
  e_NoPlace_NoPlace : PySem.W.exmOne K (.ref (He.ga K "NoPlace")) (.ref (He.ga K "NoPlace")) = some true
  k_NoPlace_NoSign : PySem.W.kitOne K (.ref (He.ga K "NoPlace")) (.ref (He.ga K "NoSign")) = some false
  e_NoPlace_NoSign : PySem.W.exmOne K (.ref (He.ga K "NoPlace")) (.ref (He.ga K "NoSign")) = some false
  k_NoPlace_NoTree : PySem.W.kitOne K (.ref (He.ga K "NoPlace")) (.ref (He.ga K "NoTree")) = some false
  e_NoPlace_NoTree : PySem.W.exmOne K (.ref (He.ga K "NoPlace")) (.ref (He.ga K "NoTree")) = some false
  k_NoPlace_NoWord : PySem.W.kitOne K (.ref (He.ga K "NoPlace")) (.ref (He.ga K "NoWord")) = some false
  e_NoPlace_NoWord : PySem.W.exmOne K (.ref (He.ga K "NoPlace")) (.ref (He.ga K "NoWord")) = some false
  k_NoPlace_TooMany : PySem.W.kitOne K (.ref (He.ga K "NoPlace")) (.ref (He.ga K "TooMany")) = some false
  e_NoPlace_TooMany : PySem.W.exmOne K (.ref (He.ga K "NoPlace")) (.ref (He.ga K "TooMany")) = some false
  k_NoPlace_Twice : PySem.W.kitOne K (.ref (He.ga K "NoPlace")) (.ref (He.ga K "Twice")) = some false
  e_NoPlace_Twice : PySem.W.exmOne K (.ref (He.ga K "NoPlace")) (.ref (He.ga K "Twice")) = some false
  k_NoPlace_WoodError : PySem.W.kitOne K (.ref (He.ga K "NoPlace")) (.ref (He.ga K "WoodError")) = some true
  e_NoPlace_WoodError : PySem.W.exmOne K (.ref (He.ga K "NoPlace")) (.ref (He.ga K "WoodError")) = some true
  ec_NoSign : ExcC K (He.ga K "NoSign")
  kt_NoSign : PySem.W.kitOne K (.ref (He.ga K "NoSign")) (.type "ValueError") = some true
  k_NoSign_NoBit : PySem.W.kitOne K (.ref (He.ga K "NoSign")) (.ref (He.ga K "NoBit")) = some false
  e_NoSign_NoBit : PySem.W.exmOne K (.ref (He.ga K "NoSign")) (.ref (He.ga K "NoBit")) = some false
  k_NoSign_NoNode : PySem.W.kitOne K (.ref (He.ga K "NoSign")) (.ref (He.ga K "NoNode")) = some false
  e_NoSign_NoNode : PySem.W.exmOne K (.ref (He.ga K "NoSign")) (.ref (He.ga K "NoNode")) = some false
  k_NoSign_NoOctets : PySem.W.kitOne K (.ref (He.ga K "NoSign")) (.ref (He.ga K "NoOctets")) = some false
  e_NoSign_NoOctets : PySem.W.exmOne K (.ref (He.ga K "NoSign")) (.ref (He.ga K "NoOctets")) = some false
  k_NoSign_NoPlace : PySem.W.kitOne K (.ref (He.ga K "NoSign")) (.ref (He.ga K "NoPlace")) = some false
  e_NoSign_NoPlace : PySem.W.exmOne K (.ref (He.ga K "NoSign")) (.ref (He.ga K "NoPlace")) = some false
  k_NoSign_NoSign : PySem.W.kitOne K (.ref (He.ga K "NoSign")) (.ref (He.ga K "NoSign")) = some true
  e_NoSign_NoSign : PySem.W.exmOne K (.ref (He.ga K "NoSign")) (.ref (He.ga K "NoSign")) = some true
  k_NoSign_NoTree : PySem.W.kitOne K (.ref (He.ga K "NoSign")) (.ref (He.ga K "NoTree")) = some false
  e_NoSign_NoTree : PySem.W.exmOne K (.ref (He.ga K "NoSign")) (.ref (He.ga K "NoTree")) = some false
  k_NoSign_NoWord : PySem.W.kitOne K (.ref (He.ga K "NoSign")) (.ref (He.ga K "NoWord")) = some false
  e_NoSign_NoWord : PySem.W.exmOne K (.ref (He.ga K "NoSign")) (.ref (He.ga K "NoWord")) = some false
  k_NoSign_TooMany : PySem.W.kitOne K (.ref (He.ga K "NoSign")) (.ref (He.ga K "TooMany")) = some false
  e_NoSign_TooMany : PySem.W.exmOne K (.ref (He.ga K "NoSign")) (.ref (He.ga K "TooMany")) = some false
  k_NoSign_Twice : PySem.W.kitOne K (.ref (He.ga K "NoSign")) (.ref (He.ga K "Twice")) = some false
  e_NoSign_Twice : PySem.W.exmOne K (.ref (He.ga K "NoSign")) (.ref (He.ga K "Twice")) = some false
  k_NoSign_WoodError : PySem.W.kitOne K (.ref (He.ga K "NoSign")) (.ref (He.ga K "WoodError")) = some true
  e_NoSign_WoodError : PySem.W.exmOne K (.ref (He.ga K "NoSign")) (.ref (He.ga K "WoodError")) = some true
  ec_NoTree : ExcC K (He.ga K "NoTree")
  kt_NoTree : PySem.W.kitOne K (.ref (He.ga K "NoTree")) (.type "ValueError") = some true
  k_NoTree_NoBit : PySem.W.kitOne K (.ref (He.ga K "NoTree")) (.ref (He.ga K "NoBit")) = some false
  e_NoTree_NoBit : PySem.W.exmOne K (.ref (He.ga K "NoTree")) (.ref (He.ga K "NoBit")) = some false
  k_NoTree_NoNode : PySem.W.kitOne K (.ref (He.ga K "NoTree")) (.ref (He.ga K "NoNode")) = some false
  e_NoTree_NoNode : PySem.W.exmOne K (.ref (He.ga K "NoTree")) (.ref (He.ga K "NoNode")) = some false
  k_NoTree_NoOctets : PySem.W.kitOne K (.ref (He.ga K "NoTree")) (.ref (He.ga K "NoOctets")) = some false
  e_NoTree_NoOctets : PySem.W.exmOne K (.ref (He.ga K "NoTree")) (.ref (He.ga K "NoOctets")) = some false
  k_NoTree_NoPlace : PySem.W.kitOne K (.ref (He.ga K "NoTree")) (.ref (He.ga K "NoPlace")) = some false
  e_NoTree_NoPlace : PySem.W.exmOne K (.ref (He.ga K "NoTree")) (.ref (He.ga K "NoPlace")) = some false
  k_NoTree_NoSign : PySem.W.kitOne K (.ref (He.ga K "NoTree")) (.ref (He.ga K "NoSign")) = some false
  e_NoTree_NoSign : PySem.W.exmOne K (.ref (He.ga K "NoTree")) (.ref (He.ga K "NoSign")) = some false
  k_NoTree_NoTree : PySem.W.kitOne K (.ref (He.ga K "NoTree")) (.ref (He.ga K "NoTree")) = some true
  e_NoTree_NoTree : PySem.W.exmOne K (.ref (He.ga K "NoTree")) (.ref (He.ga K "NoTree")) = some true
  k_NoTree_NoWord : PySem.W.kitOne K (.ref (He.ga K "NoTree")) (.ref (He.ga K "NoWord")) = some false
  e_NoTree_NoWord : PySem.W.exmOne K (.ref (He.ga K "NoTree")) (.ref (He.ga K "NoWord")) = some false
  k_NoTree_TooMany : PySem.W.kitOne K (.ref (He.ga K "NoTree")) (.ref (He.ga K "TooMany")) = some false
  e_NoTree_TooMany : PySem.W.exmOne K (.ref (He.ga K "NoTree")) (.ref (He.ga K "TooMany")) = some false
  k_NoTree_Twice : PySem.W.kitOne K (.ref (He.ga K "NoTree")) (.ref (He.ga K "Twice")) = some false
  e_NoTree_Twice : PySem.W.exmOne K (.ref (He.ga K "NoTree")) (.ref (He.ga K "Twice")) = some false
  k_NoTree_WoodError : PySem.W.kitOne K (.ref (He.ga K "NoTree")) (.ref (He.ga K "WoodError")) = some true
  e_NoTree_WoodError : PySem.W.exmOne K (.ref (He.ga K "NoTree")) (.ref (He.ga K "WoodError")) = some true
  ec_NoWord : ExcC K (He.ga K "NoWord")
  kt_NoWord : PySem.W.kitOne K (.ref (He.ga K "NoWord")) (.type "ValueError") = some true
  k_NoWord_NoBit : PySem.W.kitOne K (.ref (He.ga K "NoWord")) (.ref (He.ga K "NoBit")) = some false
  e_NoWord_NoBit : PySem.W.exmOne K (.ref (He.ga K "NoWord")) (.ref (He.ga K "NoBit")) = some false
  k_NoWord_NoNode : PySem.W.kitOne K (.ref (He.ga K "NoWord")) (.ref (He.ga K "NoNode")) = some false
  e_NoWord_NoNode : PySem.W.exmOne K (.ref (He.ga K "NoWord")) (.ref (He.ga K "NoNode")) = some false
  k_NoWord_NoOctets : PySem.W.kitOne K (.ref (He.ga K "NoWord")) (.ref (He.ga K "NoOctets")) = some false
  e_NoWord_NoOctets : PySem.W.exmOne K (.ref (He.ga K "NoWord")) (.ref (He.ga K "NoOctets")) = some false
  k_NoWord_NoPlace : PySem.W.kitOne K (.ref (He.ga K "NoWord")) (.ref (He.ga K "NoPlace")) = some false
  e_NoWord_NoPlace : PySem.W.exmOne K (.ref (He.ga K "NoWord")) (.ref (He.ga K "NoPlace")) = some false
  k_NoWord_NoSign : PySem.W.kitOne K (.ref (He.ga K "NoWord")) (.ref (He.ga K "NoSign")) = some false
  e_NoWord_NoSign : PySem.W.exmOne K (.ref (He.ga K "NoWord")) (.ref (He.ga K "NoSign")) = some false
  k_NoWord_NoTree : PySem.W.kitOne K (.ref (He.ga K "NoWord")) (.ref (He.ga K "NoTree")) = some false
  e_NoWord_NoTree : PySem.W.exmOne K (.ref (He.ga K "NoWord")) (.ref (He.ga K "NoTree")) = some false
  k_NoWord_NoWord : PySem.W.kitOne K (.ref (He.ga K "NoWord")) (.ref (He.ga K "NoWord")) = some true
  e_NoWord_NoWord : PySem.W.exmOne K (.ref (He.ga K "NoWord")) (.ref (He.ga K "NoWord")) = some true
  k_NoWord_TooMany : PySem.W.kitOne K (.ref (He.ga K "NoWord")) (.ref (He.ga K "TooMany")) = some false
  e_NoWord_TooMany : PySem.W.exmOne K (.ref (He.ga K "NoWord")) (.ref (He.ga K "TooMany")) = some false
  k_NoWord_Twice : PySem.W.kitOne K (.ref (He.ga K "NoWord")) (.ref (He.ga K "Twice")) = some false
  e_NoWord_Twice : PySem.W.exmOne K (.ref (He.ga K "NoWord")) (.ref (He.ga K "Twice")) = some false
  k_NoWord_WoodError : PySem.W.kitOne K (.ref (He.ga K "NoWord")) (.ref (He.ga K "WoodError")) = some true
  e_NoWord_WoodError : PySem.W.exmOne K (.ref (He.ga K "NoWord")) (.ref (He.ga K "WoodError")) = some true
  ec_TooMany : ExcC K (He.ga K "TooMany")
  kt_TooMany : PySem.W.kitOne K (.ref (He.ga K "TooMany")) (.type "ValueError") = some true
  k_TooMany_NoBit : PySem.W.kitOne K (.ref (He.ga K "TooMany")) (.ref (He.ga K "NoBit")) = some false
  e_TooMany_NoBit : PySem.W.exmOne K (.ref (He.ga K "TooMany")) (.ref (He.ga K "NoBit")) = some false
  k_TooMany_NoNode : PySem.W.kitOne K (.ref (He.ga K "TooMany")) (.ref (He.ga K "NoNode")) = some false
  e_TooMany_NoNode : PySem.W.exmOne K (.ref (He.ga K "TooMany")) (.ref (He.ga K "NoNode")) = some false
  k_TooMany_NoOctets : PySem.W.kitOne K (.ref (He.ga K "TooMany")) (.ref (He.ga K "NoOctets")) = some false
  e_TooMany_NoOctets : PySem.W.exmOne K (.ref (He.ga K "TooMany")) (.ref (He.ga K "NoOctets")) = some false
  k_TooMany_NoPlace : PySem.W.kitOne K (.ref (He.ga K "TooMany")) (.ref (He.ga K "NoPlace")) = some false
  e_TooMany_NoPlace : PySem.W.exmOne K (.ref (He.ga K "TooMany")) (.ref (He.ga K "NoPlace")) = some false
  k_TooMany_NoSign : PySem.W.kitOne K (.ref (He.ga K "TooMany")) (.ref (He.ga K "NoSign")) = some false
  e_TooMany_NoSign : PySem.W.exmOne K (.ref (He.ga K "TooMany")) (.ref (He.ga K "NoSign")) = some false
  k_TooMany_NoTree : PySem.W.kitOne K (.ref (He.ga K "TooMany")) (.ref (He.ga K "NoTree")) = some false
  e_TooMany_NoTree : PySem.W.exmOne K (.ref (He.ga K "TooMany")) (.ref (He.ga K "NoTree")) = some false
  k_TooMany_NoWord : PySem.W.kitOne K (.ref (He.ga K "TooMany")) (.ref (He.ga K "NoWord")) = some false
  e_TooMany_NoWord : PySem.W.exmOne K (.ref (He.ga K "TooMany")) (.ref (He.ga K "NoWord")) = some false
  k_TooMany_TooMany : PySem.W.kitOne K (.ref (He.ga K "TooMany")) (.ref (He.ga K "TooMany")) = some true
  e_TooMany_TooMany : PySem.W.exmOne K (.ref (He.ga K "TooMany")) (.ref (He.ga K "TooMany")) = some true
  k_TooMany_Twice : PySem.W.kitOne K (.ref (He.ga K "TooMany")) (.ref (He.ga K "Twice")) = some false
  e_TooMany_Twice : PySem.W.exmOne K (.ref (He.ga K "TooMany")) (.ref (He.ga K "Twice")) = some false
  k_TooMany_WoodError : PySem.W.kitOne K (.ref (He.ga K "TooMany")) (.ref (He.ga K "WoodError")) = some true
  e_TooMany_WoodError : PySem.W.exmOne K (.ref (He.ga K "TooMany")) (.ref (He.ga K "WoodError")) = some true
  ec_Twice : ExcC K (He.ga K "Twice")
  kt_Twice : PySem.W.kitOne K (.ref (He.ga K "Twice")) (.type "ValueError") = some true
  k_Twice_NoBit : PySem.W.kitOne K (.ref (He.ga K "Twice")) (.ref (He.ga K "NoBit")) = some false
  e_Twice_NoBit : PySem.W.exmOne K (.ref (He.ga K "Twice")) (.ref (He.ga K "NoBit")) = some false
  k_Twice_NoNode : PySem.W.kitOne K (.ref (He.ga K "Twice")) (.ref (He.ga K "NoNode")) = some false
  e_Twice_NoNode : PySem.W.exmOne K (.ref (He.ga K "Twice")) (.ref (He.ga K "NoNode")) = some false
  k_Twice_NoOctets : PySem.W.kitOne K (.ref (He.ga K "Twice")) (.ref (He.ga K "NoOctets")) = some false
  e_Twice_NoOctets : PySem.W.exmOne K (.ref (He.ga K "Twice")) (.ref (He.ga K "NoOctets")) = some false
  k_Twice_NoPlace : PySem.W.kitOne K (.ref (He.ga K "Twice")) (.ref (He.ga K "NoPlace")) = some false
  e_Twice_NoPlace : PySem.W.exmOne K (.ref (He.ga K "Twice")) (.ref (He.ga K "NoPlace")) = some false
  k_Twice_NoSign : PySem.W.kitOne K (.ref (He.ga K "Twice")) (.ref (He.ga K "NoSign")) = some false
  e_Twice_NoSign : PySem.W.exmOne K (.ref (He.ga K "Twice")) (.ref (He.ga K "NoSign")) = some false
  k_Twice_NoTree : PySem.W.kitOne K (.ref (He.ga K "Twice")) (.ref (He.ga K "NoTree")) = some false
  e_Twice_NoTree : PySem.W.exmOne K (.ref (He.ga K "Twice")) (.ref (He.ga K "NoTree")) = some false
  k_Twice_NoWord : PySem.W.kitOne K (.ref (He.ga K "Twice")) (.ref (He.ga K "NoWord")) = some false
  e_Twice_NoWord : PySem.W.exmOne K (.ref (He.ga K "Twice")) (.ref (He.ga K "NoWord")) = some false
  k_Twice_TooMany : PySem.W.kitOne K (.ref (He.ga K "Twice")) (.ref (He.ga K "TooMany")) = some false
  e_Twice_TooMany : PySem.W.exmOne K (.ref (He.ga K "Twice")) (.ref (He.ga K "TooMany")) = some false
  k_Twice_Twice : PySem.W.kitOne K (.ref (He.ga K "Twice")) (.ref (He.ga K "Twice")) = some true
  e_Twice_Twice : PySem.W.exmOne K (.ref (He.ga K "Twice")) (.ref (He.ga K "Twice")) = some true
  k_Twice_WoodError : PySem.W.kitOne K (.ref (He.ga K "Twice")) (.ref (He.ga K "WoodError")) = some true
  e_Twice_WoodError : PySem.W.exmOne K (.ref (He.ga K "Twice")) (.ref (He.ga K "WoodError")) = some true
  ec_WoodError : ExcC K (He.ga K "WoodError")
  kt_WoodError : PySem.W.kitOne K (.ref (He.ga K "WoodError")) (.type "ValueError") = some true
  k_WoodError_NoBit : PySem.W.kitOne K (.ref (He.ga K "WoodError")) (.ref (He.ga K "NoBit")) = some false
  e_WoodError_NoBit : PySem.W.exmOne K (.ref (He.ga K "WoodError")) (.ref (He.ga K "NoBit")) = some false
  k_WoodError_NoNode : PySem.W.kitOne K (.ref (He.ga K "WoodError")) (.ref (He.ga K "NoNode")) = some false
  e_WoodError_NoNode : PySem.W.exmOne K (.ref (He.ga K "WoodError")) (.ref (He.ga K "NoNode")) = some false
  k_WoodError_NoOctets : PySem.W.kitOne K (.ref (He.ga K "WoodError")) (.ref (He.ga K "NoOctets")) = some false
  e_WoodError_NoOctets : PySem.W.exmOne K (.ref (He.ga K "WoodError")) (.ref (He.ga K "NoOctets")) = some false
  k_WoodError_NoPlace : PySem.W.kitOne K (.ref (He.ga K "WoodError")) (.ref (He.ga K "NoPlace")) = some false
  e_WoodError_NoPlace : PySem.W.exmOne K (.ref (He.ga K "WoodError")) (.ref (He.ga K "NoPlace")) = some false
  k_WoodError_NoSign : PySem.W.kitOne K (.ref (He.ga K "WoodError")) (.ref (He.ga K "NoSign")) = some false
  e_WoodError_NoSign : PySem.W.exmOne K (.ref (He.ga K "WoodError")) (.ref (He.ga K "NoSign")) = some false
  k_WoodError_NoTree : PySem.W.kitOne K (.ref (He.ga K "WoodError")) (.ref (He.ga K "NoTree")) = some false
  e_WoodError_NoTree : PySem.W.exmOne K (.ref (He.ga K "WoodError")) (.ref (He.ga K "NoTree")) = some false
  k_WoodError_NoWord : PySem.W.kitOne K (.ref (He.ga K "WoodError")) (.ref (He.ga K "NoWord")) = some false
  e_WoodError_NoWord : PySem.W.exmOne K (.ref (He.ga K "WoodError")) (.ref (He.ga K "NoWord")) = some false
  k_WoodError_TooMany : PySem.W.kitOne K (.ref (He.ga K "WoodError")) (.ref (He.ga K "TooMany")) = some false
  e_WoodError_TooMany : PySem.W.exmOne K (.ref (He.ga K "WoodError")) (.ref (He.ga K "TooMany")) = some false
  k_WoodError_Twice : PySem.W.kitOne K (.ref (He.ga K "WoodError")) (.ref (He.ga K "Twice")) = some false
  e_WoodError_Twice : PySem.W.exmOne K (.ref (He.ga K "WoodError")) (.ref (He.ga K "Twice")) = some false
  k_WoodError_WoodError : PySem.W.kitOne K (.ref (He.ga K "WoodError")) (.ref (He.ga K "WoodError")) = some true
  e_WoodError_WoodError : PySem.W.exmOne K (.ref (He.ga K "WoodError")) (.ref (He.ga K "WoodError")) = some true

/-- _law_whole(x) -/
def sp_law_whole (_ : PySem.W.Frag) : Sp := fun vs H Q _ => ∃ x : V, vs = [x] ∧ ((∃ n : Int, x = .int n ∧ Q (.bl true) H) ∨ (x = .non ∧ Q (.bl false) H))
theorem whole_int {K : PySem.W.Frag} {H : Hp} {Q : VK} {E : XK} {n : Int} (q : Q (.bl true) H) : sp_law_whole K [.int n] H Q E := ⟨_, rfl, .inl ⟨n, rfl, q⟩⟩
theorem whole_non {K : PySem.W.Frag} {H : Hp} {Q : VK} {E : XK} (q : Q (.bl false) H) : sp_law_whole K [.non] H Q E := ⟨_, rfl, .inr ⟨rfl, q⟩⟩
theorem len_law_whole (K : PySem.W.Frag) : ∀ vs H Q E, sp_law_whole K vs H Q E → vs.length = 1 := by
  rintro vs H Q E ⟨x, rfl, _⟩; rfl
def t_law_whole (K : PySem.W.Frag) : TS :=
  (tRet (tAndV (tCB rIsB (tCons (tVar 0) (tCons (tC (.ty "int")) tNil))) (tNotV (tCB rIsB (tCons (tVar 0) (tCons (tC (.ty "bool")) tNil))))))
abbrev n_law_whole : List Str := ["_law_found"]

theorem rd_law_whole (K : PySem.W.Frag) (vs : List V) (H : Hp) (Q : VK) (E : XK) (h : sp_law_whole K vs H Q E) : t_law_whole K { nx := fun _ H' => Q .non H', rt := Q } (start n_law_whole vs) H := by
  obtain ⟨x, rfl, (⟨n, rfl, q⟩ | ⟨rfl, q⟩)⟩ := h
  · unfold t_law_whole
    walk_at "st"
    exact q
  · unfold t_law_whole
    walk_at "st"
    refine k_isIntN ?_
    walk_at "st"
    exact q

/-- _law_cell_at(script, k) -/
def sp_law_cell_at (K : PySem.W.Frag) : Sp := fun vs H Q _ => ∃ (a : Addr) (ns : List Int) (k : Int), vs = [.ref a, .int k] ∧ SqL K H a (ns.map V.int) ∧ 0 ≤ k ∧ ∀ c : Int, c = ns.getD k.toNat 0 → Q (.int c) H
theorem len_law_cell_at (K : PySem.W.Frag) : ∀ vs H Q E, sp_law_cell_at K vs H Q E → vs.length = 2 := by
  rintro vs H Q E ⟨x, y, z, rfl, _⟩; rfl
def t_law_cell_at (K : PySem.W.Frag) : TS :=
  (tSeq (tIfS (tTest (tOp rLt (tVar 1) (tCB (rLen K) (tCons (tVar 0) tNil))))
  (tRet (tOp (rIxL K) (tVar 0) (tVar 1)))
  tNext)
  (tRet (tC (.int 0))))
abbrev n_law_cell_at : List Str := ["_law_script", "_law_k"]

theorem rd_law_cell_at (K : PySem.W.Frag) (vs : List V) (H : Hp) (Q : VK) (E : XK) (h : sp_law_cell_at K vs H Q E) : t_law_cell_at K { nx := fun _ H' => Q .non H', rt := Q } (start n_law_cell_at vs) H := by
  obtain ⟨a, ns, k, rfl, hS, hk, q⟩ := h
  unfold t_law_cell_at
  walk_at "st"
  refine k_lenL hS ?_
  walk_at "st"
  rw [List.length_map]
  walk_at "if" <;> intro c
  · walk_at "st"
    have hlt : k.toNat < ns.length := by omega
    refine k_ixL hS (at_int hk (mapint (List.getElem?_eq_getElem hlt))) ?_
    walk_at "st"
    exact q _ (by rw [List.getD_eq_getElem?_getD, List.getElem?_eq_getElem hlt]; rfl)
  · walk_at "st"
    exact q _ (by rw [List.getD_eq_getElem?_getD, List.getElem?_eq_none (by omega)]; rfl)
theorem call_cell_at {K : PySem.W.Frag} {H : Hp} {Q : VK} {E : XK} {a : Addr} {ns : List Int} {k : Int} (hS : SqL K H a (ns.map V.int)) (hk : 0 ≤ k) (q : ∀ c : Int, c = ns.getD k.toNat 0 → Q (.int c) H) : sp_law_cell_at K [.ref a, .int k] H Q E :=
  ⟨a, ns, k, rfl, hS, hk, q⟩

/-- cuts, joins and repeats of lists of ints -/
theorem k_slTake {K : PySem.W.Frag} {H : Hp} {Q : VK} {p : Addr} {bs : List Int} {k : Nat} (h : SqL K H p (bs.map V.int)) (q : ∀ l H', H l = none → Same H H' → H' l = some (.lst ((bs.take k).map V.int)) → Q (.ref l) H') : rSlL K (.ref p) none (some (k : Int)) H Q := by
  refine k_slL h fun l hl => ?_
  rw [cutTake, ← List.map_take]
  exact q l _ hl (same_new hl) upd_same
theorem k_slDrop {K : PySem.W.Frag} {H : Hp} {Q : VK} {p : Addr} {bs : List Int} {k : Nat} (h : SqL K H p (bs.map V.int)) (q : ∀ l H', H l = none → Same H H' → H' l = some (.lst ((bs.drop k).map V.int)) → Q (.ref l) H') : rSlL K (.ref p) (some (k : Int)) none H Q := by
  refine k_slL h fun l hl => ?_
  rw [cutDrop, ← List.map_drop]
  exact q l _ hl (same_new hl) upd_same
theorem new_both {H : Hp} {p : Addr} {o : HO} (h : H p = none) : Same H (upd H p o) ∧ (upd H p o) p = some o := ⟨same_new h, upd_same⟩
theorem k_catI {H : Hp} {Q : VK} {a b : Addr} {xs ys : List Int} (h1 : H a = some (.lst (xs.map V.int))) (h2 : H b = some (.lst (ys.map V.int))) (hn : xs.length + ys.length ≤ 1000000) (q : ∀ l H', H l = none → Same H H' → H' l = some (.lst ((xs ++ ys).map V.int)) → Q (.ref l) H') : rCat (.ref a) (.ref b) H Q := by
  refine k_cat h1 h2 (by rw [List.length_map, List.length_map]; exact hn) fun p hp => ?_
  rw [← List.map_append]
  exact q p _ hp (same_new hp) upd_same
theorem k_catKI {K : PySem.W.Frag} {H : Hp} {Q : VK} {a b : Addr} {xs ys : List Int} (h1 : SqL K H a (xs.map V.int)) (h2 : SqL K H b (ys.map V.int)) (hn : xs.length + ys.length ≤ 1000000) (q : ∀ l H', H l = none → Same H H' → H' l = some (.lst ((xs ++ ys).map V.int)) → Q (.ref l) H') : rCatK K (.ref a) (.ref b) H Q := by
  refine k_catK h1 h2 (by rw [List.length_map, List.length_map]; exact hn) fun p hp => ?_
  rw [← List.map_append]
  exact q p _ hp (same_new hp) upd_same
theorem k_repI {H : Hp} {Q : VK} {a : Addr} {xs : List Int} {n : Int} (h : H a = some (.lst (xs.map V.int))) (h0 : 0 ≤ n ∧ n ≤ 1000000) (hn : xs.length * n.toNat ≤ 1000000) (q : ∀ l H' (cs : List Int), H l = none → Same H H' → cs = (List.replicate n.toNat xs).flatten → cs.length = n.toNat * xs.length → H' l = some (.lst (cs.map V.int)) → Q (.ref l) H') : rRep (.ref a) (.int n) H Q := by
  obtain ⟨m, rfl⟩ := Int.eq_ofNat_of_zero_le h0.1
  rw [Int.toNat_natCast] at hn q
  refine k_rep h (by rw [List.length_map]; exact hn) (by omega) fun p hp => ?_
  have e : (List.replicate m (xs.map V.int)).flatten = ((List.replicate m xs).flatten).map V.int := by
    rw [List.map_flatten, List.map_replicate]
  rw [e]
  refine q p _ _ hp (same_new hp) rfl ?_ upd_same
  rw [List.length_flatten, List.map_replicate, List.sum_replicate_nat]
/-- a number in a tuple of numbers -/
theorem k_inT {K : PySem.W.Frag} {H : Hp} {Q : VK} {p : Addr} {x : Int} {xs : List V} (h : H p = some (.tup xs)) (hf : xs.all flatV = true) (q : ∀ b, Q (.bl b) H) : rIn K false (.int x) (.ref p) H Q := ⟨p, xs, rfl, .inr (.of h), rfl, hf, q _⟩

/-! ### bits of a number -/
/-- the bit k of b -/
def bit (b : Int) (k : Nat) : Int := b / 2 ^ k % 2
theorem bit_cases (b : Int) (k : Nat) : bit b k = 0 ∨ bit b k = 1 := by unfold bit; omega
/-- the ones among the first n bits -/
def onesIn (b : Int) : Nat → Int
  | 0 => 0
  | n + 1 => onesIn b n + bit b n
theorem onesIn_mono1 (b : Int) (n : Nat) : onesIn b n ≤ onesIn b (n + 1) ∧ onesIn b (n + 1) ≤ onesIn b n + 1 := by
  show onesIn b n ≤ onesIn b n + bit b n ∧ onesIn b n + bit b n ≤ _
  have := bit_cases b n; omega
theorem onesIn_mono (b : Int) (n m : Nat) (h : n ≤ m) : onesIn b n ≤ onesIn b m := by
  induction m with
  | zero => have : n = 0 := by omega
            subst this; exact Int.le_refl _
  | succ m ih =>
    rcases Nat.lt_or_ge m n with q | q
    · have : n = m + 1 := by omega
      subst this; exact Int.le_refl _
    · have := ih q; have := onesIn_mono1 b m; omega
theorem onesIn_range (b : Int) (n : Nat) : 0 ≤ onesIn b n ∧ onesIn b n ≤ n := by
  induction n with
  | zero => exact ⟨Int.le_refl _, Int.le_refl _⟩
  | succ n ih => have := onesIn_mono1 b n; omega
theorem sum_range_succ (f : Nat → Int) (n : Nat) : ((List.range (n + 1)).map f).sum = ((List.range n).map f).sum + f n := by
  rw [List.range_succ, List.map_append, List.sum_append]; simp
theorem onesIn_sum (b : Int) (n : Nat) : ((List.range n).map fun k => bit b k).sum = onesIn b n := by
  induction n with
  | zero => rfl
  | succ n ih => rw [sum_range_succ, ih]; rfl
theorem halve (b : Int) (k : Nat) : b / 2 ^ k / 2 = b / 2 ^ (k + 1) := by
  rw [Int.pow_succ, Int.ediv_ediv_of_nonneg]
  exact Int.le_of_lt (Int.pow_pos (by decide))

/-! ### rows and blocks -/
/-- all items are bits -/
def Bits (bs : List Int) : Prop := ∀ b ∈ bs, b = 0 ∨ b = 1
/-- the block of some bits (the first one counting 1) -/
def blk : List Int → Int
  | [] => 0
  | b :: bs => b + 2 * blk bs
/-- the row of bits bs as blocks, so many -/
def blksN (bs : List Int) : Nat → List Int
  | 0 => []
  | n + 1 => blk (bs.take 32) :: blksN (bs.drop 32) n
/-- the blocks of a row -/
def blks (bs : List Int) : List Int := blksN bs ((bs.length + 31) / 32)
theorem blksN_len (bs : List Int) (n : Nat) : (blksN bs n).length = n := by
  induction n generalizing bs with
  | zero => rfl
  | succ n ih => show (blksN (bs.drop 32) n).length + 1 = n + 1; rw [ih]
theorem blks_len (bs : List Int) : (blks bs).length = (bs.length + 31) / 32 := blksN_len _ _
theorem blksN_get (bs : List Int) (n j : Nat) (h : j < n) : (blksN bs n)[j]? = some (blk ((bs.drop (32 * j)).take 32)) := by
  induction n generalizing bs j with
  | zero => omega
  | succ n ih =>
    cases j with
    | zero => rfl
    | succ j =>
      show (blksN (bs.drop 32) n)[j]? = _
      rw [ih (bs.drop 32) j (by omega), List.drop_drop, show 32 + 32 * j = 32 * (j + 1) by omega]
theorem blks_get (bs : List Int) (j : Nat) (h : j < (bs.length + 31) / 32) : (blks bs)[j]? = some (blk ((bs.drop (32 * j)).take 32)) := blksN_get _ _ _ h
theorem blk_range : ∀ bs : List Int, Bits bs → 0 ≤ blk bs ∧ blk bs < 2 ^ bs.length
  | [], _ => ⟨Int.le_refl _, by decide⟩
  | b :: bs, h => by
    obtain ⟨h1, h2⟩ := blk_range bs fun x hx => h x (List.mem_cons_of_mem _ hx)
    have h3 := h b List.mem_cons_self
    have e : (2 : Int) ^ (bs.length + 1) = 2 ^ bs.length * 2 := Int.pow_succ ..
    show 0 ≤ b + 2 * blk bs ∧ b + 2 * blk bs < 2 ^ (bs.length + 1)
    omega
/-- a bit of a block -/
theorem bit_blk : ∀ (bs : List Int) (k : Nat), Bits bs → bit (blk bs) k = bs.getD k 0
  | [], k, _ => by
    show (0 : Int) / 2 ^ k % 2 = _
    rw [Int.zero_ediv]; rfl
  | b :: bs, 0, h => by
    have h3 := h b List.mem_cons_self
    show (b + 2 * blk bs) / 2 ^ 0 % 2 = b
    simp; omega
  | b :: bs, k + 1, h => by
    have h3 := h b List.mem_cons_self
    have ih := bit_blk bs k fun x hx => h x (List.mem_cons_of_mem _ hx)
    show (b + 2 * blk bs) / 2 ^ (k + 1) % 2 = (b :: bs).getD (k + 1) 0
    rw [List.getD_cons_succ, ← ih]
    show _ = blk bs / 2 ^ k % 2
    have e : (b + 2 * blk bs) / 2 = blk bs := by omega
    rw [show (2 : Int) ^ (k + 1) = 2 * 2 ^ k by rw [Int.pow_succ, Int.mul_comm], ← Int.ediv_ediv_of_nonneg (by decide), e]
theorem Bits.sub {bs cs : List Int} (h : Bits bs) (s : ∀ x ∈ cs, x ∈ bs) : Bits cs := fun x hx => h x (s x hx)
theorem Bits.take {bs : List Int} (h : Bits bs) (n : Nat) : Bits (bs.take n) := h.sub fun _ hx => List.mem_of_mem_take hx
theorem Bits.drop {bs : List Int} (h : Bits bs) (n : Nat) : Bits (bs.drop n) := h.sub fun _ hx => List.mem_of_mem_drop hx
/-- a row's blocks: each below 2 ^ 32 -/
theorem blks_range {bs : List Int} (h : Bits bs) {j : Nat} {b : Int} (e : (blks bs)[j]? = some b) : 0 ≤ b ∧ b < 4294967296 := by
  have hj : j < (bs.length + 31) / 32 := by
    have := (List.getElem?_eq_some_iff.mp e).1
    rw [blks_len] at this; exact this
  rw [blks_get bs j hj] at e
  obtain rfl := Option.some.inj e
  obtain ⟨h1, h2⟩ := blk_range _ ((h.drop (32 * j)).take 32)
  refine ⟨h1, Int.lt_of_lt_of_le h2 ?_⟩
  have : ((bs.drop (32 * j)).take 32).length ≤ 32 := by rw [List.length_take]; omega
  show (2 : Int) ^ _ ≤ 2 ^ 32
  exact_mod_cast Nat.pow_le_pow_right (show 0 < 2 by decide) this
/-- bit k of block j is bit 32 * j + k of the row -/
theorem bit_blks {bs : List Int} (h : Bits bs) {j : Nat} {b : Int} (e : (blks bs)[j]? = some b) {k : Nat} (hk : k < 32) : bit b k = bs.getD (32 * j + k) 0 := by
  have hj : j < (bs.length + 31) / 32 := by
    have := (List.getElem?_eq_some_iff.mp e).1
    rw [blks_len] at this; exact this
  rw [blks_get bs j hj] at e
  obtain rfl := Option.some.inj e
  rw [bit_blk _ _ ((h.drop (32 * j)).take 32), List.getD_eq_getElem?_getD, List.getD_eq_getElem?_getD, List.getElem?_take, if_pos hk, List.getElem?_drop]
/-- blocks are alike where their bits are -/
theorem blk_ext {x y : Int} (hx : 0 ≤ x ∧ x < 4294967296) (hy : 0 ≤ y ∧ y < 4294967296) (h : ∀ k, k < 32 → bit x k = bit y k) : x = y := by
  have key : ∀ n : Nat, n ≤ 32 → x / 2 ^ (32 - n) = y / 2 ^ (32 - n) := by
    intro n
    induction n with
    | zero =>
      intro _
      rw [Int.ediv_eq_zero_of_lt hx.1 (by exact hx.2), Int.ediv_eq_zero_of_lt hy.1 (by exact hy.2)]
    | succ n ih =>
      intro hn
      have h1 := ih (by omega)
      have h2 := h (32 - (n + 1)) (by omega)
      unfold bit at h2
      have e : 32 - n = (32 - (n + 1)) + 1 := by omega
      rw [e, ← halve, ← halve] at h1
      omega
  have := key 32 (Nat.le_refl _)
  rw [Nat.sub_self, Int.pow_zero, Int.ediv_one, Int.ediv_one] at this
  exact this

/-- blocks filled with the first i bits, zeroes behind -/
def part (bs : List Int) (n i : Nat) : List Int := blksN (bs.take i) n
theorem blk_nil : blk [] = 0 := rfl
theorem blk_snoc : ∀ (bs : List Int) (b : Int), blk (bs ++ [b]) = blk bs + b * 2 ^ bs.length
  | [], b => by show b + 2 * 0 = 0 + b * 2 ^ 0; simp
  | c :: bs, b => by
    show c + 2 * blk (bs ++ [b]) = c + 2 * blk bs + b * 2 ^ (bs.length + 1)
    rw [blk_snoc bs b, Int.pow_succ, Int.mul_add, ← Int.mul_assoc 2 b, Int.mul_comm 2 b, Int.mul_assoc b, Int.mul_comm 2 (2 ^ bs.length), Int.add_assoc]
theorem part_zero (bs : List Int) (n : Nat) : part bs n 0 = List.replicate n 0 := by
  unfold part
  rw [List.take_zero]
  induction n with
  | zero => rfl
  | succ n ih => show blk [] :: blksN [] n = _; rw [ih]; rfl
theorem part_full (bs : List Int) : part bs ((bs.length + 31) / 32) bs.length = blks bs := by
  unfold part blks; rw [List.take_length]
theorem part_len (bs : List Int) (n i : Nat) : (part bs n i).length = n := blksN_len _ _
theorem part_get (bs : List Int) (n i j : Nat) (h : j < n) : (part bs n i)[j]? = some (blk (((bs.take i).drop (32 * j)).take 32)) := blksN_get _ _ _ h
/-- one bit more: only its own block turns -/
theorem part_succ {bs : List Int} {n i : Nat} {b : Int} (hb : bs[i]? = some b) (hn : i / 32 < n) :
    part bs n (i + 1) = (part bs n i).set (i / 32) ((part bs n i).getD (i / 32) 0 + b * 2 ^ (i % 32)) := by
  have hi : i < bs.length := (List.getElem?_eq_some_iff.mp hb).1
  apply List.ext_getElem?
  intro j
  rw [List.getElem?_set, part_len]
  rcases Nat.lt_or_ge j n with hj | hj
  · rw [part_get _ _ _ _ hj]
    have et : bs.take (i + 1) = bs.take i ++ [b] := by rw [List.take_add_one, hb]; rfl
    have hl : (bs.take i).length = i := by rw [List.length_take]; omega
    rw [et]
    by_cases h : i / 32 = j
    · subst h
      rw [if_pos rfl, if_pos hn, List.getD_eq_getElem?_getD, part_get _ _ _ _ hn]
      have hd : ((bs.take i).drop (32 * (i / 32))).length = i % 32 := by rw [List.length_drop, hl]; omega
      have e2 : ((bs.take i).drop (32 * (i / 32))).take 32 = (bs.take i).drop (32 * (i / 32)) := List.take_of_length_le (by rw [hd]; omega)
      have e1 : ((bs.take i).drop (32 * (i / 32)) ++ [b]).take 32 = (bs.take i).drop (32 * (i / 32)) ++ [b] := List.take_of_length_le (by rw [List.length_append, hd]; simp; omega)
      rw [List.drop_append_of_le_length (by rw [hl]; omega), e1, e2, blk_snoc, hd]
      rfl
    · rw [if_neg h, part_get _ _ _ _ hj]
      congr 2
      rcases Nat.lt_or_ge j (i / 32) with l | l
      · rw [List.drop_append_of_le_length (by rw [hl]; omega), List.take_append_of_le_length (by rw [List.length_drop, hl]; omega)]
      · rw [List.drop_of_length_le (by rw [List.length_append, hl]; simp; omega), List.drop_of_length_le (by rw [hl]; omega)]
  · rw [List.getElem?_eq_none (by rw [part_len]; exact hj), if_neg (by omega), List.getElem?_eq_none (by rw [part_len]; exact hj)]
theorem part_range_take {bs : List Int} {i : Nat} (h : Bits (bs.take i)) {n j : Nat} (hj : j < n) (hi : i % 32 = i - 32 * j) (hij : 32 * j ≤ i) : 0 ≤ (part bs n i).getD j 0 ∧ (part bs n i).getD j 0 < 2 ^ (i % 32) := by
  rw [List.getD_eq_getElem?_getD, part_get _ _ _ _ hj]
  obtain ⟨h1, h2⟩ := blk_range _ ((h.drop (32 * j)).take 32)
  refine ⟨h1, Int.lt_of_lt_of_le h2 ?_⟩
  have : (((bs.take i).drop (32 * j)).take 32).length ≤ i % 32 := by rw [List.length_take, List.length_drop, List.length_take]; omega
  exact_mod_cast Nat.pow_le_pow_right (show 0 < 2 by decide) this
/-- a bit above a number -/
theorem or_high {x : Int} {k : Nat} (h0 : 0 ≤ x) (h1 : x < 2 ^ k) : Builtin.bitOr x (1 * 2 ^ k) = x + 1 * 2 ^ k := by
  have e := or_low (q := 1) (r := x) (k := k) (by decide) h0 h1
  rw [bitOr_nn h0 (by rw [Int.one_mul]; exact Int.le_of_lt (Int.pow_pos (by decide))), Nat.or_comm, ← bitOr_nn (by rw [Int.one_mul]; exact Int.le_of_lt (Int.pow_pos (by decide))) h0, e, Int.add_comm]

/-- packed(bits) -/
def sp_packed (K : PySem.W.Frag) : Sp := fun vs H Q E => ∃ (a : Addr) (bs : List Int), vs = [.ref a] ∧ SqL K H a (bs.map V.int) ∧ bs.length ≤ 100000 ∧
  (bs.length > 4096 → E (.ref (He.ga K "TooMany")) none H) ∧
  (bs.length ≤ 4096 → ¬ Bits bs → ∀ H', Same H H' → E (.ref (He.ga K "NoBit")) none H') ∧
  (bs.length ≤ 4096 → Bits bs → ∀ p H', H p = none → Same H H' → H' p = some (.lst ((blks bs).map V.int)) → Q (.ref p) H')
theorem len_packed (K : PySem.W.Frag) : ∀ vs H Q E, sp_packed K vs H Q E → vs.length = 1 := by
  rintro vs H Q E ⟨x, y, rfl, _⟩; rfl
def t_packed (K : PySem.W.Frag) (E : XK) : TS :=
  (tSeq (tIfS (tTest (tOp rGtI (tCB (rLen K) (tCons (tVar 0) tNil)) (tC (.int 4096))))
  (tRz (fun cls d _ H => E cls d H) (He.ga K "TooMany"))
  tNext)
  (tSeq (tAsg (tOp rRep (tLst (tCons (tC (.int 0)) tNil)) (tOp rDiv (tOp rMinus (tOp rPlus (tCB (rLen K) (tCons (tVar 0) tNil)) (tC (.int 32))) (tC (.int 1))) (tC (.int 32)))) (gName 1))
  (tSeq (tFor (iEnum K (tCons (tVar 0) tNil)) (gTup K 2 (gCons (gName 2) (gCons (gName 3) gNil)))
  (tSeq (tIfS (tAnd (tTest (tOp rNe (tVar 3) (tC (.int 0)))) (tTest (tOp rNe (tVar 3) (tC (.int 1)))))
  (tRz (fun cls d _ H => E cls d H) (He.ga K "NoBit"))
  tNext)
  (tIfS (tTest (tOp rEq (tVar 3) (tC (.int 1))))
  (tAsg (tOp rBitOr (tOp (rIxL K) (tVar 1) (tOp rDiv (tVar 2) (tC (.int 32)))) (tOp rShlW (tC (.int 1)) (tOp rMod (tVar 2) (tC (.int 32))))) (gSub (tVar 1) (tOp rDiv (tVar 2) (tC (.int 32))) rSetL))
  tNext)))
  (tRet (tVar 1)))))
abbrev n_packed : List Str := ["bits", "blocks", "at", "bit"]

theorem rd_packed (K : PySem.W.Frag) (vs : List V) (H : Hp) (Q : VK) (E : XK) (h : sp_packed K vs H Q E) : t_packed K E { nx := fun _ H' => Q .non H', rt := Q } (start n_packed vs) H := by
  obtain ⟨a, bs, rfl, hS, hl, q1, q2, q3⟩ := h
  unfold t_packed
  walk_at "st"
  refine k_lenL hS ?_
  walk_at "st"
  rw [List.length_map]
  walk_at "if" <;> intro c1
  · walk_at "st"
    exact q1 (by omega)
  have hm : bs.length ≤ 4096 := by omega
  walk_at "st"
  intro p0 hp0
  walk_at "st"
  refine k_lenL ((same_new hp0).seq hS) ?_
  walk_at "st"
  rw [List.length_map]
  have en : ((bs.length : Int) + 32 - 1) / 32 = (((bs.length + 31) / 32 : Nat) : Int) := by omega
  rw [en]
  refine k_rep (xs := [.int 0]) upd_same (by simp only [List.length_cons, List.length_nil]; omega) (by omega) fun p hp => ?_
  have hp' : H p = none := (same_new hp0).free hp
  have s0 := (same_new hp0).trans (same_new (o := .lst (List.replicate ((bs.length + 31) / 32) [V.int 0]).flatten) hp)
  walk_at "st"
  refine m_enumE (s0.seq hS) ?_
  refine loop_walk walk_enum (fun i σ H' => ∃ y z, σ = [some (.ref a), some (.ref p), y, z] ∧ i ≤ bs.length ∧ Same H H' ∧ H' p = some (.lst ((part bs ((bs.length + 31) / 32) i).map V.int)) ∧ Bits (bs.take i)) ⟨none, none, rfl, Nat.zero_le _, s0, ?_, fun x hx => by simp at hx⟩ (fun i σ H' ⟨y, z, _, _, s, _⟩ => s.seq hS) ?_ ?_
  · rw [upd_same, part_zero, List.map_replicate, rep_one]
  · rintro i v σ H1 H2 hi ⟨y, z, rfl, _, s, e, hb⟩ ⟨T, x, w, rfl, hT, rfl, ex, ew⟩
    rw [List.length_map] at hi
    obtain ⟨b, hbi, rfl⟩ := of_mapint ew
    obtain rfl : x = .int (i : Nat) := (Option.some.inj ex).symm
    have npT : p ≠ T := ne_of_none e hT
    have s2 : Same H (upd H1 T (.tup [.int (i : Nat), .int b])) := s.trans (same_new hT)
    have e2 : (upd H1 T (.tup [.int (i : Nat), .int b])) p = some (.lst ((part bs ((bs.length + 31) / 32) i).map V.int)) := by rw [upd_ne npT]; exact e
    refine m_gTup (.of upd_same) rfl ?_
    walk_at "st"
    have nobit : ∀ (c : ¬ (b = 0 ∨ b = 1)), ¬ Bits bs := fun c hB => c (hB b (List.mem_of_getElem? hbi))
    have go : (b = 0 ∨ b = 1) → Bits (bs.take (i + 1)) := by
      intro hb1 q hq
      rw [List.take_add_one, hbi] at hq
      rcases List.mem_append.mp hq with h | h
      · exact hb q h
      · have : q = b := by simpa using h
        subst this; exact hb1
    have hin : i / 32 < (bs.length + 31) / 32 := by omega
    walk_at "if" <;> intro c0
    · walk_at "st"
      walk_at "if" <;> intro c1
      · walk_at "st"
        exact q2 hm (nobit fun z => z.elim c0 c1) _ s2
      · walk_at "st"
        refine k_decT c1 ?_
        obtain rfl : b = 1 := c1
        walk_at "st"
        have hlt : i / 32 < ((part bs ((bs.length + 31) / 32) i)).length := by rw [part_len]; exact hin
        refine k_ixL (.of e2) (at_int (by omega) (i := ((i : Nat) : Int) / 32) (x := .int ((part bs ((bs.length + 31) / 32) i).getD (i / 32) 0)) ?_) ?_
        · rw [show (((i : Nat) : Int) / 32).toNat = i / 32 by omega, List.getD_eq_getElem?_getD, List.getElem?_eq_getElem hlt]
          exact mapint (List.getElem?_eq_getElem hlt)
        walk_at "st"
        have hsh : CShl 1 (((i : Nat) : Int) % 32) := by
          rw [show ((i : Nat) : Int) % 32 = ((i % 32 : Nat) : Int) by omega]
          exact shl_ok (n := 1) (by decide) (by omega)
        refine k_I hsh ?_
        walk_at "st"
        have hr := part_range_take hb (n := (bs.length + 31) / 32) (j := i / 32) hin (by omega) (by omega)
        have eor : Builtin.bitOr ((part bs ((bs.length + 31) / 32) i).getD (i / 32) 0) (1 * 2 ^ (((i : Nat) : Int) % 32).toNat) = (part bs ((bs.length + 31) / 32) i).getD (i / 32) 0 + 1 * 2 ^ (i % 32) := by
          rw [show (((i : Nat) : Int) % 32).toNat = i % 32 by omega]
          exact or_high hr.1 hr.2
        rw [eor]
        refine m_setL e2 (ixN_nat (by omega) (by rw [List.length_map, part_len]; omega)) ?_
        walk_at "st"
        refine ⟨_, _, rfl, hi, Same.mut s2 hp', ?_, go (.inr rfl)⟩
        rw [upd_same, show (((i : Nat) : Int) / 32).toNat = i / 32 by omega, part_succ hbi hin, List.map_set]
    · walk_at "st"
      obtain rfl : b = 0 := c0
      refine k_decF (by decide) ?_
      walk_at "st"
      refine ⟨_, _, rfl, hi, s2, ?_, go (.inl rfl)⟩
      rw [e2, part_succ hbi hin, Int.zero_mul, Int.add_zero]
      congr 2
      have hlt : i / 32 < ((part bs ((bs.length + 31) / 32) i)).length := by rw [part_len]; exact hin
      rw [List.getD_eq_getElem?_getD, List.getElem?_eq_getElem hlt]
      show _ = List.map V.int ((part bs ((bs.length + 31) / 32) i).set (i / 32) ((part bs ((bs.length + 31) / 32) i)[i / 32]))
      rw [List.set_getElem_self]
  · rintro σ H' ⟨y, z, rfl, _, s, e, hb⟩
    rw [List.length_map] at e hb
    walk_at "st"
    rw [List.take_length] at hb
    rw [part_full] at e
    exact q3 hm hb p H' hp' s e

/-- the ones among the first n bits of a row -/
def sumTo (bs : List Int) (n : Nat) : Int := (bs.take n).sum
theorem sumTo_succ (bs : List Int) (n : Nat) : sumTo bs (n + 1) = sumTo bs n + bs.getD n 0 := by
  unfold sumTo
  rw [List.take_add_one, List.sum_append, List.getD_eq_getElem?_getD]
  cases bs[n]? <;> simp
theorem sumTo_all (bs : List Int) {n : Nat} (h : bs.length ≤ n) : sumTo bs n = bs.sum := by
  unfold sumTo; rw [List.take_of_length_le h]
theorem sumTo_zero (bs : List Int) : sumTo bs 0 = 0 := rfl
/-- the ones of a block's first bits -/
theorem onesIn_blks {bs : List Int} (h : Bits bs) {j : Nat} {b : Int} (e : (blks bs)[j]? = some b) : ∀ k, k ≤ 32 → onesIn b k = sumTo bs (32 * j + k) - sumTo bs (32 * j)
  | 0, _ => by rw [Nat.add_zero]; show (0 : Int) = _; omega
  | k + 1, hk => by
    show onesIn b k + bit b k = _
    rw [onesIn_blks h e k (by omega), bit_blks h e (by omega), show 32 * j + (k + 1) = (32 * j + k) + 1 by omega, sumTo_succ]; omega

/-- the ones ahead of the first n blocks -/
def aheadN (bs : List Int) (n : Nat) : List Int := (List.range n).map fun j => sumTo bs (32 * j)
theorem aheadN_len (bs : List Int) (n : Nat) : (aheadN bs n).length = n := by unfold aheadN; simp
theorem aheadN_get (bs : List Int) {n j : Nat} (h : j < n) : (aheadN bs n)[j]? = some (sumTo bs (32 * j)) := by unfold aheadN; simp [h]
theorem aheadN_succ (bs : List Int) (n : Nat) : aheadN bs (n + 1) = aheadN bs n ++ [sumTo bs (32 * n)] := by unfold aheadN; rw [List.range_succ, List.map_append]; rfl
/-- the table of a row: the ones ahead of each block, and all -/
def aheadT (bs : List Int) : List Int := aheadN bs ((bs.length + 31) / 32 + 1)
theorem aheadT_len (bs : List Int) : (aheadT bs).length = (bs.length + 31) / 32 + 1 := aheadN_len _ _
theorem aheadT_get (bs : List Int) {j : Nat} (h : j ≤ (bs.length + 31) / 32) : (aheadT bs)[j]? = some (sumTo bs (32 * j)) := aheadN_get bs (by omega)
theorem sumTo_add (bs : List Int) (n m : Nat) : sumTo bs (n + m) = sumTo bs n + ((bs.drop n).take m).sum := by
  unfold sumTo; rw [List.take_add, List.sum_append]
theorem getD_bit {bs : List Int} (h : Bits bs) (k : Nat) : bs.getD k 0 = 0 ∨ bs.getD k 0 = 1 := by
  rw [List.getD_eq_getElem?_getD]
  cases e : bs[k]? with
  | none => exact .inl rfl
  | some b => exact h b (List.mem_of_getElem? e)
theorem sumTo_mono1 {bs : List Int} (h : Bits bs) (n : Nat) : sumTo bs n ≤ sumTo bs (n + 1) ∧ sumTo bs (n + 1) ≤ sumTo bs n + 1 := by
  rw [sumTo_succ]; have := getD_bit h n; omega
theorem sumTo_mono {bs : List Int} (h : Bits bs) {n m : Nat} (l : n ≤ m) : sumTo bs n ≤ sumTo bs m := by
  induction m with
  | zero => rw [show n = 0 by omega]; exact Int.le_refl _
  | succ m ih =>
    rcases Nat.lt_or_ge m n with z | z
    · rw [show n = m + 1 by omega]; exact Int.le_refl _
    · have := ih z; have := sumTo_mono1 h m; omega
theorem sumTo_range {bs : List Int} (h : Bits bs) (n : Nat) : 0 ≤ sumTo bs n ∧ sumTo bs n ≤ n := by
  induction n with
  | zero => exact ⟨Int.le_refl _, Int.le_refl _⟩
  | succ n ih => have := sumTo_mono1 h n; omega
theorem blks_getD {bs : List Int} {j : Nat} (h : j < (bs.length + 31) / 32) : (blks bs)[j]? = some ((blks bs).getD j 0) := by
  rw [List.getD_eq_getElem?_getD, List.getElem?_eq_getElem (by rw [blks_len]; exact h)]; rfl

/-! ### promises -/
/-- ones_in(b, u) -/
def sp_ones_in (_ : PySem.W.Frag) : Sp := fun vs H Q _ => ∃ (b : Int) (u : Nat), vs = [.int b, .int (u : Int)] ∧ u ≤ 1000 ∧ ∀ H', Same H H' → Q (.int (onesIn b u)) H'
theorem len_ones_in (K : PySem.W.Frag) : ∀ vs H Q E, sp_ones_in K vs H Q E → vs.length = 2 := by
  rintro vs H Q E ⟨b, u, rfl, _⟩; rfl
def t_ones_in (K : PySem.W.Frag) : TS :=
  (tRet (tCB (rSum K) (tCons (tLc (iRng1 (tCons (tVar 1) tNil)) (gName 2) tYes (tOp rAnd1 (tOp rShr (tVar 0) (tVar 2)) (tC (.int 1))) [2]) tNil)))
abbrev n_ones_in : List Str := ["block", "upto", "k"]

theorem rd_ones_in (K : PySem.W.Frag) (vs : List V) (H : Hp) (Q : VK) (E : XK) (h : sp_ones_in K vs H Q E) : t_ones_in K { nx := fun _ H' => Q .non H', rt := Q } (start n_ones_in vs) H := by
  obtain ⟨b, u, rfl, hu, q⟩ := h
  unfold t_ones_in
  walk_at "st"
  refine comp_rangeV (n := u) (f := fun k => .int (bit b k)) (by omega) (fun k H2 Q2 _ _ q2 => ?_) (fun p H' _ s e => ?_)
  · walk_at "st"
    exact q2 _ (Same.refl _)
  · walk_at "st"
    refine k_sum (ns := (List.range u).map fun k => bit b k) (.of ?_) ?_
    · rw [e, List.map_map]; rfl
    · rw [onesIn_sum]; walk_at "st"; exact q _ s

/-- ones_table(blocks), the blocks of a row -/
def sp_ones_table (K : PySem.W.Frag) : Sp := fun vs H Q _ => ∃ (a : Addr) (bs : List Int), vs = [.ref a] ∧ H a = some (.lst ((blks bs).map V.int)) ∧ bs.length ≤ 5000 ∧ Bits bs ∧ ∀ p H', H p = none → Same H H' → H' p = some (.tup ((aheadT bs).map V.int)) → Q (.ref p) H'
theorem len_ones_table (K : PySem.W.Frag) : ∀ vs H Q E, sp_ones_table K vs H Q E → vs.length = 1 := by
  rintro vs H Q E ⟨a, bs, rfl, _⟩; rfl
def t_ones_table (K : PySem.W.Frag) : TS :=
  (tSeq (tAsg (tLst (tCons (tC (.int 0)) tNil)) (gName 1))
  (tSeq (tFor (iList K (tVar 0)) (gName 2)
  (tDrop (tBM K "list" rAppend (tVar 1) (tCons (tOp rPlus (tOp (rIxL K) (tVar 1) (tUn rNeg (tC (.int 1)))) (tCall (sp_ones_in K) [] E0 (tCons (tVar 2) (tCons (tC (.int 32)) tNil)))) tNil))))
  (tRet (tCB (rTupOf K) (tCons (tVar 1) tNil)))))
abbrev n_ones_table : List Str := ["blocks", "ahead", "block"]

theorem rd_ones_table (K : PySem.W.Frag) (vs : List V) (H : Hp) (Q : VK) (E : XK) (h : sp_ones_table K vs H Q E) : t_ones_table K { nx := fun _ H' => Q .non H', rt := Q } (start n_ones_table vs) H := by
  obtain ⟨a, bs, rfl, hS, hl, hB, q⟩ := h
  unfold t_ones_table
  walk_at "st"
  intro p hp
  walk_at "st"
  refine m_iLe (.of ((same_new hp).get hS)) ?_
  refine loop_ints (ns := blks bs) (fun i σ H' => ∃ y, σ = [some (.ref a), some (.ref p), y] ∧ i ≤ (blks bs).length ∧ Same H H' ∧ H' p = some (.lst ((aheadN bs (i + 1)).map V.int))) ⟨none, rfl, Nat.zero_le _, same_new hp, by rw [upd_same]; rfl⟩ (fun i σ H' ⟨_, _, _, s, _⟩ => .of (s.get hS)) ?_ ?_
  · rintro i x σ H' hx ⟨y, rfl, hi, s, e⟩
    have hlt : i < (blks bs).length := (List.getElem?_eq_some_iff.mp hx).1
    have hlt2 := hlt
    rw [blks_len] at hlt2
    walk_at "st"
    refine k_tyL (.of e) ?_
    walk_at "st"
    refine k_ixL (.of e) (x := .int (sumTo bs (32 * i))) (by rw [aheadN_succ, List.map_append]; exact atI_last _ _) ?_
    walk_at "st"
    refine ⟨x, 32, rfl, by decide, fun H2 s2 => ?_⟩
    walk_at "st"
    refine k_app (s2.get e) (by rw [List.length_map, aheadN_len]; omega) ?_
    walk_at "st"
    have e2 := s2.get e
    refine ⟨_, rfl, hlt, Same.mut (s.trans s2) hp, ?_⟩
    rw [upd_same, aheadN_succ bs (i + 1), List.map_append, onesIn_blks hB hx 32 (Nat.le_refl _), show 32 * i + 32 = 32 * (i + 1) by omega, show sumTo bs (32 * i) + (sumTo bs (32 * (i + 1)) - sumTo bs (32 * i)) = sumTo bs (32 * (i + 1)) by omega]; rfl
  · rintro σ H' ⟨y, rfl, hi, s, e⟩
    walk_at "st"
    refine k_tupL (.of e) fun t ht => ?_
    walk_at "st"
    refine q t _ (s.gone _ ht) (s.trans (same_new ht)) ?_
    rw [upd_same, blks_len]; rfl
/-- kept_row(bits) -/
def sp_kept_row (K : PySem.W.Frag) : Sp := fun vs H Q E => ∃ (a : Addr) (bs : List Int), vs = [.ref a] ∧ SqL K H a (bs.map V.int) ∧ bs.length ≤ 100000 ∧
  (bs.length > 4096 → E (.ref (He.ga K "TooMany")) none H) ∧
  (bs.length ≤ 4096 → ¬ Bits bs → ∀ H', Same H H' → E (.ref (He.ga K "NoBit")) none H') ∧
  (bs.length ≤ 4096 → Bits bs → ∀ p t pa pb H', H p = none → H t = none → H pa = none → H pb = none → Same H H' → H' p = some (.tup [.ref t, .ref pb]) → H' t = some (.tup [.int (bs.length : Int), .ref pa]) → H' pa = some (.tup ((aheadT bs).map V.int)) → H' pb = some (.lst ((blks bs).map V.int)) → Q (.ref p) H')
theorem len_kept_row (K : PySem.W.Frag) : ∀ vs H Q E, sp_kept_row K vs H Q E → vs.length = 1 := by
  rintro vs H Q E ⟨a, bs, rfl, _⟩; rfl
def t_kept_row (K : PySem.W.Frag) (E : XK) : TS :=
  (tSeq (tAsg (tCall (sp_packed K) [] E (tCons (tVar 0) tNil)) (gName 1))
  (tRet (tTup (tCons (tTup (tCons (tCB (rLen K) (tCons (tVar 0) tNil)) (tCons (tCall (sp_ones_table K) [] E0 (tCons (tVar 1) tNil)) tNil))) (tCons (tVar 1) tNil)))))
abbrev n_kept_row : List Str := ["bits", "blocks"]

theorem rd_kept_row (K : PySem.W.Frag) (vs : List V) (H : Hp) (Q : VK) (E : XK) (h : sp_kept_row K vs H Q E) : t_kept_row K E { nx := fun _ H' => Q .non H', rt := Q } (start n_kept_row vs) H := by
  obtain ⟨a, bs, rfl, hS, hl, q1, q2, q3⟩ := h
  unfold t_kept_row
  walk_at "st"
  refine ⟨a, bs, rfl, hS, hl, q1, q2, fun hm hB pb H1 hpb s1 e1 => ?_⟩
  walk_at "st"
  refine k_lenL (s1.seq hS) ?_
  walk_at "st"
  rw [List.length_map]
  refine ⟨pb, bs, rfl, e1, by omega, hB, fun pa H2 hpa s2 e2 => ?_⟩
  walk_at "st"
  intro t ht
  walk_at "st"
  intro p hp
  walk_at "st"
  have s3 := same_new (o := .tup [.int (bs.length : Int), .ref pa]) ht
  have s4 := same_new (o := .tup [.ref t, .ref pb]) hp
  exact q3 hm hB p t pa pb _ ((s1.trans (s2.trans s3)).gone _ hp) ((s1.trans s2).gone _ ht) (s1.gone _ hpa) hpb (s1.trans (s2.trans (s3.trans s4))) upd_same (s4.get upd_same) (s4.get (s3.get e2)) (s4.get (s3.get (s2.get e1)))

theorem isK_uniq : ∀ {as bs : List Int}, as.Pairwise (· < ·) → bs.Pairwise (· < ·) → (∀ k, k ∈ as ↔ k ∈ bs) → as = bs
  | [], [], _, _, _ => rfl
  | [], b :: bs, _, _, h => by have := (h b).mpr List.mem_cons_self; simp at this
  | a :: as, [], _, _, h => by have := (h a).mp List.mem_cons_self; simp at this
  | a :: as, b :: bs, sa, sb, h => by
    obtain ⟨a1, a2⟩ := List.pairwise_cons.mp sa
    obtain ⟨b1, b2⟩ := List.pairwise_cons.mp sb
    have e : a = b := by
      rcases List.mem_cons.mp ((h a).mp List.mem_cons_self) with z | z
      · exact z
      · rcases List.mem_cons.mp ((h b).mpr List.mem_cons_self) with w | w
        · exact w.symm
        · have := a1 b w; have := b1 a z; omega
    subst e
    rw [isK_uniq a2 b2 fun k => ⟨fun hk => ?_, fun hk => ?_⟩]
    · rcases List.mem_cons.mp ((h k).mp (List.mem_cons_of_mem _ hk)) with z | z
      · have := a1 k hk; omega
      · exact z
    · rcases List.mem_cons.mp ((h k).mpr (List.mem_cons_of_mem _ hk)) with z | z
      · have := b1 k hk; omega
      · exact z

/-! rows halved by the bits of their numbers -/
/-- a stretch -/
def seg {α : Type} (xs : List α) (s e : Nat) : List α := (xs.take e).drop s
/-- how many of the first i hold p -/
def cp {α : Type} (p : α → Bool) (xs : List α) (i : Nat) : Nat := ((xs.take i).filter p).length
theorem filter_take {α : Type} (p : α → Bool) : ∀ (xs : List α) (i : Nat), (xs.take i).filter p = (xs.filter p).take (cp p xs i)
  | [], i => by simp [cp]
  | x :: xs, 0 => by simp [cp]
  | x :: xs, i + 1 => by
    have ih := filter_take p xs i
    unfold cp at ih ⊢
    rw [List.take_succ_cons, List.filter_cons, List.filter_cons]
    split
    · rw [List.length_cons, List.take_succ_cons, ← ih]
    · exact ih
theorem take_seg {α : Type} (xs : List α) {s e : Nat} (h : s ≤ e) : xs.take e = xs.take s ++ seg xs s e := by
  unfold seg
  have := List.take_append_drop s (xs.take e)
  rw [List.take_take, Nat.min_eq_left h] at this
  exact this.symm
theorem cp_mono {α : Type} (p : α → Bool) (xs : List α) {s e : Nat} (h : s ≤ e) : cp p xs s ≤ cp p xs e := by
  unfold cp
  rw [take_seg xs h, List.filter_append, List.length_append]; omega
theorem seg_filter {α : Type} (p : α → Bool) (xs : List α) {s e : Nat} (h : s ≤ e) : (seg xs s e).filter p = seg (xs.filter p) (cp p xs s) (cp p xs e) := by
  have e1 := filter_take p xs e
  rw [take_seg xs h, List.filter_append] at e1
  show _ = ((xs.filter p).take (cp p xs e)).drop (cp p xs s)
  rw [← e1]
  unfold cp
  rw [List.drop_left]
theorem seg_left {α : Type} {as bs : List α} {s e : Nat} (h : e ≤ as.length) : seg (as ++ bs) s e = seg as s e := by
  unfold seg; rw [List.take_append_of_le_length h]
theorem seg_right {α : Type} {as bs : List α} {s e : Nat} : seg (as ++ bs) (as.length + s) (as.length + e) = seg bs s e := by
  unfold seg
  rw [List.take_append, List.take_of_length_le (by omega), show as.length + e - as.length = e by omega, List.drop_append, List.drop_eq_nil_of_le (by omega), List.nil_append, show as.length + s - as.length = s by omega]
theorem seg_one {α : Type} {xs : List α} {i : Nat} {r : α} (h : xs[i]? = some r) : seg xs i (i + 1) = [r] := by
  unfold seg
  rw [List.take_add_one, h]
  have hl := (List.getElem?_eq_some_iff.mp h).1
  rw [List.drop_append, List.drop_eq_nil_of_le (by rw [List.length_take]; omega), List.length_take, show i - min i xs.length = 0 by omega]; rfl
theorem seg_head {α : Type} {xs ys : List α} {s e : Nat} {r : α} (h : seg xs s e = r :: ys) : xs[s]? = some r := by
  unfold seg at h
  have h2 : ((xs.take e).drop s)[0]? = some r := by rw [h]; rfl
  rw [List.getElem?_drop, List.getElem?_take, Nat.add_zero] at h2
  split at h2
  · exact h2
  · cases h2
theorem seg_length {α : Type} {xs : List α} {s e : Nat} (h : e ≤ xs.length) : (seg xs s e).length = e - s := by
  unfold seg; rw [List.length_drop, List.length_take]; omega
theorem seg_all {α : Type} {xs : List α} {e : Nat} (h : xs.length ≤ e) : seg xs 0 e = xs := by
  unfold seg; rw [List.drop_zero, List.take_of_length_le h]
theorem seg_map {α β : Type} (f : α → β) (xs : List α) (s e : Nat) : seg (xs.map f) s e = (seg xs s e).map f := by
  unfold seg; rw [← List.map_take, ← List.map_drop]
theorem seg_get {α : Type} {xs : List α} {s e i : Nat} (h : s + i < e) : (seg xs s e)[i]? = xs[s + i]? := by
  unfold seg; rw [List.getElem?_drop, List.getElem?_take, if_pos h]
/-- a number's bit of a weight -/
def wb (w r : Nat) : Nat := r / 2 ^ w % 2
theorem wb_le (w r : Nat) : wb w r = 0 ∨ wb w r = 1 := by unfold wb; omega
abbrev p0 (w : Nat) : Nat → Bool := fun r => decide (wb w r = 0)
abbrev p1 (w : Nat) : Nat → Bool := fun r => decide (wb w r = 1)
theorem cp_both (w : Nat) : ∀ (xs : List Nat) (i : Nat), i ≤ xs.length → cp (p0 w) xs i + cp (p1 w) xs i = i
  | xs, 0, _ => by simp [cp]
  | [], i + 1, h => by simp at h
  | x :: xs, i + 1, h => by
    have ih := cp_both w xs i (by simpa using h)
    unfold cp at ih ⊢
    rw [List.take_succ_cons, List.filter_cons, List.filter_cons]
    rcases wb_le w x with z | z
    · rw [if_pos (by simp [z]), if_neg (by simp [z])]; simp only [List.length_cons]; omega
    · rw [if_neg (by simp [z]), if_pos (by simp [z])]; simp only [List.length_cons]; omega
/-- the noughts' numbers ahead of the ones' -/
def partW (w : Nat) (row : List Nat) : List Nat := row.filter (p0 w) ++ row.filter (p1 w)
theorem partW_len (w : Nat) (row : List Nat) : (partW w row).length = row.length := by
  have := cp_both w row row.length (Nat.le_refl _)
  unfold cp at this
  rw [List.take_length] at this
  unfold partW
  rw [List.length_append]; exact this
theorem mem_partW {w : Nat} {row : List Nat} {r : Nat} : r ∈ partW w row ↔ r ∈ row := by
  unfold partW
  rw [List.mem_append, List.mem_filter, List.mem_filter]
  rcases wb_le w r with z | z <;> simp [z]
/-- the row at each level -/
def rowsW (L : Nat) (row : List Nat) : Nat → List Nat
  | 0 => row
  | l + 1 => partW (L - 1 - l) (rowsW L row l)
theorem rowsW_len (L : Nat) (row : List Nat) : ∀ l, (rowsW L row l).length = row.length
  | 0 => rfl
  | l + 1 => by show (partW _ _).length = _; rw [partW_len, rowsW_len L row l]
theorem mem_rowsW {L : Nat} {row : List Nat} {r : Nat} : ∀ {l}, r ∈ rowsW L row l ↔ r ∈ row
  | 0 => Iff.rfl
  | l + 1 => mem_partW.trans (mem_rowsW (l := l))
/-- its bits -/
def bitsW (L : Nat) (row : List Nat) (l : Nat) : List Int := (rowsW L row l).map fun r => ((wb (L - 1 - l) r : Nat) : Int)
theorem bitsW_len (L : Nat) (row : List Nat) (l : Nat) : (bitsW L row l).length = row.length := by unfold bitsW; rw [List.length_map, rowsW_len]
theorem bitsW_bits (L : Nat) (row : List Nat) (l : Nat) : Bits (bitsW L row l) := fun x hx => by
  obtain ⟨r, _, rfl⟩ := List.mem_map.mp hx
  rcases wb_le (L - 1 - l) r with z | z <;> rw [z]
  · exact .inl rfl
  · exact .inr rfl
/-- noughts, ones ahead of a place -/
def nW (L : Nat) (row : List Nat) (l i : Nat) : Nat := cp (p0 (L - 1 - l)) (rowsW L row l) i
def uW (L : Nat) (row : List Nat) (l i : Nat) : Nat := cp (p1 (L - 1 - l)) (rowsW L row l) i
theorem nuW {L : Nat} {row : List Nat} {l i : Nat} (h : i ≤ row.length) : nW L row l i + uW L row l i = i := cp_both _ _ _ (by rw [rowsW_len]; exact h)
theorem sumTo_wb (w : Nat) : ∀ (xs : List Nat) (i : Nat), sumTo (xs.map fun r => ((wb w r : Nat) : Int)) i = (cp (p1 w) xs i : Nat)
  | [], i => by simp [cp, sumTo]
  | x :: xs, 0 => by simp [cp, sumTo]
  | x :: xs, i + 1 => by
    have ih := sumTo_wb w xs i
    unfold cp at ih ⊢
    unfold sumTo at ih ⊢
    rw [List.map_cons, List.take_succ_cons, List.take_succ_cons, List.sum_cons, ih, List.filter_cons]
    rcases wb_le w x with z | z
    · rw [if_neg (by simp [z]), z]; simp
    · rw [if_pos (by simp [z]), z, List.length_cons]; push_cast; omega
theorem sumW (L : Nat) (row : List Nat) (l i : Nat) : sumTo (bitsW L row l) i = (uW L row l i : Nat) := sumTo_wb _ _ _
theorem noughtW {L : Nat} {row : List Nat} {l i : Nat} (h : i ≤ row.length) : (i : Int) - sumTo (bitsW L row l) i = (nW L row l i : Nat) := by
  rw [sumW]; have := nuW (L := L) (l := l) h; omega
/-- all noughts -/
def zW (L : Nat) (row : List Nat) (l : Nat) : Nat := nW L row l row.length
theorem zW_len (L : Nat) (row : List Nat) (l : Nat) : ((rowsW L row l).filter (p0 (L - 1 - l))).length = zW L row l := by
  unfold zW nW cp
  rw [List.take_of_length_le (by rw [rowsW_len]; exact Nat.le_refl _)]
theorem nW_mono {L : Nat} {row : List Nat} {l s e : Nat} (h : s ≤ e) : nW L row l s ≤ nW L row l e := cp_mono _ _ h
theorem uW_mono {L : Nat} {row : List Nat} {l s e : Nat} (h : s ≤ e) : uW L row l s ≤ uW L row l e := cp_mono _ _ h
theorem nW_le {L : Nat} {row : List Nat} {l e : Nat} (h : e ≤ row.length) : nW L row l e ≤ zW L row l := nW_mono h
theorem zuW {L : Nat} {row : List Nat} {l e : Nat} (h : e ≤ row.length) : zW L row l + uW L row l e ≤ row.length := by
  have h1 := uW_mono (L := L) (row := row) (l := l) h
  have h2 := nuW (L := L) (l := l) (Nat.le_refl row.length)
  unfold zW
  omega
theorem seg_n {L : Nat} {row : List Nat} {l s e : Nat} (h : s ≤ e) (he : e ≤ row.length) : (seg (rowsW L row l) s e).filter (p0 (L - 1 - l)) = seg (rowsW L row (l + 1)) (nW L row l s) (nW L row l e) := by
  rw [seg_filter _ _ h]
  show _ = seg (partW _ _) _ _
  unfold partW
  rw [seg_left (by rw [zW_len]; exact nW_le he)]; rfl
theorem seg_u {L : Nat} {row : List Nat} {l s e : Nat} (h : s ≤ e) : (seg (rowsW L row l) s e).filter (p1 (L - 1 - l)) = seg (rowsW L row (l + 1)) (zW L row l + uW L row l s) (zW L row l + uW L row l e) := by
  rw [seg_filter _ _ h]
  show _ = seg (partW _ _) _ _
  unfold partW
  rw [← zW_len, seg_right]; rfl
/-- one item, a level on -/
theorem item_n {L : Nat} {row : List Nat} {l i r : Nat} (h : (rowsW L row l)[i]? = some r) (hb : wb (L - 1 - l) r = 0) : (rowsW L row (l + 1))[nW L row l i]? = some r := by
  have hl := (List.getElem?_eq_some_iff.mp h).1
  rw [rowsW_len] at hl
  have := seg_n (L := L) (l := l) (show i ≤ i + 1 by omega) hl
  rw [seg_one h, List.filter_cons, if_pos (by simp [hb])] at this
  exact seg_head this.symm
theorem item_u {L : Nat} {row : List Nat} {l i r : Nat} (h : (rowsW L row l)[i]? = some r) (hb : wb (L - 1 - l) r = 1) : (rowsW L row (l + 1))[zW L row l + uW L row l i]? = some r := by
  have := seg_u (L := L) (row := row) (l := l) (show i ≤ i + 1 by omega)
  rw [seg_one h, List.filter_cons, if_pos (by simp [hb])] at this
  exact seg_head this.symm
/-- a number's first bits -/
def pre (L l r : Nat) : Nat := r / 2 ^ (L - l)
theorem pre_next {L l r : Nat} (h : l < L) : pre L (l + 1) r = 2 * pre L l r + wb (L - 1 - l) r := by
  unfold pre wb
  rw [show L - (l + 1) = L - 1 - l by omega, show L - l = L - 1 - l + 1 by omega, Nat.pow_succ, ← Nat.div_div_eq_div_mul]
  omega
theorem pre_end (L r : Nat) : pre L L r = r := by unfold pre; rw [Nat.sub_self]; simp
theorem pre_zero {L r : Nat} (h : r < 2 ^ L) : pre L 0 r = 0 := by unfold pre; exact Nat.div_eq_of_lt h
/-- the stretch of those that begin alike -/
theorem down_n {L : Nat} {row S : List Nat} {l s e p : Nat} (hl : l < L) (h : s ≤ e) (he : e ≤ row.length) (hS : seg (rowsW L row l) s e = S.filter fun r => pre L l r = p) : seg (rowsW L row (l + 1)) (nW L row l s) (nW L row l e) = S.filter fun r => pre L (l + 1) r = 2 * p := by
  rw [← seg_n h he, hS, List.filter_filter]
  refine List.filter_congr fun r _ => ?_
  rw [pre_next hl]
  show (decide (wb (L - 1 - l) r = 0) && decide (pre L l r = p)) = decide (2 * pre L l r + wb (L - 1 - l) r = 2 * p)
  rw [← Bool.decide_and]
  have := wb_le (L - 1 - l) r
  exact decide_eq_decide.mpr (by omega)
theorem down_u {L : Nat} {row S : List Nat} {l s e p : Nat} (hl : l < L) (h : s ≤ e) (hS : seg (rowsW L row l) s e = S.filter fun r => pre L l r = p) : seg (rowsW L row (l + 1)) (zW L row l + uW L row l s) (zW L row l + uW L row l e) = S.filter fun r => pre L (l + 1) r = 2 * p + 1 := by
  rw [← seg_u h, hS, List.filter_filter]
  refine List.filter_congr fun r _ => ?_
  rw [pre_next hl]
  show (decide (wb (L - 1 - l) r = 1) && decide (pre L l r = p)) = decide (2 * pre L l r + wb (L - 1 - l) r = 2 * p + 1)
  rw [← Bool.decide_and]
  have := wb_le (L - 1 - l) r
  exact decide_eq_decide.mpr (by omega)
/-! kinds and ranks -/
structure IsK (ks sg : List Int) : Prop where
  srt : ks.Pairwise (· < ·)
  mem : ∀ k, k ∈ ks ↔ k ∈ sg
def rk (ks : List Int) (x : Int) : Nat := ks.countP fun y => y < x
theorem rk_get : ∀ {ks : List Int} {i : Nat} {x : Int}, ks.Pairwise (· < ·) → ks[i]? = some x → rk ks x = i
  | [], i, x, _, h => by simp at h
  | k :: ks, 0, x, s, h => by
    obtain rfl : k = x := by simpa using h
    unfold rk
    rw [List.countP_cons, if_neg (by simp), Nat.add_zero, List.countP_eq_zero]
    intro y hy
    have := (List.pairwise_cons.mp s).1 y hy
    simp; omega
  | k :: ks, i + 1, x, s, h => by
    obtain ⟨s1, s2⟩ := List.pairwise_cons.mp s
    rw [List.getElem?_cons_succ] at h
    have ih := rk_get s2 h
    have := s1 x (List.mem_of_getElem? h)
    unfold rk at ih ⊢
    rw [List.countP_cons, ih, if_pos (by simpa using this)]
theorem get_rk {ks : List Int} {x : Int} (s : ks.Pairwise (· < ·)) (h : x ∈ ks) : ks[rk ks x]? = some x := by
  obtain ⟨i, hi⟩ := List.mem_iff_getElem?.mp h
  rw [rk_get s hi]; exact hi
theorem rk_lt {ks : List Int} {x : Int} (s : ks.Pairwise (· < ·)) (h : x ∈ ks) : rk ks x < ks.length := (List.getElem?_eq_some_iff.mp (get_rk s h)).1
theorem rk_le (ks : List Int) (x : Int) : rk ks x ≤ ks.length := List.countP_le_length
theorem rk_mono (ks : List Int) {x y : Int} (h : x ≤ y) : rk ks x ≤ rk ks y := by
  unfold rk
  exact List.countP_mono_left fun z _ hz => by simp at hz ⊢; omega
theorem rk_iff {ks : List Int} {x v : Int} (s : ks.Pairwise (· < ·)) (h : x ∈ ks) : rk ks x < rk ks v ↔ x < v := by
  constructor
  · intro a
    rcases Int.lt_or_le x v with z | z
    · exact z
    · have := rk_mono ks z; omega
  · intro a
    have e := get_rk s h
    have h1 := (List.getElem?_eq_some_iff.mp e).1
    -- the first rk x + 1 are below v
    have h2 : ((ks.take (rk ks x + 1)).countP fun y => y < v) = rk ks x + 1 := by
      have h3 : (ks.take (rk ks x + 1)).length = rk ks x + 1 := by rw [List.length_take]; omega
      refine Eq.trans (List.countP_eq_length.mpr fun y hy => ?_) h3
      obtain ⟨j, hj⟩ := List.mem_iff_getElem?.mp hy
      rw [List.getElem?_take] at hj
      split at hj
      · have hr := rk_get s hj
        have : y ≤ x := by
          rcases Int.lt_or_le x y with z | z
          · exfalso
            have p := List.pairwise_iff_getElem.mp s
            obtain ⟨j1, j2⟩ := List.getElem?_eq_some_iff.mp hj
            obtain ⟨i1, i2⟩ := List.getElem?_eq_some_iff.mp e
            rcases Nat.lt_or_ge j (rk ks x) with w | w
            · have := p j (rk ks x) j1 i1 w
              omega
            · have : j = rk ks x := by omega
              subst this
              omega
          · exact z
        simp; omega
      · cases hj
    have h4 := List.countP_append (p := fun y : Int => decide (y < v)) (l₁ := ks.take (rk ks x + 1)) (l₂ := ks.drop (rk ks x + 1))
    rw [List.take_append_drop, h2] at h4
    unfold rk at h4 ⊢
    omega
/-- the ranks of a row of signs -/
def ranks (ks sg : List Int) : List Nat := sg.map (rk ks)
theorem ranks_len (ks sg : List Int) : (ranks ks sg).length = sg.length := by unfold ranks; rw [List.length_map]

/-! ### the heap over places: the least power of two -/
/-- the doublings from 1 until many are reached -/
def hOf (many : Nat) : Nat := if many ≤ 1 then 0 else (many - 1).log2 + 1
theorem hOf_le (many : Nat) : many ≤ 2 ^ hOf many := by
  unfold hOf
  split
  · rw [Nat.pow_zero]; omega
  · have := Nat.lt_log2_self (n := many - 1)
    omega
theorem hOf_lt {many k : Nat} (h : k < hOf many) : 2 ^ k < many := by
  unfold hOf at h
  split at h
  · omega
  · have h1 : 2 ^ k ≤ 2 ^ (many - 1).log2 := Nat.pow_le_pow_right (by decide) (by omega)
    have h2 := Nat.log2_self_le (n := many - 1) (by omega)
    omega
theorem hOf_small {many : Nat} (h : many ≤ 4096) : hOf many ≤ 12 := by
  rcases Nat.lt_or_ge 12 (hOf many) with z | z
  · have := hOf_lt z; omega
  · exact z

/-- how many levels -/
def lvK (ks : List Int) : Nat := hOf ks.length
/-- the blocks of a level -/
def eachB (sg : List Int) : Nat := (sg.length + 31) / 32
def bitsK (ks sg : List Int) (l : Nat) : List Int := bitsW (lvK ks) (ranks ks sg) l
theorem bitsK_len (ks sg : List Int) (l : Nat) : (bitsK ks sg l).length = sg.length := by unfold bitsK; rw [bitsW_len, ranks_len]
theorem bitsK_bits (ks sg : List Int) (l : Nat) : Bits (bitsK ks sg l) := bitsW_bits _ _ _
theorem bitsK_blks (ks sg : List Int) (l : Nat) : (blks (bitsK ks sg l)).length = eachB sg := by rw [blks_len, bitsK_len]; rfl
/-- the blocks of the first m levels -/
def sgB (ks sg : List Int) : Nat → List Int
  | 0 => []
  | m + 1 => sgB ks sg m ++ blks (bitsK ks sg m)
theorem sgB_len (ks sg : List Int) : ∀ m, (sgB ks sg m).length = m * eachB sg
  | 0 => by simp [sgB]
  | m + 1 => by unfold sgB; rw [List.length_append, sgB_len ks sg m, bitsK_blks, Nat.succ_mul]
theorem sgB_get (ks sg : List Int) {l k : Nat} : ∀ {m}, l < m → k < eachB sg → (sgB ks sg m)[l * eachB sg + k]? = (blks (bitsK ks sg l))[k]?
  | 0, h, _ => by omega
  | m + 1, h, hk => by
    unfold sgB
    rcases Nat.lt_or_ge l m with z | z
    · have h1 : l * eachB sg + eachB sg ≤ m * eachB sg := by rw [← Nat.succ_mul]; exact Nat.mul_le_mul_right _ z
      rw [List.getElem?_append_left (by rw [sgB_len]; omega)]
      exact sgB_get ks sg z hk
    · obtain rfl : l = m := by omega
      rw [List.getElem?_append_right (by rw [sgB_len]; omega), sgB_len, show l * eachB sg + k - l * eachB sg = k by omega]
theorem nodup_len {ks sg : List Int} (h : IsK ks sg) : ks.length ≤ sg.length := by
  refine List.Nodup.length_le_of_subset ?_ fun x hx => (h.mem x).mp hx
  exact h.srt.imp fun {a b} z => by omega
theorem lvK_le {ks sg : List Int} (h : IsK ks sg) (hl : sg.length ≤ 4096) : lvK ks ≤ 12 := hOf_small (Nat.le_trans (nodup_len h) hl)
theorem rank_lt {ks sg : List Int} (h : IsK ks sg) {r : Nat} (hr : r ∈ ranks ks sg) : r < ks.length ∧ r < 2 ^ lvK ks := by
  obtain ⟨x, hx, rfl⟩ := List.mem_map.mp hr
  have h1 := rk_lt h.srt ((h.mem x).mpr hx)
  exact ⟨h1, Nat.lt_of_lt_of_le h1 (hOf_le _)⟩
/-- the last number of the ones ahead -/
theorem ahead_last (bs : List Int) : atI ((aheadT bs).map V.int) (-1) = some (.int bs.sum) := by
  unfold aheadT
  rw [aheadN_succ, List.map_append]
  have := atI_last ((aheadN bs ((bs.length + 31) / 32)).map V.int) (V.int (sumTo bs (32 * ((bs.length + 31) / 32))))
  rw [sumTo_all bs (show bs.length ≤ 32 * ((bs.length + 31) / 32) by omega)] at this ⊢
  exact this
theorem zK {ks sg : List Int} (l : Nat) : (sg.length : Int) - (bitsK ks sg l).sum = (zW (lvK ks) (ranks ks sg) l : Nat) := by
  have := noughtW (L := lvK ks) (l := l) (Nat.le_refl (ranks ks sg).length)
  rw [sumTo_all _ (by rw [bitsW_len]; exact Nat.le_refl _), ranks_len] at this
  exact this.trans (by unfold zW; rw [ranks_len])

/-! for .. in reversed(range(n)) -/
def RevRK (R : It → Hp → Prop) (x : V) (H : Hp) : Prop := ∃ n, x = .int n ∧ (-(2 ^ 62) ≤ (0 : Int) ∧ (0 : Int) < 2 ^ 62 ∧ -(2 ^ 62) ≤ n ∧ n < 2 ^ 62 ∧ R (Itc (0 + (((n - 0).toNat : Nat) : Int) - 1) (-1) (n - 0).toNat) H)
theorem m_revR1 {ta : TE} {σ : L2.St} {H : Hp} {R : It → Hp → Prop} (h : ta σ H (RevRK R)) : iRevR (tRg1 ta) σ H R := h
theorem m_revRe {R : It → Hp → Prop} {n : Nat} {H : Hp} (hn : n ≤ 1000000) (r : R (Itc ((n : Int) - 1) (-1) n) H) : RevRK R (.int (n : Int)) H := by
  refine ⟨n, rfl, by decide, by decide, by omega, by omega, ?_⟩
  rw [show ((n : Int) - 0).toNat = n by omega, show (0 : Int) + (n : Int) - 1 = (n : Int) - 1 by omega]
  exact r
theorem loop_revR {n : Nat} {g : TG} {tb : TS} {nx : L2.St → Hp → Prop} {rt : VK} {σ : L2.St} {H : Hp} (Pv : Nat → L2.St → Hp → Prop) (h0 : Pv 0 σ H)
    (hs : ∀ i σ H, i < n → Pv i σ H → g (.int ((n - 1 - i : Nat) : Int)) σ H fun σ2 H2 => tb (Ends.mk (Pv (i + 1)) rt nx (Pv (i + 1))) σ2 H2) (hd : ∀ σ H, Pv n σ H → nx σ H) : LoopOk (Itc ((n : Int) - 1) (-1) n) g tb nx rt σ H :=
  loop_walk (n := n) walk_rangeC Pv h0 (fun _ _ _ _ => trivial) (fun i v σ H H' hi p hy => by
    obtain ⟨rfl, rfl⟩ := hy
    show g (.int ((n : Int) - 1 + (i : Nat) * (-1))) σ _ _
    rw [show (n : Int) - 1 + (i : Nat) * (-1) = ((n - 1 - i : Nat) : Int) by omega]
    exact hs i σ _ hi p) hd

/-- levels_for(kinds) -/
def sp_levels_for (K : PySem.W.Frag) : Sp := fun vs H Q _ => ∃ n : Nat, vs = [.int (n : Int)] ∧ n ≤ 4096 ∧ Q (.int (hOf n : Nat)) H
theorem len_levels_for (K : PySem.W.Frag) : ∀ vs H Q E, sp_levels_for K vs H Q E → vs.length = 1 := by
  rintro vs H Q E ⟨x, rfl, _⟩; rfl
def t_levels_for (K : PySem.W.Frag) : TS :=
  (tSeq (tAsg (tC (.int 0)) (gName 1))
  (tSeq (tAsg (tC (.int 1)) (gName 2))
  (tSeq (tWhile (tTest (tOp rLt (tVar 2) (tVar 0)))
  (tSeq (tAug 2 (tVar 2) (ipI fun i j => i + j))
  (tAug 1 (tC (.int 1)) (ipI fun i j => i + j))))
  (tRet (tVar 1)))))
abbrev n_levels_for : List Str := ["kinds", "levels", "room"]

theorem rd_levels_for (K : PySem.W.Frag) (vs : List V) (H : Hp) (Q : VK) (E : XK) (h : sp_levels_for K vs H Q E) : t_levels_for K { nx := fun _ H' => Q .non H', rt := Q } (start n_levels_for vs) H := by
  obtain ⟨n, rfl, hn, q⟩ := h
  have hlv := hOf_small hn
  unfold t_levels_for
  walk_at "st"
  refine loop_while (fun m σ' H' => ∃ k : Nat, m = hOf n - k ∧ k ≤ hOf n ∧ H' = H ∧ σ' = [some (.int (n : Int)), some (.int (k : Int)), some (.int ((2 ^ k : Nat) : Int))]) (hOf n) ⟨0, rfl, Nat.zero_le _, rfl, rfl⟩ ?_
  rintro m σ' H' ⟨k, rfl, hk, rfl, rfl⟩
  walk_at "st"
  walk_at "if" <;> intro c
  · have c2 : 2 ^ k < n := by exact_mod_cast c
    have hk2 : k < hOf n := by
      rcases Nat.lt_or_ge k (hOf n) with z | z
      · exact z
      · have := hOf_le n
        have := Nat.pow_le_pow_right (show 0 < 2 by decide) z
        omega
    walk_at "st"
    refine ⟨hOf n - (k + 1), by omega, k + 1, rfl, hk2, rfl, ?_⟩
    rw [show ((2 ^ (k + 1) : Nat) : Int) = ((2 ^ k : Nat) : Int) + ((2 ^ k : Nat) : Int) by rw [Nat.pow_succ]; push_cast; omega]; rfl
  have hkL : k = hOf n := by
    rcases Nat.lt_or_ge k (hOf n) with z | z
    · have := hOf_lt (many := n) (k := k) z
      have c2 : ¬ 2 ^ k < n := by exact_mod_cast c
      exact absurd this c2
    · omega
  subst hkL
  walk_at "st"
  exact q

/-- numbers of a row -/
def natL (xs : List Nat) : List Int := xs.map fun r : Nat => (r : Int)
theorem natL_len (xs : List Nat) : (natL xs).length = xs.length := by unfold natL; rw [List.length_map]
theorem wb_int (w r : Nat) : ((r : Int) / ((2 ^ w : Nat) : Int)) % 2 = ((wb w r : Nat) : Int) := by unfold wb; push_cast; rfl
theorem natL_filter (w b : Nat) (xs : List Nat) : (natL xs).filter (fun n => decide ((n / ((2 ^ w : Nat) : Int)) % 2 = (b : Int))) = natL (xs.filter fun r => decide (wb w r = b)) := by
  unfold natL
  rw [List.filter_map]
  congr 1
  refine List.filter_congr fun r _ => ?_
  show decide _ = decide _
  rw [wb_int]
  exact decide_eq_decide.mpr (by omega)

theorem range_fm {α β : Type} (l : List α) (g : α → Option β) : (List.range l.length).filterMap (fun k => (l[k]?).bind g) = l.filterMap g := by
  have h : ∀ n, n ≤ l.length → (List.range n).filterMap (fun k => (l[k]?).bind g) = (l.take n).filterMap g := by
    intro n
    induction n with
    | zero => intro _; rfl
    | succ n ih =>
      intro hn
      have e := List.getElem?_eq_getElem (show n < l.length by omega)
      rw [List.range_succ, List.filterMap_append, ih (by omega), List.take_add_one, e, List.filterMap_append]
      congr 1
      show List.filterMap _ [n] = List.filterMap g [l[n]]
      rw [List.filterMap_cons, List.filterMap_cons, e]; rfl
  rw [h _ (Nat.le_refl _), List.take_length]
theorem fm_if {α β : Type} (p : α → Bool) (f : α → β) : ∀ l : List α, l.filterMap (fun n => if p n = true then some (f n) else none) = (l.filter p).map f
  | [] => rfl
  | n :: l => by
    rw [List.filterMap_cons, List.filter_cons]
    cases p n with
    | true => rw [if_pos rfl, if_pos rfl, fm_if p f l]; rfl
    | false => rw [if_neg (by decide), if_neg (by decide), fm_if p f l]
/-- the numbers of a list that a test lets through -/
theorem comp_filterI {K : PySem.W.Frag} {σ : L2.St} {H : Hp} {Q : VK} {a : Addr} {ns : List Int} {te : TE} {tt : TT} {j : Nat} (p : Int → Bool) (hl : SqL K H a (ns.map V.int)) (hn : ns.length ≤ 100000)
    (ht : ∀ (k : Nat) (n : Int) (H1 : Hp) (Qb : Bool → Hp → Prop), ns[k]? = some n → Same H H1 → (∀ H2, Same H1 H2 → Qb (p n) H2) → tt ((wipe σ [j]).set j (some (.int n))) H1 Qb)
    (he : ∀ (n : Int) (H1 : Hp) (Q2 : VK), Q2 (.int n) H1 → te ((wipe σ [j]).set j (some (.int n))) H1 Q2)
    (q : ∀ pd H', H pd = none → Same H H' → H' pd = some (.lst ((ns.filter p).map V.int)) → Q (.ref pd) H') (hw : ∀ x, wipe ((wipe σ [j]).set j (some x)) [j] = wipe σ [j] := by intro _; rfl) : CompOk (Itl K a) (gName j) tt te [j] σ H Q := by
  refine comp_walkV (f := fun k => (ns[k]?).bind fun n => if p n = true then some (V.int n) else none) (walk_list (K := K) (xs := ns.map V.int)) (by rw [List.length_map]; exact hn) (fun H' s' => s'.seq hl) (fun k v Hb Hc Qb hk sk hy qb => ?_) (fun pm Hb hpm sb eb => ?_) hw
  · obtain ⟨rfl, hv⟩ := hy
    obtain ⟨n, en, rfl⟩ := of_mapint hv
    refine ht k n Hc Qb en sk fun H2 s2 => qb (p n) H2 s2 (fun hp Q2 H4 s4 => ⟨_, by rw [en]; show (if p n = true then _ else _) = _; rw [if_pos hp], fun q2 => he n H4 Q2 (q2 H4 (Same.refl _))⟩) fun hp => ?_
    rw [en]
    show (if p n = true then _ else _) = _
    rw [if_neg (by rw [hp]; decide)]
  · rw [List.length_map, range_fm, fm_if] at eb
    exact q pm Hb hpm sb eb

/-- dicts: keys are numbers -/
def DGetK (Q : VK) (x y : V) (H : Hp) : Prop := ∃ a v, x = .ref a ∧ DGet H a y (some v) ∧ Q v H
theorem m_dget {td ty : TE} {σ : L2.St} {H : Hp} {Q : VK} (h : td σ H fun x H1 => ty σ H1 fun y H2 => DGetK Q x y H2) : tDGet td ty σ H Q := h
theorem k_dgetE {H : Hp} {Q : VK} {a : Addr} {kvs : List (Key × V)} {i : Int} {v : V} (e : H a = some (.dK kvs)) (hv : valV kvs (.inl i) = some v) (q : Q v H) : DGetK Q (.ref a) (.int i) H :=
  ⟨a, v, rfl, by rw [← hv]; exact DGet.k (k := .inl i) e, q⟩
def DPutK (nx : Hp → Prop) (x y v : V) (H : Hp) : Prop := ∃ a H4, x = .ref a ∧ DPut H a y v H4 ∧ nx H4
theorem m_dput {td ty tv : TE} {σ : L2.St} {H : Hp} {nx bk ct : L2.St → Hp → Prop} {rt : VK} (h : tv σ H fun v H1 => td σ H1 fun x H2 => ty σ H2 fun y H3 => DPutK (nx σ) x y v H3) : sDPut td ty tv (Ends.mk nx rt bk ct) σ H := h
theorem k_dputE {H : Hp} {nx : Hp → Prop} {a : Addr} {kvs : List (Key × V)} {i : Int} {v : V} (e : H a = some (.dK kvs)) (hl : kvs.length ≤ 100000) (q : nx (upd H a (.dK (putK kvs (.inl i) v)))) : DPutK nx (.ref a) (.int i) v H :=
  ⟨a, _, rfl, DPut.k (k := .inl i) e (Nat.lt_of_le_of_lt hl (by decide)), q⟩
/-- {i: v} -/
def Disp1K (p : Addr) (Q : VK) (x y : V) (H : Hp) : Prop := H p = some (.dK []) ∧ ∃ kvs : List (Key × V), [(x, y)] = kvs.map (fun kv => (kV kv.1, kv.2)) ∧ kvs.length ≤ 15 ∧ Q (.ref p) (upd H p (.dK (mergeK [] kvs)))
theorem m_disp1 {tk tv : TE} {σ : L2.St} {H : Hp} {Q : VK} (h : ∀ p, H p = none → tk σ (upd H p (.dK [])) fun x H1 => tv σ H1 fun y H2 => Disp1K p Q x y H2) : tDisp [(tk, tv)] σ H Q := h
theorem k_disp1E {p : Addr} {H : Hp} {Q : VK} {i : Int} {y : V} (e : H p = some (.dK [])) (q : Q (.ref p) (upd H p (.dK [(.inl i, y)]))) : Disp1K p Q (.int i) y H := ⟨e, [(.inl i, y)], rfl, by simp, q⟩
theorem Same.mutD {H H' : Hp} {p : Addr} {o : HO} (e : Same H H') (h : H p = none) {kvs : List (Key × V)} (hl : H' p = some (.dK kvs)) : Same H (upd H' p o) := by
  refine ⟨fun b x hb n => by rw [upd_ne (ne_of_none hb h)]; exact e.keep b x hb n, fun b hb => e.gone b (NdefX.upd_none hb), fun P t => ?_⟩
  obtain ⟨ps, h1, ht, hc⟩ := e.tabs P t
  have np : ∀ {b : Addr} {u : HO}, H' b = some u → (∀ xs, u ≠ .dK xs) → b ≠ p := fun {b u} q d z => by
    subst z; rw [hl] at q; cases q; exact d _ rfl
  refine ⟨ps, by rw [upd_ne (np h1 fun _ z => nomatch z)]; exact h1, ht, fun pos cv q => ?_⟩
  obtain ⟨c, e1, e2⟩ := hc pos cv q
  exact ⟨c, e1, by rw [upd_ne (np e2 fun _ z => by unfold LamX.CodeO at z; cases z)]; exact e2⟩
theorem m_dnew {H : Hp} {σ : L2.St} {Q : VK} (h : ∀ p, H p = none → Q (.ref p) (upd H p (.dK []))) : tDNewK σ H Q := h
theorem Same.mutG {H H' : Hp} {p : Addr} {o o' : HO} (e : Same H H') (h : H p = none) (hl : H' p = some o') (n1 : ∀ ps, o' ≠ .tbl ps) (n2 : ∀ φ, o' ≠ .ext φ) : Same H (upd H' p o) := by
  refine ⟨fun b x hb n => by rw [upd_ne (ne_of_none hb h)]; exact e.keep b x hb n, fun b hb => e.gone b (NdefX.upd_none hb), fun P t => ?_⟩
  obtain ⟨ps, h1, ht, hc⟩ := e.tabs P t
  have np : ∀ {b : Addr} {u : HO}, H' b = some u → u ≠ o' → b ≠ p := fun {b u} q d z => by
    subst z; rw [hl] at q; exact d (Option.some.inj q).symm
  refine ⟨ps, by rw [upd_ne (np h1 fun z => n1 _ z.symm)]; exact h1, ht, fun pos cv q => ?_⟩
  obtain ⟨c, e1, e2⟩ := hc pos cv q
  exact ⟨c, e1, by rw [upd_ne (np e2 fun z => by unfold LamX.CodeO at z; exact n2 _ z.symm)]; exact e2⟩
theorem putK_mem {kvs : List (Key × V)} {k : Key} {v : V} {p : Key × V} (h : p ∈ putK kvs k v) : p.1 = k ∨ ∃ q ∈ kvs, q.1 = p.1 := by
  unfold putK at h
  split at h
  · obtain ⟨q, hq, e⟩ := List.mem_map.mp h
    refine .inr ⟨q, hq, ?_⟩
    rw [← e]
    split <;> rfl
  · rcases List.mem_append.mp h with z | z
    · exact .inr ⟨p, z, rfl⟩
    · rw [List.mem_singleton.mp z]; exact .inl rfl
theorem valV_mem {kvs : List (Key × V)} {k : Key} {v : V} (h : valV kvs k = some v) : ∃ q ∈ kvs, q.1 = k := by
  unfold valV at h
  obtain ⟨q, hq, _⟩ := Option.map_eq_some_iff.mp h
  exact ⟨q, List.mem_of_find?_eq_some hq, by simpa using List.find?_some hq⟩
/-- x in d -/
def DInK (Q : VK) (y x : V) (H : Hp) : Prop := ∃ a o, x = .ref a ∧ DGet H a y o ∧ Q (.bl o.isSome) H
theorem m_din {ty td : TE} {σ : L2.St} {H : Hp} {Q : VK} (h : ty σ H fun y H1 => td σ H1 fun x H2 => DInK Q y x H2) : tDIn ty td σ H Q := h
theorem k_dinE {H : Hp} {Q : VK} {a : Addr} {kvs : List (Key × V)} {i : Int} (e : H a = some (.dK kvs)) (q : Q (.bl (valV kvs (.inl i)).isSome) H) : DInK Q (.int i) (.ref a) H := ⟨a, _, rfl, DGet.k (k := .inl i) e, q⟩
def KeysK (R : It → Hp → Prop) (x : V) (H1 : Hp) : Prop := ∃ d o, x = .ref d ∧ ((∃ kvs, H1 d = some (.frz o (.dK kvs)) ∧ R (Itk d o kvs) H1) ∨ ∃ kvs, H1 d = some (.frz o (.dT kvs)) ∧ R (Itkt d o kvs) H1)
theorem m_keys {td : TE} {σ : L2.St} {H : Hp} {R : It → Hp → Prop} (h : td σ H (KeysK R)) : iKeys td σ H R := h
theorem k_keysE {R : It → Hp → Prop} {d : Addr} {o : Obj} {kvs : List (Key × V)} {H : Hp} (e : H d = some (.frz o (.dK kvs))) (q : R (Itk d o kvs) H) : KeysK R (.ref d) H := ⟨d, o, rfl, .inl ⟨kvs, e, q⟩⟩
theorem m_lockE {t : TE} {σ : L2.St} {H : Hp} {Q : VK} {d : Addr} {kvs : List (Key × V)} (e : H d = some (.dK kvs)) (h : ∀ od, t σ (upd H d (.frz od (.dK kvs))) fun v H' => H' d = some (.frz od (.dK kvs)) ∧ Q v (upd H' d (.dK kvs))) : tLockE t σ H Q := ⟨d, _, e, trivial, h⟩

/-- too far from nought -/
def FarS (x : Int) : Prop := x ≤ -1000000000000000000000000000000000000000000000000000000000000 ∨ 1000000000000000000000000000000000000000000000000000000000000 ≤ x
theorem wb_shr (w r : Nat) : ((r : Int) / 2 ^ w) % 2 = ((wb w r : Nat) : Int) := by unfold wb; push_cast; rfl
theorem natL_shr (w b : Nat) (xs : List Nat) : (natL xs).filter (fun n => decide ((n / 2 ^ w) % 2 = (b : Int))) = natL (xs.filter fun r => decide (wb w r = b)) := by
  unfold natL
  rw [List.filter_map]
  congr 1
  refine List.filter_congr fun r _ => ?_
  show decide _ = decide _
  rw [wb_shr]
  exact decide_eq_decide.mpr (by omega)
/-- kept_signs(signs) -/
def sp_kept_signs (K : PySem.W.Frag) : Sp := fun vs H Q E => ∃ (a : Addr) (sg U : List Int), vs = [.ref a] ∧ H a = some (.lst (sg.map V.int)) ∧ sg.length ≤ 100000 ∧
  (sg.length > 4096 → E (.ref (He.ga K "TooMany")) none H) ∧
  (sg.length ≤ 4096 → (∃ x ∈ sg, FarS x) → E (.ref (He.ga K "NoSign")) none H) ∧
  (sg.length ≤ 4096 → (∀ x ∈ sg, ¬ FarS x) → U.length ≤ 4090 ∧ (∀ x ∈ sg, x ∈ U) ∧ ∀ (ks : List Int) (p t pk pa pb : Addr) (as : List Addr) H', IsK ks sg → H p = none → H pb = none → Same H H' → H' p = some (.tup [.ref t, .ref pb]) → H' t = some (.tup [.int (sg.length : Int), .ref pk, .ref pa]) → H' pk = some (.tup (ks.map V.int)) → H' pa = some (.tup (as.map V.ref)) → as.length = lvK ks → (∀ l x, as[l]? = some x → H' x = some (.tup ((aheadT (bitsK ks sg l)).map V.int))) → H' pb = some (.lst ((sgB ks sg (lvK ks)).map V.int)) → Q (.ref p) H')
theorem len_kept_signs (K : PySem.W.Frag) : ∀ vs H Q E, sp_kept_signs K vs H Q E → vs.length = 1 := by
  rintro vs H Q E ⟨x, y, _, rfl, _⟩; rfl
def t_kept_signs (K : PySem.W.Frag) (E : XK) : TS :=
  (tSeq (tIfS (tTest (tOp rGtI (tCB (rLen K) (tCons (tVar 0) tNil)) (tC (.int 4096))))
  (tRz (fun cls d _ H => E cls d H) (He.ga K "TooMany"))
  tNext)
  (tSeq (tFor (iList K (tVar 0)) (gName 1)
  (tIfS (tOr (tTest (tOp rLe (tVar 1) (tC (.int (-1000000000000000000000000000000000000000000000000000000000000))))) (tTest (tOp rGeI (tVar 1) (tC (.int 1000000000000000000000000000000000000000000000000000000000000)))))
  (tRz (fun cls d _ H => E cls d H) (He.ga K "NoSign"))
  tNext))
  (tSeq (tAsg (tSortSet K (tVar 0)) (gName 2))
  (tSeq (tAsg tDNewK (gName 3))
  (tSeq (tFor (iEnum K (tCons (tVar 2) tNil)) (gTup K 2 (gCons (gName 4) (gCons (gName 1) gNil)))
  (sDPut (tVar 3) (tVar 1) (tVar 4)))
  (tSeq (tAsg (tLc (iList K (tVar 0)) (gName 1) tYes (tDGet (tVar 3) (tVar 1)) [1]) (gName 5))
  (tSeq (tAsg (tLst tNil) (gName 6))
  (tSeq (tAsg (tLst tNil) (gName 7))
  (tSeq (tFor (iRevR (tRg1 (tCall (sp_levels_for K) [] E0 (tCons (tCB (rLen K) (tCons (tVar 2) tNil)) tNil)))) (gName 8)
  (tSeq (tAsg (tCall (sp_kept_row K) [] E (tCons (tLc (iList K (tVar 5)) (gName 4) tYes (tOp rAnd1 (tOp rShr (tVar 4) (tVar 8)) (tC (.int 1))) [4]) tNil)) (gTup K 2 (gCons (gName 9) (gCons (gName 10) gNil))))
  (tSeq (tDrop (tBM K "list" rAppend (tVar 6) (tCons (tOp (rIxT K) (tVar 9) (tC (.int 1))) tNil)))
  (tSeq (tDrop (tBM K "list" rExtend (tVar 7) (tCons (tVar 10) tNil)))
  (tSeq (tAsg (tLc (iList K (tVar 5)) (gName 4) (tTest (tOp rEq (tOp rAnd1 (tOp rShr (tVar 4) (tVar 8)) (tC (.int 1))) (tC (.int 0)))) (tVar 4) [4]) (gName 11))
  (tAsg (tOp rCat (tVar 11) (tLc (iList K (tVar 5)) (gName 4) (tTest (tOp rEq (tOp rAnd1 (tOp rShr (tVar 4) (tVar 8)) (tC (.int 1))) (tC (.int 1)))) (tVar 4) [4])) (gName 5)))))))
  (tRet (tTup (tCons (tTup (tCons (tCB (rLen K) (tCons (tVar 0) tNil)) (tCons (tCB (rTupOf K) (tCons (tVar 2) tNil)) (tCons (tCB (rTupOf K) (tCons (tVar 6) tNil)) tNil)))) (tCons (tVar 7) tNil)))))))))))))
abbrev n_kept_signs : List Str := ["signs", "sign", "kinds", "ranks", "rank", "row", "aheads", "blocks", "weight", "tables", "some", "noughts"]

theorem rd_kept_signs (K : PySem.W.Frag) (vs : List V) (H : Hp) (Q : VK) (E : XK) (h : sp_kept_signs K vs H Q E) : t_kept_signs K E { nx := fun _ H' => Q .non H', rt := Q } (start n_kept_signs vs) H := by
  obtain ⟨a, sg, U, rfl, hS, hl0, q1, q2, q3⟩ := h
  unfold t_kept_signs
  walk_at "st"
  refine k_lenL (.of hS) ?_
  walk_at "st"
  rw [List.length_map]
  walk_at "if" <;> intro c0
  · walk_at "st"
    exact q1 (by omega)
  have hl : sg.length ≤ 4096 := by omega
  walk_at "st"
  refine m_iLe (.of hS) ?_
  refine loop_ints (ns := sg) (fun i σ' H' => ∃ (v1 : Option V), H' = H ∧ i ≤ sg.length ∧ (∀ x ∈ sg.take i, ¬ FarS x) ∧ σ' = [some (.ref a), v1, none, none, none, none, none, none, none, none, none, none]) ⟨none, rfl, Nat.zero_le _, by simp, rfl⟩ (fun i σ' H' ⟨_, e, _⟩ => e ▸ .of hS) (fun i x σ' H' hx ⟨v1, eH, hi, hf, es⟩ => ?_) (fun σ' H' ⟨v1, eH, _, hf, es⟩ => ?_)
  · subst es
    subst eH
    walk_at "st"
    walk_at "if" <;> intro c1
    · walk_at "st"
      exact q2 hl ⟨x, List.mem_of_getElem? hx, .inl c1⟩
    walk_at "st"
    walk_at "if" <;> intro c2
    · walk_at "st"
      exact q2 hl ⟨x, List.mem_of_getElem? hx, .inr c2⟩
    walk_at "st"
    refine ⟨_, rfl, (List.getElem?_eq_some_iff.mp hx).1, fun y hy => ?_, rfl⟩
    rw [List.take_add_one, hx] at hy
    rcases List.mem_append.mp hy with z | z
    · exact hf y z
    · obtain rfl : y = x := by simpa using z
      exact fun z => z.elim c1 c2
  subst es
  subst eH
  rw [List.take_length] at hf
  obtain ⟨hU, hUm, q⟩ := q3 hl hf
  walk_at "st"
  refine m_sortSet ?_
  walk_at "st"
  refine ⟨a, sg, U, rfl, .of hS, hU, hUm, fun ks p1 hsrt hmem hp1 => ?_⟩
  have hK : IsK ks sg := ⟨hsrt, hmem⟩
  have hkl := nodup_len hK
  have hlv := lvK_le hK hl
  have s1 := same_new (o := .lst (ks.map V.int)) hp1
  have e1 := upd_same (H := H') (a := p1) (o := .lst (ks.map V.int))
  generalize upd H' p1 (.lst (ks.map V.int)) = H1 at s1 e1 ⊢
  walk_at "st"
  refine m_dnew fun pd hpd => ?_
  have s2 := s1.trans (same_new (o := .dK []) hpd)
  have ed := upd_same (H := H1) (a := pd) (o := .dK [])
  have n1d : p1 ≠ pd := ne_of_none e1 hpd
  have hpd0 := s1.gone _ hpd
  replace e1 := (same_new (o := .dK []) hpd).get e1
  generalize upd H1 pd (.dK []) = H2 at s2 e1 ed ⊢
  walk_at "st"
  refine m_enumE (.of e1) ?_
  refine loop_walk walk_enum (fun i σ H2 => ∃ (v1 v4 : Option V) (kvs : List (Key × V)), σ = [some (.ref a), v1, some (.ref p1), some (.ref pd), v4, none, none, none, none, none, none, none] ∧ i ≤ ks.length ∧ Same H' H2 ∧ H2 p1 = some (.lst (ks.map V.int)) ∧ H2 pd = some (.dK kvs) ∧ kvs.length ≤ i ∧ ∀ j x, j < i → ks[j]? = some x → valV kvs (.inl x) = some (.int (j : Int))) ⟨v1, none, [], rfl, Nat.zero_le _, s2, e1, ed, Nat.le_refl _, fun j x hj => by omega⟩ (fun i σ H2 ⟨_, _, _, _, _, _, e, _⟩ => .of e) ?_ ?_
  · rintro i v σ H3 H4 hi ⟨v1, v4, kvs, rfl, _, s, e1, ed, hkv, hv⟩ ⟨T, x, w, rfl, hT, rfl, ex, ew⟩
    rw [List.length_map] at hi
    obtain ⟨b, hbi, rfl⟩ := of_mapint ew
    obtain rfl : x = .int (i : Nat) := (Option.some.inj ex).symm
    have sT := same_new (o := .tup [.int (i : Nat), .int b]) hT
    have eT := upd_same (H := H3) (a := T) (o := .tup [.int (i : Nat), .int b])
    generalize upd H3 T (.tup [.int (i : Nat), .int b]) = H5 at sT eT ⊢
    refine m_gTup (.of eT) rfl ?_
    walk_at "st"
    refine m_dput ?_
    walk_at "st"
    refine k_dputE (sT.get ed) (by omega) ?_
    have hp1 := length_putK kvs (.inl b : Key) (V.int (i : Int))
    refine ⟨_, _, _, rfl, by omega, (s.trans sT).mutD hpd0 (sT.get ed), by rw [upd_ne n1d]; exact sT.get e1, upd_same, by omega, fun j y hj hy => ?_⟩
    rw [valV_put]
    by_cases c : y = b
    · subst c
      have h1 := rk_get hsrt hy
      have h2 := rk_get hsrt hbi
      rw [if_pos rfl, show j = i by omega]
    · rw [if_neg (by intro z; exact c (Sum.inl.inj z))]
      rcases Nat.lt_or_ge j i with z | z
      · exact hv j y z hy
      · obtain rfl : j = i := by omega
        rw [hbi] at hy
        exact absurd (Option.some.inj hy).symm c
  rintro σ H3 ⟨v1, v4, kvs, rfl, _, s3, e1, ed, _, hv⟩
  rw [List.length_map] at hv
  walk_at "st"
  refine m_iLe (.of (s3.get hS)) ?_
  refine comp_listV (xs := sg.map V.int) (ys := (natL (ranks ks sg)).map V.int) (.of (s3.get hS)) (by rw [List.length_map]; omega) (by rw [List.length_map, List.length_map, natL_len, ranks_len]) (fun k x y Ha Q2 hx hy sk q2 => ?_) fun p2 H4 hp2 s4 er => ?_
  · obtain ⟨n, en, rfl⟩ := of_mapint hx
    have ey : y = .int (rk ks n : Nat) := by
      have : ((natL (ranks ks sg)).map V.int)[k]? = some (.int (rk ks n : Nat)) := by
        unfold natL ranks
        rw [List.getElem?_map, List.getElem?_map, List.getElem?_map, en]; rfl
      rw [this] at hy
      exact (Option.some.inj hy).symm
    subst ey
    have hmn := (hmem n).mpr (List.mem_of_getElem? en)
    refine m_dget ?_
    walk_at "st"
    refine k_dgetE (sk.get ed) (hv _ n (rk_lt hsrt hmn) (get_rk hsrt hmn)) ?_
    exact q2 _ (Same.refl _)
  have t4 := s3.trans s4
  replace e1 := s4.get e1
  walk_at "st"
  intro p6 hp6
  have hp6B := t4.gone _ hp6
  have s6 := t4.trans (same_new (o := .lst []) hp6)
  have e6 := upd_same (H := H4) (a := p6) (o := .lst [])
  have nr6 : p2 ≠ p6 := ne_of_none er hp6
  have n16 : p1 ≠ p6 := ne_of_none e1 hp6
  replace er := (same_new (o := .lst []) hp6).get er
  replace e1 := (same_new (o := .lst []) hp6).get e1
  generalize upd H4 p6 (.lst []) = H6 at s6 e6 er e1 ⊢
  walk_at "st"
  intro p7 hp7
  have hp7B := s6.gone _ hp7
  have s7 := s6.trans (same_new (o := .lst []) hp7)
  have e7 := upd_same (H := H6) (a := p7) (o := .lst [])
  have n67 : p6 ≠ p7 := ne_of_none e6 hp7
  have nr7 : p2 ≠ p7 := ne_of_none er hp7
  have n17 : p1 ≠ p7 := ne_of_none e1 hp7
  replace er := (same_new (o := .lst []) hp7).get er
  replace e1 := (same_new (o := .lst []) hp7).get e1
  replace e6 := (same_new (o := .lst []) hp7).get e6
  generalize upd H6 p7 (.lst []) = H7 at s7 e7 er e1 e6 ⊢
  walk_at "st"
  refine m_revR1 ?_
  walk_at "st"
  refine k_lenL (.of e1) ?_
  walk_at "st"
  rw [List.length_map]
  refine ⟨ks.length, rfl, by omega, ?_⟩
  refine m_revRe (by have : hOf ks.length = lvK ks := rfl; omega) ?_
  refine loop_revR (fun i σ' H2 => ∃ (pr : Addr) (as : List Addr) (v1 v4 v8 v9 v10 v11 : Option V), i ≤ lvK ks ∧ Same H' H2 ∧ H2 p1 = some (.lst (ks.map V.int)) ∧ H2 pr = some (.lst ((natL (rowsW (lvK ks) (ranks ks sg) i)).map V.int)) ∧ pr ≠ p6 ∧ pr ≠ p7 ∧ H2 p6 = some (.lst (as.map V.ref)) ∧ as.length = i ∧ (∀ l x, as[l]? = some x → H2 x = some (.tup ((aheadT (bitsK ks sg l)).map V.int))) ∧ H2 p7 = some (.lst ((sgB ks sg i).map V.int)) ∧ σ' = [some (.ref a), v1, some (.ref p1), some (.ref pd), v4, some (.ref pr), some (.ref p6), some (.ref p7), v8, v9, v10, v11]) ⟨p2, [], v1, v4, none, none, none, none, Nat.zero_le _, s7, e1, er, nr6, nr7, e6, rfl, fun l x e => by simp at e, e7, rfl⟩ (fun l σ' H2 hlt ⟨pr, as, v1, v4, v8, v9, v10, v11, _, s, e1, er, nr6, nr7, e6, hal, has, e7, es⟩ => ?_) (fun σ' H2 ⟨pr, as, v1, v4, v8, v9, v10, v11, _, s, e1, er, nr6, nr7, e6, hal, has, e7, es⟩ => ?_)
  · subst es
    obtain ⟨w, hw⟩ : ∃ w, w = lvK ks - 1 - l := ⟨_, rfl⟩
    have hw' : hOf ks.length - 1 - l = w := by have : hOf ks.length = lvK ks := rfl; omega
    rw [hw']
    have hl2 : l < lvK ks := hlt
    have hrl : (rowsW (lvK ks) (ranks ks sg) l).length = sg.length := by rw [rowsW_len, ranks_len]
    walk_at "st"
    refine m_iLe (.of er) ?_
    refine comp_listV (xs := (natL (rowsW (lvK ks) (ranks ks sg) l)).map V.int) (ys := (bitsK ks sg l).map V.int) (.of er) (by rw [List.length_map, natL_len]; omega) (by rw [List.length_map, List.length_map, natL_len, bitsK_len, hrl]) (fun k x y Ha Q2 hx hy sk q2 => ?_) fun p8 H8 hp8 s8 e8 => ?_
    · obtain ⟨n, en, rfl⟩ := of_mapint hx
      obtain ⟨r, erk, rfl⟩ : ∃ r : Nat, (rowsW (lvK ks) (ranks ks sg) l)[k]? = some r ∧ (r : Int) = n := by
        unfold natL at en
        rw [List.getElem?_map] at en
        exact Option.map_eq_some_iff.mp en
      have ey : y = .int ((wb w r : Nat) : Int) := by
        have : ((bitsK ks sg l).map V.int)[k]? = some (.int ((wb w r : Nat) : Int)) := by
          unfold bitsK bitsW
          rw [List.getElem?_map, List.getElem?_map, erk, hw]; rfl
        rw [this] at hy
        exact (Option.some.inj hy).symm
      subst ey
      walk_at "st"
      rw [Int.toNat_natCast, wb_shr]
      exact q2 _ (Same.refl _)
    have hBl : (bitsK ks sg l).length = sg.length := bitsK_len _ _ _
    walk_at "st"
    refine ⟨p8, bitsK ks sg l, rfl, .of e8, by omega, fun z => by omega, fun _ nb => absurd (bitsK_bits ks sg l) nb, fun _ _ p9 t9 pa9 pb9 H9 hp9 ht9 hpa9 hpb9 s9 f1 f2 f3 f4 => ?_⟩
    have s89 := s8.trans s9
    walk_at "st"
    refine m_gTup (.of f1) rfl ?_
    walk_at "st"
    refine k_tyL (.of (s89.get e6)) ?_
    walk_at "st"
    refine k_ixT (.of f2) (x := .ref pa9) rfl ?_
    walk_at "st"
    refine k_app (s89.get e6) (by rw [List.length_map]; omega) ?_
    have npb : pb9 ≠ p6 := fun z => by rw [z, s8.get e6] at hpb9; cases hpb9
    have npa : pa9 ≠ p6 := fun z => by rw [z, s8.get e6] at hpa9; cases hpa9
    have npb7 : pb9 ≠ p7 := fun z => by rw [z, s8.get e7] at hpb9; cases hpb9
    have t9' : Same H' (upd H9 p6 (.lst (as.map V.ref ++ [.ref pa9]))) := (s.trans s89).mut hp6B ⟨_, s89.get e6⟩
    have er9 : (upd H9 p6 (.lst (as.map V.ref ++ [.ref pa9]))) pr = some (.lst ((natL (rowsW (lvK ks) (ranks ks sg) l)).map V.int)) := (upd_ne nr6).trans (s89.get er)
    have e19 : (upd H9 p6 (.lst (as.map V.ref ++ [.ref pa9]))) p1 = some (.lst (ks.map V.int)) := (upd_ne n16).trans (s89.get e1)
    have e79 : (upd H9 p6 (.lst (as.map V.ref ++ [.ref pa9]))) p7 = some (.lst ((sgB ks sg l).map V.int)) := (upd_ne n67.symm).trans (s89.get e7)
    have f49 : (upd H9 p6 (.lst (as.map V.ref ++ [.ref pa9]))) pb9 = some (.lst ((blks (bitsK ks sg l)).map V.int)) := (upd_ne npb).trans f4
    have e69 : (upd H9 p6 (.lst (as.map V.ref ++ [.ref pa9]))) p6 = some (.lst ((as ++ [pa9]).map V.ref)) := by rw [upd_same, List.map_append]; rfl
    have has9 : ∀ j x, (as ++ [pa9])[j]? = some x → (upd H9 p6 (.lst (as.map V.ref ++ [.ref pa9]))) x = some (.tup ((aheadT (bitsK ks sg j)).map V.int)) := fun j x e => by
      rcases Nat.lt_or_ge j as.length with z | z
      · rw [List.getElem?_append_left z] at e
        have := s89.get (has j x e)
        exact (upd_ne fun y => by rw [y, s89.get e6] at this; cases this).trans this
      · rw [List.getElem?_append_right z] at e
        have h1 := (List.getElem?_eq_some_iff.mp e).1
        rw [List.length_singleton] at h1
        obtain rfl : j = l := by omega
        rw [show j - as.length = 0 by omega] at e
        obtain rfl := Option.some.inj e
        exact (upd_ne npa).trans f3
    generalize upd H9 p6 (.lst (as.map V.ref ++ [.ref pa9])) = H10 at t9' er9 e19 e79 f49 e69 has9 ⊢
    walk_at "st"
    refine k_tyL (.of e79) ?_
    walk_at "st"
    have hbl := blks_len (bitsK ks sg l)
    have hsb := sgB_len ks sg l
    have heb : eachB sg ≤ 129 := by unfold eachB; omega
    have hmul : l * eachB sg ≤ 12 * 129 := Nat.mul_le_mul (by omega) heb
    refine k_extend e79 f49 (by rw [List.length_map, List.length_map]; omega) ?_
    have t10 : Same H' (upd H10 p7 (.lst ((sgB ks sg l).map V.int ++ (blks (bitsK ks sg l)).map V.int))) := t9'.mut hp7B ⟨_, e79⟩
    have er10 : (upd H10 p7 (.lst ((sgB ks sg l).map V.int ++ (blks (bitsK ks sg l)).map V.int))) pr = some (.lst ((natL (rowsW (lvK ks) (ranks ks sg) l)).map V.int)) := (upd_ne nr7).trans er9
    have e110 : (upd H10 p7 (.lst ((sgB ks sg l).map V.int ++ (blks (bitsK ks sg l)).map V.int))) p1 = some (.lst (ks.map V.int)) := (upd_ne n17).trans e19
    have e610 : (upd H10 p7 (.lst ((sgB ks sg l).map V.int ++ (blks (bitsK ks sg l)).map V.int))) p6 = some (.lst ((as ++ [pa9]).map V.ref)) := (upd_ne n67).trans e69
    have e710 : (upd H10 p7 (.lst ((sgB ks sg l).map V.int ++ (blks (bitsK ks sg l)).map V.int))) p7 = some (.lst ((sgB ks sg (l + 1)).map V.int)) := by rw [upd_same, ← List.map_append]; rfl
    have has10 : ∀ j x, (as ++ [pa9])[j]? = some x → (upd H10 p7 (.lst ((sgB ks sg l).map V.int ++ (blks (bitsK ks sg l)).map V.int))) x = some (.tup ((aheadT (bitsK ks sg j)).map V.int)) := fun j x e => by
      have := has9 j x e
      exact (upd_ne fun y => by rw [y, e79] at this; cases this).trans this
    generalize upd H10 p7 (.lst ((sgB ks sg l).map V.int ++ (blks (bitsK ks sg l)).map V.int)) = H11 at t10 er10 e110 e610 e710 has10 ⊢
    walk_at "st"
    refine m_iLe (.of er10) ?_
    refine comp_filterI (fun n => decide ((n / 2 ^ w) % 2 = ((0 : Nat) : Int))) (.of er10) (by rw [natL_len]; omega) (fun k n H1 Qb hk sk qb => ?_) (fun n H1 Q2 q2 => ?_) fun p13 H13 hp13 s13 e13 => ?_
    · walk_at "st"
      rw [Int.toNat_natCast]
      exact qb _ (Same.refl _)
    · walk_at "st"
      exact q2
    rw [natL_shr] at e13
    walk_at "st"
    refine m_iLe (.of (s13.get er10)) ?_
    refine comp_filterI (fun n => decide ((n / 2 ^ w) % 2 = ((1 : Nat) : Int))) (.of (s13.get er10)) (by rw [natL_len]; omega) (fun k n H1 Qb hk sk qb => ?_) (fun n H1 Q2 q2 => ?_) fun p14 H14 hp14 s14 e14 => ?_
    · walk_at "st"
      rw [Int.toNat_natCast]
      exact qb _ (Same.refl _)
    · walk_at "st"
      exact q2
    rw [natL_shr] at e14
    have hfl : ∀ b, ((rowsW (lvK ks) (ranks ks sg) l).filter fun r => decide (wb w r = b)).length ≤ 4096 := fun b => by have := List.length_filter_le (fun r => decide (wb w r = b)) (rowsW (lvK ks) (ranks ks sg) l); omega
    refine k_catI (s14.get e13) e14 (by rw [natL_len, natL_len]; have := hfl 0; have := hfl 1; omega) fun p15 H15 hp15 s15 e15 => ?_
    have s515 := s13.trans (s14.trans s15)
    refine ⟨p15, as ++ [pa9], _, _, _, _, _, _, hl2, t10.trans s515, s515.get e110, ?_, ?_, ?_, s515.get e610, by rw [List.length_append, hal]; rfl, fun i x e => s515.get (has10 i x e), s515.get e710, rfl⟩
    · rw [e15]
      have : natL ((rowsW (lvK ks) (ranks ks sg) l).filter fun r => decide (wb w r = 0)) ++ natL ((rowsW (lvK ks) (ranks ks sg) l).filter fun r => decide (wb w r = 1)) = natL (rowsW (lvK ks) (ranks ks sg) (l + 1)) := by
        unfold natL
        rw [← List.map_append, hw]; rfl
      rw [this]
    · exact (ne_of_none ((s13.trans s14).get e610) hp15).symm
    · exact (ne_of_none ((s13.trans s14).get e710) hp15).symm
  · subst es
    change as.length = lvK ks at hal
    change H2 p7 = some (.lst ((sgB ks sg (lvK ks)).map V.int)) at e7
    walk_at "st"
    refine k_lenL (.of (s.get hS)) ?_
    walk_at "st"
    rw [List.length_map]
    refine k_tupL (.of e1) fun pk hpk => ?_
    have s4 := same_new (o := .tup (ks.map V.int)) hpk
    have e4 := upd_same (H := H2) (a := pk) (o := .tup (ks.map V.int))
    replace e6 := s4.get e6
    replace e7 := s4.get e7
    replace has : ∀ i x, as[i]? = some x → (upd H2 pk (.tup (ks.map V.int))) x = some (.tup ((aheadT (bitsK ks sg i)).map V.int)) := fun i x e => s4.get (has i x e)
    generalize upd H2 pk (.tup (ks.map V.int)) = H4 at s4 e4 e6 e7 has ⊢
    walk_at "st"
    refine k_tupL (.of e6) fun pa hpa => ?_
    have s5 := s4.trans (same_new (o := .tup (as.map V.ref)) hpa)
    have f5 := upd_same (H := H4) (a := pa) (o := .tup (as.map V.ref))
    replace e4 := (same_new (o := .tup (as.map V.ref)) hpa).get e4
    replace e7 := (same_new (o := .tup (as.map V.ref)) hpa).get e7
    replace has : ∀ i x, as[i]? = some x → (upd H4 pa (.tup (as.map V.ref))) x = some (.tup ((aheadT (bitsK ks sg i)).map V.int)) := fun i x e => (same_new (o := .tup (as.map V.ref)) hpa).get (has i x e)
    generalize upd H4 pa (.tup (as.map V.ref)) = H5 at s5 f5 e4 e7 has ⊢
    walk_at "st"
    intro t ht
    have s6 := s5.trans (same_new (o := .tup [.int (sg.length : Int), .ref pk, .ref pa]) ht)
    have f6 := upd_same (H := H5) (a := t) (o := .tup [.int (sg.length : Int), .ref pk, .ref pa])
    replace e4 := (same_new (o := .tup [.int (sg.length : Int), .ref pk, .ref pa]) ht).get e4
    replace e7 := (same_new (o := .tup [.int (sg.length : Int), .ref pk, .ref pa]) ht).get e7
    replace f5 := (same_new (o := .tup [.int (sg.length : Int), .ref pk, .ref pa]) ht).get f5
    replace has : ∀ i x, as[i]? = some x → (upd H5 t (.tup [.int (sg.length : Int), .ref pk, .ref pa])) x = some (.tup ((aheadT (bitsK ks sg i)).map V.int)) := fun i x e => (same_new (o := .tup [.int (sg.length : Int), .ref pk, .ref pa]) ht).get (has i x e)
    generalize upd H5 t (.tup [.int (sg.length : Int), .ref pk, .ref pa]) = H6 at s6 f6 f5 e4 e7 has ⊢
    walk_at "st"
    intro p hp
    have s7 := same_new (o := .tup [.ref t, .ref p7]) hp
    have tt := s.trans (s6.trans s7)
    exact q ks p t pk pa p7 as _ hK ((s.trans s6).gone _ hp) hp7B tt upd_same (s7.get f6) (s7.get e4) (s7.get f5) hal (fun i x e => s7.get (has i x e)) (s7.get e7)

--#base
/-! lists of numbers and truths -/
def sV : Int ⊕ Bool → V
  | .inl i => .int i
  | .inr b => .bl b
def sD : Int ⊕ Bool → PyData
  | .inl i => .int i
  | .inr b => .bool b
theorem dp_mixA {K : PySem.W.Frag} {H : Hp} : ∀ cs : List (Int ⊕ Bool), DpAll K H (cs.map sV) (cs.map sD)
  | [] => .nil
  | .inl i :: cs => .cons (.int i) (dp_mixA cs)
  | .inr b :: cs => .cons (.bl b) (dp_mixA cs)
theorem dp_mix {K : PySem.W.Frag} {H : Hp} {a : Addr} {cs : List (Int ⊕ Bool)} (h : SqL K H a (cs.map sV)) : Dp K H (.ref a) (.list (cs.map sD)) := .lst h (dp_mixA cs)
theorem laid_mix (cs : List (Int ⊕ Bool)) : laid 64 (.list (cs.map sD)) := laid_list (n := 63) fun d hd => by
  obtain ⟨c, _, rfl⟩ := List.mem_map.mp hd
  cases c with
  | inl i => exact laid_int _
  | inr b => exact laid_bool _
theorem k_eqMix {K : PySem.W.Frag} {H : Hp} {Q : VK} {a b : Addr} (cs ds : List (Int ⊕ Bool)) {r : Bool} (h1 : SqL K H a (cs.map sV)) (h2 : SqL K H b (ds.map sV)) (e : PyData.eqv (.list (cs.map sD)) (.list (ds.map sD)) = r) (q : Q (.bl r) H) : rEqD K (.ref a) (.ref b) H Q :=
  k_eqD (dp_mix h1) (dp_mix h2) (laid_mix cs) (laid_mix ds) (by rw [e]; exact q)
theorem k_neMix {K : PySem.W.Frag} {H : Hp} {Q : VK} {a b : Addr} (cs ds : List (Int ⊕ Bool)) {r : Bool} (h1 : SqL K H a (cs.map sV)) (h2 : SqL K H b (ds.map sV)) (e : PyData.eqv (.list (cs.map sD)) (.list (ds.map sD)) = r) (q : Q (.bl (!r)) H) : rNeD K (.ref a) (.ref b) H Q :=
  k_neD (dp_mix h1) (dp_mix h2) (laid_mix cs) (laid_mix ds) (by rw [e]; exact q)
theorem eqv_same : ∀ cs : List (Int ⊕ Bool), PyData.eqvAll (cs.map sD) (cs.map sD) = true
  | [] => by simp [PyData.eqvAll]
  | .inl i :: cs => by simp [PyData.eqvAll, sD, PyData.eqv, eqv_same cs]
  | .inr b :: cs => by simp [PyData.eqvAll, sD, PyData.eqv, eqv_same cs]

/-- law(script) -/
def sp_law (K : PySem.W.Frag) : Sp := fun vs H Q _ => ∃ (a : Addr) (ns : List Int), vs = [.ref a] ∧ SqL K H a (ns.map V.int) ∧ ns.length ≤ 63 ∧ ∀ H', Q (.bl true) H'
theorem len_law (K : PySem.W.Frag) : ∀ vs H Q E, sp_law K vs H Q E → vs.length = 1 := by
  rintro vs H Q E ⟨x, y, rfl, _⟩; rfl

/-- no class of those that are not asked for -/
structure Oth (K : PySem.W.Frag) (D : Addr) : Prop where
  a : PySem.W.kitAny K (.ref D) ([He.ga K "NoBit", He.ga K "NoNode", He.ga K "NoOctets", He.ga K "NoPlace"].map Value.ref) = some false
  b : PySem.W.kitAny K (.ref D) ([He.ga K "NoTree", He.ga K "NoWord", He.ga K "Twice"].map Value.ref) = some false
theorem oth_many {K : PySem.W.Frag} (F : KFx K) : Oth K (He.ga K "TooMany") := by
  refine ⟨kitAny_no _ fun u hu => ?_, kitAny_no _ fun u hu => ?_⟩ <;> simp only [List.map_cons, List.map_nil, List.mem_cons, List.not_mem_nil, or_false] at hu
  · rcases hu with rfl | rfl | rfl | rfl
    · exact F.k_TooMany_NoBit
    · exact F.k_TooMany_NoNode
    · exact F.k_TooMany_NoOctets
    · exact F.k_TooMany_NoPlace
  · rcases hu with rfl | rfl | rfl
    · exact F.k_TooMany_NoTree
    · exact F.k_TooMany_NoWord
    · exact F.k_TooMany_Twice
theorem oth_sign {K : PySem.W.Frag} (F : KFx K) : Oth K (He.ga K "NoSign") := by
  refine ⟨kitAny_no _ fun u hu => ?_, kitAny_no _ fun u hu => ?_⟩ <;> simp only [List.map_cons, List.map_nil, List.mem_cons, List.not_mem_nil, or_false] at hu
  · rcases hu with rfl | rfl | rfl | rfl
    · exact F.k_NoSign_NoBit
    · exact F.k_NoSign_NoNode
    · exact F.k_NoSign_NoOctets
    · exact F.k_NoSign_NoPlace
  · rcases hu with rfl | rfl | rfl
    · exact F.k_NoSign_NoTree
    · exact F.k_NoSign_NoWord
    · exact F.k_NoSign_Twice
/-- _law_others(e) -/
def sp_law_others (K : PySem.W.Frag) : Sp := fun vs H Q _ => ∃ (a D : Addr), vs = [.ref a] ∧ ExcAt K H a D ∧ Oth K D ∧ ∀ H', L2.Same H H' → Q (.bl false) H'
theorem len_law_others (K : PySem.W.Frag) : ∀ vs H Q E, sp_law_others K vs H Q E → vs.length = 1 := by
  rintro vs H Q E ⟨a, D, rfl, _⟩; rfl
def t_law_others (K : PySem.W.Frag) : TS :=
  (tSeq (tIfS (tB (tCB (rIsH K) (tCons (tVar 0) (tCons (tTup (tCons (tC (.ref (He.ga K "NoBit"))) (tCons (tC (.ref (He.ga K "NoNode"))) (tCons (tC (.ref (He.ga K "NoOctets"))) (tCons (tC (.ref (He.ga K "NoPlace"))) tNil))))) tNil))))
  (tRet (tC (.bl true)))
  tNext)
  (tRet (tCB (rIsH K) (tCons (tVar 0) (tCons (tTup (tCons (tC (.ref (He.ga K "NoTree"))) (tCons (tC (.ref (He.ga K "NoWord"))) (tCons (tC (.ref (He.ga K "Twice"))) tNil)))) tNil)))))
abbrev n_law_others : List Str := ["_law_e"]

theorem rd_law_others (K : PySem.W.Frag) (F : KFx K) (vs : List V) (H : Hp) (Q : VK) (E : XK) (h : sp_law_others K vs H Q E) : t_law_others K { nx := fun _ H' => Q .non H', rt := Q } (start n_law_others vs) H := by
  obtain ⟨a, D, rfl, hA, hO, q⟩ := h
  unfold t_law_others
  walk_at "st"
  intro p1 hp1
  have s1 := all_new (o := .tup ([He.ga K "NoBit", He.ga K "NoNode", He.ga K "NoOctets", He.ga K "NoPlace"].map V.ref)) hp1
  refine k_isHT _ (H := upd H p1 (.tup ([He.ga K "NoBit", He.ga K "NoNode", He.ga K "NoOctets", He.ga K "NoPlace"].map V.ref))) upd_same (hA.same (.of s1)) hO.a ?_
  generalize upd H p1 (.tup ([He.ga K "NoBit", He.ga K "NoNode", He.ga K "NoOctets", He.ga K "NoPlace"].map V.ref)) = H1 at s1 ⊢
  walk_at "st"
  intro p2 hp2
  have s2 := all_new (o := .tup ([He.ga K "NoTree", He.ga K "NoWord", He.ga K "Twice"].map V.ref)) hp2
  refine k_isHT _ (H := upd H1 p2 (.tup ([He.ga K "NoTree", He.ga K "NoWord", He.ga K "Twice"].map V.ref))) upd_same (hA.same (.of (all_trans s1 s2))) hO.b ?_
  exact q _ (all_trans s1 s2)
/-- what is told of a row -/
def WayS (sg : List Int) (w : Nat) : Prop := (4096 < sg.length ∧ w = 1) ∨ (sg.length ≤ 4096 ∧ (∃ x ∈ sg, FarS x) ∧ w = 2) ∨ (sg.length ≤ 4096 ∧ (∀ x ∈ sg, ¬ FarS x) ∧ w = 0)
theorem WayS.u {sg : List Int} {w v : Nat} (a : WayS sg w) (b : WayS sg v) : w = v := by
  rcases a with ⟨a1, a2⟩ | ⟨a1, ⟨x, hx, hf⟩, a2⟩ | ⟨a1, hf, a2⟩ <;> rcases b with ⟨b1, b2⟩ | ⟨b1, ⟨y, hy, hg⟩, b2⟩ | ⟨b1, hg, b2⟩ <;> first | omega | exact absurd hf (hg x hx) | exact absurd hg (hf y hy)
def tR (w : Nat) : List (Int ⊕ Bool) := if w = 0 then [.inl 0] else [.inl (w : Int), .inr true, .inr true, .inr false, .inr false]
/-- _law_told(row) -/
def sp_law_told (K : PySem.W.Frag) : Sp := fun vs H Q _ => ∃ (a : Addr) (sg U : List Int), vs = [.ref a] ∧ H a = some (.lst (sg.map V.int)) ∧ sg.length ≤ 5000 ∧ U.length ≤ 4090 ∧ (∀ x ∈ sg, x ∈ U) ∧ ∀ w p H', WayS sg w → H p = none → Same H H' → H' p = some (.lst ((tR w).map sV)) → Q (.ref p) H'
theorem len_law_told (K : PySem.W.Frag) : ∀ vs H Q E, sp_law_told K vs H Q E → vs.length = 1 := by
  rintro vs H Q E ⟨a, bs, _, rfl, _⟩; rfl
def t_law_told (K : PySem.W.Frag) : TS :=
  (tSeq (tAsg (tC .non) (gName 1))
  (tSeq (tAsg (tLst (tCons (tC (.int 0)) tNil)) (gName 2))
  (tSeq (tTryM K (fun W => (tAsg (tCallS (sp_kept_signs K) (WE W) (tCons (tVar 0) tNil)) (gName 1))) [(.ref (He.ga K "TooMany"), 3, fun a cls d => (tAsg (tLst (tCons (tC (.int 1)) (tCons (tCB (rIsX K cls d a) (tCons (tVar 3) (tCons (tC (.ref (He.ga K "WoodError"))) tNil))) (tCons (tCB (rIsX K cls d a) (tCons (tVar 3) (tCons (tC (.ty "ValueError")) tNil))) (tCons (tCB (rIsX K cls d a) (tCons (tVar 3) (tCons (tC (.ref (He.ga K "NoSign"))) tNil))) (tCons (tCallH (sp_law_others K) a cls d (tCons (tVar 3) tNil)) tNil)))))) (gName 2))), (.ref (He.ga K "NoSign"), 3, fun a cls d => (tAsg (tLst (tCons (tC (.int 2)) (tCons (tCB (rIsX K cls d a) (tCons (tVar 3) (tCons (tC (.ref (He.ga K "WoodError"))) tNil))) (tCons (tCB (rIsX K cls d a) (tCons (tVar 3) (tCons (tC (.ty "ValueError")) tNil))) (tCons (tCB (rIsX K cls d a) (tCons (tVar 3) (tCons (tC (.ref (He.ga K "TooMany"))) tNil))) (tCons (tCallH (sp_law_others K) a cls d (tCons (tVar 3) tNil)) tNil)))))) (gName 2)))] (fun _ _ _ _ => False))
  (tSeq (tIfS (tAnd (tTest (tOp (rEqD K) (tVar 2) (tLst (tCons (tC (.int 0)) tNil)))) (tOr (tNot (tB (tCall (sp_law_whole K) [] E0 (tCons (tOp (rIxT K) (tOp (rIxT K) (tVar 1) (tC (.int 0))) (tC (.int 0))) tNil)))) (tTest (tOp rNe (tOp (rIxT K) (tOp (rIxT K) (tVar 1) (tC (.int 0))) (tC (.int 0))) (tCB (rLen K) (tCons (tVar 0) tNil))))))
  (tRet (tLst (tCons (tC (.int 3)) tNil)))
  tNext)
  (tRet (tVar 2))))))
abbrev n_law_told : List Str := ["_law_row", "_law_found", "_law_told_here", "_law_e"]

theorem rd_law_told (K : PySem.W.Frag) (F : KFx K) (vs : List V) (H : Hp) (Q : VK) (E : XK) (h : sp_law_told K vs H Q E) : t_law_told K { nx := fun _ H' => Q .non H', rt := Q } (start n_law_told vs) H := by
  obtain ⟨a, sg, U, rfl, hS, hl, hU, hUm, q⟩ := h
  unfold t_law_told
  walk_at "st"
  intro p1 hp1
  have s1 := same_new (o := .lst [.int 0]) hp1
  have e1 := upd_same (H := H) (a := p1) (o := .lst [.int 0])
  generalize upd H p1 (.lst [.int 0]) = H1 at s1 e1 ⊢
  walk_at "st"
  refine ⟨a, sg, U, rfl, s1.get hS, by omega, fun hm => ?_, fun hm hF => ?_, fun hm hf => ⟨hU, hUm, fun ks p t pk pa pb as H2 hK hp hpb s2 ep et ek ea hal has eb => ?_⟩⟩
  · refine m_caughtM F.e_TooMany_TooMany fun x hx => ?_
    walk_at "st"
    refine k_isX F.ec_TooMany F.k_TooMany_WoodError ?_
    walk_at "st"
    refine k_isXty F.ec_TooMany F.kt_TooMany ?_
    walk_at "st"
    refine k_isX F.ec_TooMany F.k_TooMany_NoSign ?_
    walk_at "st"
    refine m_callH ?_
    walk_at "st"
    intro oe hz hf hn
    refine ⟨x, _, rfl, ⟨F.ec_TooMany, oe, upd_same, hz, hf⟩, oth_many F, fun H3 a3 => ⟨a3 _ _ upd_same, ?_⟩⟩
    have s3 := s1.trans (same_del a3 hn)
    generalize delH H3 x = H4 at s3 ⊢
    walk_at "st"
    intro p4 hp4
    walk_at "st"
    intro p5 hp5
    refine k_eqMix (tR 1) [.inl 0] (r := false) (.of ((same_new hp5).get upd_same)) (.of upd_same) (by simp [tR, sD, PyData.eqv, PyData.eqvAll]) ?_
    walk_at "st"
    exact q 1 p4 _ (.inl ⟨hm, rfl⟩) (s3.gone _ hp4) ((s3.trans (same_new hp4)).trans (same_new hp5)) ((same_new hp5).get upd_same)
  · refine m_nextM F.e_NoSign_TooMany ?_
    refine m_caughtM F.e_NoSign_NoSign fun x hx => ?_
    walk_at "st"
    refine k_isX F.ec_NoSign F.k_NoSign_WoodError ?_
    walk_at "st"
    refine k_isXty F.ec_NoSign F.kt_NoSign ?_
    walk_at "st"
    refine k_isX F.ec_NoSign F.k_NoSign_TooMany ?_
    walk_at "st"
    refine m_callH ?_
    walk_at "st"
    intro oe hz hf hn
    refine ⟨x, _, rfl, ⟨F.ec_NoSign, oe, upd_same, hz, hf⟩, oth_sign F, fun H3 a3 => ⟨a3 _ _ upd_same, ?_⟩⟩
    have s3 := s1.trans (same_del a3 hn)
    generalize delH H3 x = H4 at s3 ⊢
    walk_at "st"
    intro p4 hp4
    walk_at "st"
    intro p5 hp5
    refine k_eqMix (tR 2) [.inl 0] (r := false) (.of ((same_new hp5).get upd_same)) (.of upd_same) (by simp [tR, sD, PyData.eqv, PyData.eqvAll]) ?_
    walk_at "st"
    exact q 2 p4 _ (.inr (.inl ⟨hm, hF, rfl⟩)) (s3.gone _ hp4) ((s3.trans (same_new hp4)).trans (same_new hp5)) ((same_new hp5).get upd_same)
  · walk_at "st"
    intro p5 hp5
    have s5 := s2.trans (same_new (o := .lst [.int 0]) hp5)
    refine k_eqMix (tR 0) [.inl 0] (r := true) (.of (s5.get e1)) (.of upd_same) (by simp [tR, sD, PyData.eqv, PyData.eqvAll]) ?_
    walk_at "st"
    have sn := same_new (o := .lst [.int 0]) hp5
    replace ep := sn.get ep
    replace et := sn.get et
    have hS5 := (s1.trans s5).get hS
    have e15 := s5.get e1
    generalize upd H2 p5 (.lst [.int 0]) = H5 at s5 ep et hS5 e15 ⊢
    refine k_ixT (.of ep) (x := .ref t) rfl ?_
    walk_at "st"
    refine k_ixT (.of et) (x := .int (sg.length : Int)) rfl ?_
    walk_at "st"
    refine whole_int ?_
    walk_at "st"
    refine k_ixT (.of ep) (x := .ref t) rfl ?_
    walk_at "st"
    refine k_ixT (.of et) (x := .int (sg.length : Int)) rfl ?_
    walk_at "st"
    refine k_lenL (.of hS5) ?_
    walk_at "st"
    rw [List.length_map]
    refine k_ndecT rfl ?_
    walk_at "st"
    exact q 0 p1 _ (.inr (.inr ⟨by omega, hf, rfl⟩)) hp1 (s1.trans s5) e15
/-- _law_due(row, bad) -/
def sp_law_due (K : PySem.W.Frag) : Sp := fun vs H Q _ => ∃ (a : Addr) (sg : List Int) (b : Bool), vs = [.ref a, .bl b] ∧ H a = some (.lst (sg.map V.int)) ∧ (b = true → ∃ x ∈ sg, FarS x) ∧ (b = false → ∀ x ∈ sg, ¬ FarS x) ∧ ∀ w p H', WayS sg w → H p = none → Same H H' → H' p = some (.lst ((tR w).map sV)) → Q (.ref p) H'
theorem len_law_due (K : PySem.W.Frag) : ∀ vs H Q E, sp_law_due K vs H Q E → vs.length = 2 := by
  rintro vs H Q E ⟨a, bs, _, rfl, _⟩; rfl
def t_law_due (K : PySem.W.Frag) : TS :=
  (tSeq (tIfS (tTest (tOp rGtI (tCB (rLen K) (tCons (tVar 0) tNil)) (tC (.int 4096))))
  (tRet (tLst (tCons (tC (.int 1)) (tCons (tC (.bl true)) (tCons (tC (.bl true)) (tCons (tC (.bl false)) (tCons (tC (.bl false)) tNil)))))))
  tNext)
  (tSeq (tIfS (tB (tVar 1))
  (tRet (tLst (tCons (tC (.int 2)) (tCons (tC (.bl true)) (tCons (tC (.bl true)) (tCons (tC (.bl false)) (tCons (tC (.bl false)) tNil)))))))
  tNext)
  (tRet (tLst (tCons (tC (.int 0)) tNil)))))
abbrev n_law_due : List Str := ["_law_row", "_law_bad"]

theorem rd_law_due (K : PySem.W.Frag) (vs : List V) (H : Hp) (Q : VK) (E : XK) (h : sp_law_due K vs H Q E) : t_law_due K { nx := fun _ H' => Q .non H', rt := Q } (start n_law_due vs) H := by
  obtain ⟨a, sg, b, rfl, hS, hb1, hb0, q⟩ := h
  unfold t_law_due
  walk_at "st"
  refine k_lenL (.of hS) ?_
  walk_at "st"
  rw [List.length_map]
  walk_at "if" <;> intro c0
  · walk_at "st"
    intro p hp
    exact q 1 p _ (.inl ⟨by omega, rfl⟩) hp (same_new hp) upd_same
  walk_at "st"
  cases b with
  | true =>
    walk_at "st"
    intro p hp
    exact q 2 p _ (.inr (.inl ⟨by omega, hb1 rfl, rfl⟩)) hp (same_new hp) upd_same
  | false =>
    walk_at "st"
    intro p hp
    exact q 0 p _ (.inr (.inr ⟨by omega, hb0 rfl, rfl⟩)) hp (same_new hp) upd_same
--#base
theorem not_far {x : Int} (h1 : -1000000000000000000000000000000000000000000000000000000000000 < x) (h2 : x < 1000000000000000000000000000000000000000000000000000000000000) : ¬ FarS x := fun z => by unfold FarS at z; omega
theorem k_andB {p : Prop} [Decidable p] {tb : TE} {σ : L2.St} {H : Hp} {Q : VK} {r : Bool} (hb : ∀ Q' : VK, Q' (.bl r) H → tb σ H Q') (q : Q (.bl (decide p && r)) H) : if decide p = true then tb σ H Q else Q (.bl false) H := by
  by_cases h : p
  · rw [if_pos (decide_eq_true h)]; exact hb _ (by rw [decide_eq_true h, Bool.true_and] at q; exact q)
  · rw [if_neg (fun z => h (of_decide_eq_true z))]; rw [decide_eq_false h, Bool.false_and] at q; exact q
theorem mem_set {xs : List Int} {k : Nat} {x y : Int} (h : y ∈ xs.set k x) : y = x ∨ y ∈ xs := (List.mem_or_eq_of_mem_set h).symm
def t_law (K : PySem.W.Frag) : TS :=
  (tSeq (tAsg (tLc (iList K (tSl (rSlL K) (tVar 0) (tPart (tC (.int 4))) (tPart (tC (.int 63))))) (gName 2) tYes (tOp rPlus (tOp rMinus (tOp rMod (tVar 2) (tC (.int 1999999999999999999999999999999999999999999999999999999999999))) (tC (.int 1000000000000000000000000000000000000000000000000000000000000))) (tC (.int 1))) [2]) (gName 1))
  (tSeq (tAsg (tCall (sp_law_cell_at K) [] E0 (tCons (tVar 0) (tCons (tC (.int 0)) tNil))) (gName 3))
  (Evl.tCut (tIfS (tTest (tOp rEq (tOp rMod (tVar 3) (tC (.int 8))) (tC (.int 3))))
  (tSeq (tAsg (tOp (rIxL K) (tLst (tCons (tC (.int 999999999999999999999999999999999999999999999999999999999999)) (tCons (tC (.int (-999999999999999999999999999999999999999999999999999999999999))) (tCons (tOp rMod (tOp rDiv (tVar 3) (tC (.int 96))) (tC (.int 1000000000000000000000000000000000000000000000000000000000000))) tNil)))) (tOp rMod (tOp rDiv (tVar 3) (tC (.int 32))) (tC (.int 3)))) (gName 4))
  (tSeq (tAsg (tOp rRep (tLst (tCons (tVar 4) tNil)) (tOp rPlus (tC (.int 4095)) (tOp rMod (tOp rDiv (tVar 3) (tC (.int 8))) (tC (.int 4))))) (gName 1))
  (tAsg (tOp rMod (tCall (sp_law_cell_at K) [] E0 (tCons (tVar 0) (tCons (tC (.int 2)) tNil))) (tC (.int 1000000000000000000000000000000000000000000000000000000000000))) (gSub (tVar 1) (tOp rMod (tCall (sp_law_cell_at K) [] E0 (tCons (tVar 0) (tCons (tC (.int 3)) tNil))) (tCB (rLen K) (tCons (tVar 1) tNil))) rSetL))))
  tNext)
  (tSeq (tAsg (tCB (rListOf K) (tCons (tVar 1) tNil)) (gName 5))
  (tSeq (tAsg (tOp rMod (tCall (sp_law_cell_at K) [] E0 (tCons (tVar 0) (tCons (tC (.int 1)) tNil))) (tC (.int 8))) (gName 6))
  (tSeq (tAsg (tAndV (tOp rEq (tOp rMod (tVar 6) (tC (.int 2))) (tC (.int 1))) (tOp rGtI (tCB (rLen K) (tCons (tVar 1) tNil)) (tC (.int 0)))) (gName 7))
  (Evl.tCut (tIfS (tB (tVar 7))
  (tSeq (tAsg (tOp rPlus (tC (.int 1000000000000000000000000000000000000000000000000000000000000)) (tOp (rIxL K) (tLst (tCons (tC (.int 0)) (tCons (tOp rMod (tCall (sp_law_cell_at K) [] E0 (tCons (tVar 0) (tCons (tC (.int 2)) tNil))) (tC (.int 1000000000000000000000000000000000000000000000000000000000000))) tNil))) (tOp rDiv (tVar 6) (tC (.int 4))))) (gName 8))
  (tAsg (tOp (rIxL K) (tLst (tCons (tVar 8) (tCons (tOp rMinus (tC (.int 0)) (tVar 8)) tNil))) (tOp rMod (tOp rDiv (tVar 6) (tC (.int 2))) (tC (.int 2)))) (gSub (tVar 5) (tOp rMod (tOp rDiv (tCall (sp_law_cell_at K) [] E0 (tCons (tVar 0) (tCons (tC (.int 3)) tNil))) (tC (.int 5))) (tCB (rLen K) (tCons (tVar 1) tNil))) rSetL)))
  tNext)
  (tSeq (tAsg (tCB (rListOf K) (tCons (tVar 5) tNil)) (gName 9))
  (tSeq (tIfS (tOr (tTest (tOp (rNeD K) (tCall (sp_law_told K) [] E0 (tCons (tVar 9) tNil)) (tCall (sp_law_due K) [] E0 (tCons (tVar 5) (tCons (tVar 7) tNil))))) (tTest (tOp (rNeD K) (tVar 9) (tVar 5))))
  (tRet (tC (.bl false)))
  tNext)
  (tRet (tOrV (tNotV (tVar 7)) (tOp (rEqD K) (tCall (sp_law_told K) [] E0 (tCons (tCB (rListOf K) (tCons (tVar 1) tNil)) tNil)) (tCall (sp_law_due K) [] E0 (tCons (tVar 1) (tCons (tC (.bl false)) tNil)))))))))))))))
abbrev n_law : List Str := ["_law_script", "_law_signs", "_law_cell", "_law_long", "_law_one", "_law_spoilt", "_law_way", "_law_bad", "_law_far", "_law_handed"]

theorem rd_law (K : PySem.W.Frag) (F : KFx K) (vs : List V) (H : Hp) (Q : VK) (E : XK) (h : sp_law K vs H Q E) : t_law K { nx := fun _ H' => Q .non H', rt := Q } (start n_law vs) H := by
  obtain ⟨a, ns, rfl, hS, hl, q⟩ := h
  unfold t_law
  walk_at "st"
  refine k_slL hS fun p0 hp0 => ?_
  have s0 := same_new (o := .lst (cutV (ns.map V.int) (some 4) (some 63))) hp0
  have e0 := upd_same (H := H) (a := p0) (o := .lst (cutV (ns.map V.int) (some 4) (some 63)))
  generalize upd H p0 (.lst (cutV (ns.map V.int) (some 4) (some 63))) = H0 at s0 e0 ⊢
  rw [show (some (4 : Int)) = some ((4 : Nat) : Int) from rfl, show (some (63 : Int)) = some ((63 : Nat) : Int) from rfl, cutPart, ← List.map_take, ← List.map_drop] at e0
  obtain ⟨ms, hms⟩ : ∃ ms, ms = (ns.take 63).drop 4 := ⟨_, rfl⟩
  have hml : ms.length ≤ 59 := by rw [hms, List.length_drop, List.length_take]; omega
  rw [← hms] at e0
  clear hms
  walk_at "st"
  refine m_iLe (.of e0) ?_
  obtain ⟨f, hf⟩ : ∃ f : Int → Int, f = fun n => n % 1999999999999999999999999999999999999999999999999999999999999 - 1000000000000000000000000000000000000000000000000000000000000 + 1 := ⟨_, rfl⟩
  refine comp_listV (xs := ms.map V.int) (ys := (ms.map f).map V.int) (.of e0) (by rw [List.length_map]; omega) (by simp) (fun k x y Ha Q2 hx hy sk q2 => ?_) fun p1 H1 hp1 s1 e1 => ?_
  · obtain ⟨n, en, rfl⟩ := of_mapint hx
    have ey : y = .int (f n) := by
      rw [List.getElem?_map, List.getElem?_map, en] at hy
      exact (Option.some.inj hy).symm
    subst ey
    rw [hf] at q2
    walk_at "st"
    exact q2 _ (Same.refl _)
  have hff : ∀ x ∈ ms.map f, ¬ FarS x := fun x hx => by
    obtain ⟨n, _, rfl⟩ := List.mem_map.mp hx
    rw [hf]
    dsimp only
    exact not_far (by omega) (by omega)
  have hsl : (ms.map f).length ≤ 59 := by rw [List.length_map]; exact hml
  generalize ms.map f = sg at e1 hff hsl
  clear hf
  have t1 := s0.trans s1
  have hS1 := t1.seq hS
  walk_at "st"
  refine call_cell_at hS1 (by decide) fun c0 hc0 => ?_
  walk_at "st"
  refine m_cut (fun σ' H' => ∃ (sg U : List Int) (p2 : Addr) (v4 : Option V), Same H H' ∧ H p2 = none ∧ H' p2 = some (.lst (sg.map V.int)) ∧ sg.length ≤ 4098 ∧ U.length ≤ 60 ∧ (∀ x ∈ sg, x ∈ U) ∧ (∀ x ∈ sg, ¬ FarS x) ∧ σ' = [some (.ref a), some (.ref p2), none, some (.int c0), v4, none, none, none, none, none]) ?_ ?_
  · walk_at "st"
    walk_at "if" <;> intro z0
    · walk_at "st"
      intro p3 hp3
      have s3 := t1.trans (same_new (o := .lst [.int 999999999999999999999999999999999999999999999999999999999999, .int (-999999999999999999999999999999999999999999999999999999999999), .int (c0 / 96 % 1000000000000000000000000000000000000000000000000000000000000)]) hp3)
      have e3 := upd_same (H := H1) (a := p3) (o := .lst [.int 999999999999999999999999999999999999999999999999999999999999, .int (-999999999999999999999999999999999999999999999999999999999999), .int (c0 / 96 % 1000000000000000000000000000000000000000000000000000000000000)])
      generalize upd H1 p3 (.lst [.int 999999999999999999999999999999999999999999999999999999999999, .int (-999999999999999999999999999999999999999999999999999999999999), .int (c0 / 96 % 1000000000000000000000000000000000000000000000000000000000000)]) = H3 at s3 e3 ⊢
      walk_at "st"
      obtain ⟨m, hm⟩ : ∃ m, m = c0 / 32 % 3 := ⟨_, rfl⟩
      obtain ⟨o, ho, hof⟩ : ∃ o : Int, atI [V.int 999999999999999999999999999999999999999999999999999999999999, .int (-999999999999999999999999999999999999999999999999999999999999), .int (c0 / 96 % 1000000000000000000000000000000000000000000000000000000000000)] m = some (.int o) ∧ ¬ FarS o := by
        have h3 : m = 0 ∨ m = 1 ∨ m = 2 := by omega
        rcases h3 with z | z | z <;> rw [z]
        · exact ⟨_, rfl, not_far (by decide) (by decide)⟩
        · exact ⟨_, rfl, not_far (by decide) (by decide)⟩
        · exact ⟨_, rfl, not_far (by omega) (by omega)⟩
      rw [← hm]
      refine k_ixL (.of e3) ho ?_
      walk_at "st"
      intro p4 hp4
      have s4 := s3.trans (same_new (o := .lst [.int o]) hp4)
      have e4 := upd_same (H := H3) (a := p4) (o := .lst [.int o])
      generalize upd H3 p4 (.lst [.int o]) = H4 at s4 e4 ⊢
      walk_at "st"
      obtain ⟨n, hn⟩ : ∃ n, n = 4095 + c0 / 8 % 4 := ⟨_, rfl⟩
      have hn0 : 4095 ≤ n ∧ n ≤ 4098 := by omega
      rw [← hn]
      refine k_repI (xs := [o]) e4 (by omega) (by simp only [List.length_cons, List.length_nil]; omega) fun p5 H5 cs hp5 s5 ecs lcs e5 => ?_
      have lcs2 : cs.length = n.toNat := by rw [lcs]; simp
      have hcs : ∀ x ∈ cs, x = o := fun x hx => by
        rw [ecs] at hx
        obtain ⟨l, hl1, hl2⟩ := List.mem_flatten.mp hx
        obtain ⟨_, rfl⟩ := List.mem_replicate.mp hl1
        exact List.mem_singleton.mp hl2
      have t5 := s4.trans s5
      walk_at "st"
      refine call_cell_at (t5.seq hS) (by decide) fun c2 hc2 => ?_
      walk_at "st"
      obtain ⟨v, hv⟩ : ∃ v, v = c2 % 1000000000000000000000000000000000000000000000000000000000000 := ⟨_, rfl⟩
      have hvf : ¬ FarS v := not_far (by omega) (by omega)
      rw [← hv]
      refine call_cell_at (t5.seq hS) (by decide) fun c3 hc3 => ?_
      walk_at "st"
      refine k_lenL (.of e5) ?_
      rw [List.length_map]
      have hpos : (0 : Int) < ((cs.length : Nat) : Int) := by omega
      walk_at "st"
      have m0 := Int.emod_nonneg c3 (show ((cs.length : Nat) : Int) ≠ 0 by omega)
      have m1 := Int.emod_lt_of_pos c3 (show (0 : Int) < ((cs.length : Nat) : Int) by omega)
      obtain ⟨k, hk⟩ := Int.eq_ofNat_of_zero_le m0
      rw [hk] at m1 ⊢
      refine m_setL e5 (j := k) (ixN_nat (k := (k : Int)) (by omega) (by rw [List.length_map]; exact m1)) ?_
      walk_at "st"
      refine ⟨cs.set k v, [o, v], p5, _, t5.mut (s4.gone _ hp5) ⟨_, e5⟩, s4.gone _ hp5, by rw [upd_same, ← List.map_set], by rw [List.length_set]; omega, by simp, fun x hx => ?_, fun x hx => ?_, rfl⟩
      · rcases mem_set hx with z | z
        · rw [z]; simp
        · rw [hcs x z]; simp
      · rcases mem_set hx with z | z
        · rw [z]; exact hvf
        · rw [hcs x z]; exact hof
    · walk_at "st"
      exact ⟨sg, sg, p1, _, t1, s0.gone _ hp1, e1, by omega, by omega, fun x hx => hx, hff, rfl⟩
  clear e1 hff hsl hp1 s1 hS1
  rintro σ' H2 ⟨sg, U, p2, v4, s2, hp2, e2, hsl, hU, hUm, hsf, rfl⟩
  walk_at "st"
  refine k_listL (.of e2) fun p3 hp3 => ?_
  have hp3H := s2.gone _ hp3
  have s3 := s2.trans (same_new (o := .lst (sg.map V.int)) hp3)
  have n23 : p2 ≠ p3 := ne_of_none e2 hp3
  replace e2 := (same_new (o := .lst (sg.map V.int)) hp3).get e2
  have e3 := upd_same (H := H2) (a := p3) (o := .lst (sg.map V.int))
  generalize upd H2 p3 (.lst (sg.map V.int)) = H3 at s3 e2 e3 ⊢
  have hS3 := s3.seq hS
  walk_at "st"
  refine call_cell_at hS3 (by decide) fun c1 hc1 => ?_
  walk_at "st"
  obtain ⟨w, hw⟩ : ∃ w, w = c1 % 8 := ⟨_, rfl⟩
  have hw0 : 0 ≤ w ∧ w < 8 := by omega
  rw [← hw]
  clear hw
  refine k_andB (r := decide ((0 : Int) < (sg.length : Int))) (fun Q' q' => ?_) ?_
  · walk_at "st"
    refine k_lenL (.of e2) ?_
    rw [List.length_map]
    walk_at "st"
    exact q'
  obtain ⟨b, hb⟩ : ∃ b, b = (decide (w % 2 = 1) && decide ((0 : Int) < (sg.length : Int))) := ⟨_, rfl⟩
  have hb1 : b = true → 0 < sg.length := fun z => by
    rw [hb, Bool.and_eq_true] at z
    have := of_decide_eq_true z.2
    omega
  rw [← hb]
  clear hb
  walk_at "st"
  refine m_cut (fun σ' H' => ∃ (so U' : List Int) (v8 : Option V), Same H H' ∧ H' p2 = some (.lst (sg.map V.int)) ∧ H' p3 = some (.lst (so.map V.int)) ∧ so.length = sg.length ∧ U'.length ≤ 61 ∧ (∀ x ∈ so, x ∈ U') ∧ (b = true → ∃ x ∈ so, FarS x) ∧ (b = false → ∀ x ∈ so, ¬ FarS x) ∧ σ' = [some (.ref a), some (.ref p2), none, some (.int c0), v4, some (.ref p3), some (.int w), some (.bl b), v8, none]) ?_ ?_
  · walk_at "st"
    cases b with
    | false =>
      walk_at "st"
      exact ⟨sg, U, _, s3, e2, e3, rfl, by omega, hUm, fun z => (by cases z), fun _ => hsf, rfl⟩
    | true =>
      have hpos := hb1 rfl
      walk_at "st"
      refine call_cell_at hS3 (by decide) fun c2 hc2 => ?_
      walk_at "st"
      intro p5 hp5
      have s5 := s3.trans (same_new (o := .lst [.int 0, .int (c2 % 1000000000000000000000000000000000000000000000000000000000000)]) hp5)
      have e25 := (same_new (o := .lst [.int 0, .int (c2 % 1000000000000000000000000000000000000000000000000000000000000)]) hp5).get e2
      have e35 := (same_new (o := .lst [.int 0, .int (c2 % 1000000000000000000000000000000000000000000000000000000000000)]) hp5).get e3
      have e5 := upd_same (H := H3) (a := p5) (o := .lst [.int 0, .int (c2 % 1000000000000000000000000000000000000000000000000000000000000)])
      generalize upd H3 p5 (.lst [.int 0, .int (c2 % 1000000000000000000000000000000000000000000000000000000000000)]) = H5 at s5 e25 e35 e5 ⊢
      obtain ⟨o, ho, hof⟩ : ∃ o : Int, atI [V.int 0, .int (c2 % 1000000000000000000000000000000000000000000000000000000000000)] (w / 4) = some (.int o) ∧ 0 ≤ o := by
        have h3 : w / 4 = 0 ∨ w / 4 = 1 := by omega
        rcases h3 with z | z <;> rw [z]
        · exact ⟨_, rfl, by decide⟩
        · exact ⟨_, rfl, by omega⟩
      walk_at "st"
      refine k_ixL (.of e5) ho ?_
      walk_at "st"
      intro p6 hp6
      obtain ⟨g, hg⟩ : ∃ g, g = 1000000000000000000000000000000000000000000000000000000000000 + o := ⟨_, rfl⟩
      rw [← hg]
      have s6 := s5.trans (same_new (o := .lst [.int g, .int (0 - g)]) hp6)
      have e26 := (same_new (o := .lst [.int g, .int (0 - g)]) hp6).get e25
      have e36 := (same_new (o := .lst [.int g, .int (0 - g)]) hp6).get e35
      have e6 := upd_same (H := H5) (a := p6) (o := .lst [.int g, .int (0 - g)])
      generalize upd H5 p6 (.lst [.int g, .int (0 - g)]) = H6 at s6 e26 e36 e6 ⊢
      obtain ⟨v, hv, hvf⟩ : ∃ v : Int, atI [V.int g, .int (0 - g)] (w / 2 % 2) = some (.int v) ∧ FarS v := by
        have h3 : w / 2 % 2 = 0 ∨ w / 2 % 2 = 1 := by omega
        rcases h3 with z | z <;> rw [z]
        · exact ⟨_, rfl, .inr (by omega)⟩
        · exact ⟨_, rfl, .inl (by omega)⟩
      walk_at "st"
      refine k_ixL (.of e6) hv ?_
      walk_at "st"
      refine call_cell_at (s6.seq hS) (by decide) fun c3 hc3 => ?_
      walk_at "st"
      refine k_lenL (.of e26) ?_
      rw [List.length_map]
      have hpos2 : (0 : Int) < ((sg.length : Nat) : Int) := by omega
      walk_at "st"
      obtain ⟨d, hd⟩ : ∃ d, d = c3 / 5 := ⟨_, rfl⟩
      rw [← hd]
      have m0 := Int.emod_nonneg d (show ((sg.length : Nat) : Int) ≠ 0 by omega)
      have m1 := Int.emod_lt_of_pos d hpos2
      obtain ⟨k, hk⟩ := Int.eq_ofNat_of_zero_le m0
      rw [hk] at m1 ⊢
      refine m_setL e36 (j := k) (ixN_nat (k := (k : Int)) (by omega) (by rw [List.length_map]; exact m1)) ?_
      walk_at "st"
      refine ⟨sg.set k v, v :: U, _, s6.mut hp3H ⟨_, e36⟩, (upd_ne n23).trans e26, by rw [upd_same, ← List.map_set], by rw [List.length_set], by rw [List.length_cons]; omega, fun x hx => ?_, fun _ => ⟨v, ?_, hvf⟩, fun z => (by cases z), rfl⟩
      · rcases mem_set hx with z | z
        · rw [z]; exact List.mem_cons_self
        · exact List.mem_cons_of_mem _ (hUm x z)
      · exact List.mem_of_getElem? (i := k) (by rw [List.getElem?_set_self (by omega)])
  clear e2 e3 s3 hS3
  rintro σ' H4 ⟨so, U', v8, s4, e2, e3, hsol, hU', hUm', hbt, hbf, rfl⟩
  walk_at "st"
  refine k_listL (.of e3) fun p9 hp9 => ?_
  have s9 := s4.trans (same_new (o := .lst (so.map V.int)) hp9)
  replace e2 := (same_new (o := .lst (so.map V.int)) hp9).get e2
  replace e3 := (same_new (o := .lst (so.map V.int)) hp9).get e3
  have e9 := upd_same (H := H4) (a := p9) (o := .lst (so.map V.int))
  generalize upd H4 p9 (.lst (so.map V.int)) = H9 at s9 e2 e3 e9 ⊢
  walk_at "st"
  refine ⟨p9, so, U', rfl, e9, by omega, by omega, hUm', fun w1 pa Ha hw1 hpa sa ea => ?_⟩
  walk_at "st"
  refine ⟨p3, so, b, rfl, sa.get e3, hbt, hbf, fun w2 pb Hb hw2 hpb sb eb => ?_⟩
  obtain rfl := hw1.u hw2
  have sab := sa.trans sb
  refine k_neMix (tR w1) (tR w1) (r := true) (.of (sb.get ea)) (.of eb) (eqv_same _) ?_
  walk_at "st"
  refine k_neL (ns := so) (ms := so) (.of (sab.get e9)) (.of (sab.get e3)) ?_
  rw [decide_eq_true rfl]
  walk_at "st"
  cases b with
  | false =>
    walk_at "st"
    exact q _
  | true =>
    walk_at "st"
    refine k_listL (.of (sab.get e2)) fun pc hpc => ?_
    have sc := sab.trans (same_new (o := .lst (sg.map V.int)) hpc)
    have ec := upd_same (H := Hb) (a := pc) (o := .lst (sg.map V.int))
    generalize upd Hb pc (.lst (sg.map V.int)) = Hc at sc ec ⊢
    walk_at "st"
    refine ⟨pc, sg, U, rfl, ec, by omega, by omega, hUm, fun w1 pa Ha hw1 hpa sa ea => ?_⟩
    walk_at "st"
    refine ⟨p2, sg, false, rfl, sa.get (sc.get e2), fun z => (by cases z), fun _ => hsf, fun w2 pb Hb hw2 hpb sb eb => ?_⟩
    obtain rfl := hw1.u hw2
    refine k_eqMix (tR w1) (tR w1) (r := true) (.of (sb.get ea)) (.of eb) (eqv_same _) ?_
    exact q _

end Tw
namespace Tw
open PySem PySem.Spec PyProof.Rows L2
/-! the text -/
def topS (i : Nat) : Stmt := PySem.Challenge.pw_thinwood_k61_signs_refused.main.body.getD i (.Pass ⟨0, 0, 0, 0⟩)
abbrev s_packed : Stmt := topS 14
theorem sc_packed : FnScope n_packed ["bits"] (defScope s_packed) := ⟨rfl, rfl, rfl, by decide +kernel, rfl, by decide +kernel, by decide +kernel⟩

abbrev s_ones_in : Stmt := topS 15
theorem sc_ones_in : FnScope n_ones_in ["block", "upto"] (defScope s_ones_in) := ⟨rfl, rfl, rfl, by decide +kernel, rfl, by decide +kernel, by decide +kernel⟩

abbrev s_ones_table : Stmt := topS 17
theorem sc_ones_table : FnScope n_ones_table ["blocks"] (defScope s_ones_table) := ⟨rfl, rfl, rfl, by decide +kernel, rfl, by decide +kernel, by decide +kernel⟩

abbrev s_kept_row : Stmt := topS 18
theorem sc_kept_row : FnScope n_kept_row ["bits"] (defScope s_kept_row) := ⟨rfl, rfl, rfl, by decide +kernel, rfl, by decide +kernel, by decide +kernel⟩

abbrev s_levels_for : Stmt := topS 21
theorem sc_levels_for : FnScope n_levels_for ["kinds"] (defScope s_levels_for) := ⟨rfl, rfl, rfl, by decide +kernel, rfl, by decide +kernel, by decide +kernel⟩

abbrev s_kept_signs : Stmt := topS 22
theorem sc_kept_signs : FnScope n_kept_signs ["signs"] (defScope s_kept_signs) := ⟨rfl, rfl, rfl, by decide +kernel, rfl, by decide +kernel, by decide +kernel⟩

abbrev s_law_cell_at : Stmt := topS 24
theorem sc_law_cell_at : FnScope n_law_cell_at ["_law_script", "_law_k"] (defScope s_law_cell_at) := ⟨rfl, rfl, rfl, by decide +kernel, rfl, by decide +kernel, by decide +kernel⟩

abbrev s_law_whole : Stmt := topS 25
theorem sc_law_whole : FnScope n_law_whole ["_law_found"] (defScope s_law_whole) := ⟨rfl, rfl, rfl, by decide +kernel, rfl, by decide +kernel, by decide +kernel⟩

abbrev s_law_others : Stmt := topS 26
theorem sc_law_others : FnScope n_law_others ["_law_e"] (defScope s_law_others) := ⟨rfl, rfl, rfl, by decide +kernel, rfl, by decide +kernel, by decide +kernel⟩

abbrev s_law_told : Stmt := topS 27
theorem sc_law_told : FnScope n_law_told ["_law_row"] (defScope s_law_told) := ⟨rfl, rfl, rfl, by decide +kernel, rfl, by decide +kernel, by decide +kernel⟩

abbrev s_law_due : Stmt := topS 28
theorem sc_law_due : FnScope n_law_due ["_law_row", "_law_bad"] (defScope s_law_due) := ⟨rfl, rfl, rfl, by decide +kernel, rfl, by decide +kernel, by decide +kernel⟩

abbrev s_law : Stmt := topS 29
theorem sc_law : FnScope n_law ["_law_script"] (defScope s_law) := ⟨rfl, rfl, rfl, by decide +kernel, rfl, by decide +kernel, by decide +kernel⟩

structure Tx (P : Program) (w : World) (K : PySem.W.Frag) (mg : Str → Option Value) (base : Heap) : Prop where
  d_packed : ∃ fd, FunD K "packed" "packed" (defArgs s_packed) (defBody s_packed) (defScope s_packed) [] [] (He.ga K "packed") fd
  g_packed : mg "packed" = some (.ref (He.ga K "packed"))
  d_ones_in : ∃ fd, FunD K "ones_in" "ones_in" (defArgs s_ones_in) (defBody s_ones_in) (defScope s_ones_in) [] [] (He.ga K "ones_in") fd
  g_ones_in : mg "ones_in" = some (.ref (He.ga K "ones_in"))
  d_ones_table : ∃ fd, FunD K "ones_table" "ones_table" (defArgs s_ones_table) (defBody s_ones_table) (defScope s_ones_table) [] [] (He.ga K "ones_table") fd
  g_ones_table : mg "ones_table" = some (.ref (He.ga K "ones_table"))
  d_kept_row : ∃ fd, FunD K "kept_row" "kept_row" (defArgs s_kept_row) (defBody s_kept_row) (defScope s_kept_row) [] [] (He.ga K "kept_row") fd
  g_kept_row : mg "kept_row" = some (.ref (He.ga K "kept_row"))
  d_levels_for : ∃ fd, FunD K "levels_for" "levels_for" (defArgs s_levels_for) (defBody s_levels_for) (defScope s_levels_for) [] [] (He.ga K "levels_for") fd
  g_levels_for : mg "levels_for" = some (.ref (He.ga K "levels_for"))
  d_kept_signs : ∃ fd, FunD K "kept_signs" "kept_signs" (defArgs s_kept_signs) (defBody s_kept_signs) (defScope s_kept_signs) [] [] (He.ga K "kept_signs") fd
  g_kept_signs : mg "kept_signs" = some (.ref (He.ga K "kept_signs"))
  d_law_cell_at : ∃ fd, FunD K "_law_cell_at" "_law_cell_at" (defArgs s_law_cell_at) (defBody s_law_cell_at) (defScope s_law_cell_at) [] [] (He.ga K "_law_cell_at") fd
  g_law_cell_at : mg "_law_cell_at" = some (.ref (He.ga K "_law_cell_at"))
  d_law_whole : ∃ fd, FunD K "_law_whole" "_law_whole" (defArgs s_law_whole) (defBody s_law_whole) (defScope s_law_whole) [] [] (He.ga K "_law_whole") fd
  g_law_whole : mg "_law_whole" = some (.ref (He.ga K "_law_whole"))
  d_law_others : ∃ fd, FunD K "_law_others" "_law_others" (defArgs s_law_others) (defBody s_law_others) (defScope s_law_others) [] [] (He.ga K "_law_others") fd
  g_law_others : mg "_law_others" = some (.ref (He.ga K "_law_others"))
  d_law_told : ∃ fd, FunD K "_law_told" "_law_told" (defArgs s_law_told) (defBody s_law_told) (defScope s_law_told) [] [] (He.ga K "_law_told") fd
  g_law_told : mg "_law_told" = some (.ref (He.ga K "_law_told"))
  d_law_due : ∃ fd, FunD K "_law_due" "_law_due" (defArgs s_law_due) (defBody s_law_due) (defScope s_law_due) [] [] (He.ga K "_law_due") fd
  g_law_due : mg "_law_due" = some (.ref (He.ga K "_law_due"))
  d_law : ∃ fd, FunD K "law" "law" (defArgs s_law) (defBody s_law) (defScope s_law) [] [] (He.ga K "law") fd
  g_law : mg "law" = some (.ref (He.ga K "law"))
  b_ValueError : mg "ValueError" = none
  b_bool : mg "bool" = none
  b_enumerate : mg "enumerate" = none
  b_int : mg "int" = none
  b_isinstance : mg "isinstance" = none
  b_len : mg "len" = none
  b_list : mg "list" = none
  b_range : mg "range" = none
  b_reversed : mg "reversed" = none
  b_set : mg "set" = none
  b_sorted : mg "sorted" = none
  b_sum : mg "sum" = none
  b_tuple : mg "tuple" = none
  x_NoBit : ExF K mg "NoBit"
  x_NoNode : ExF K mg "NoNode"
  x_NoOctets : ExF K mg "NoOctets"
  x_NoPlace : ExF K mg "NoPlace"
  x_NoSign : ExF K mg "NoSign"
  x_NoTree : ExF K mg "NoTree"
  x_NoWord : ExF K mg "NoWord"
  x_TooMany : ExF K mg "TooMany"
  x_Twice : ExF K mg "Twice"
  x_WoodError : ExF K mg "WoodError"
  g_NoBit : mg "NoBit" = some (.ref (He.ga K "NoBit"))
  g_NoNode : mg "NoNode" = some (.ref (He.ga K "NoNode"))
  g_NoOctets : mg "NoOctets" = some (.ref (He.ga K "NoOctets"))
  g_NoPlace : mg "NoPlace" = some (.ref (He.ga K "NoPlace"))
  g_NoSign : mg "NoSign" = some (.ref (He.ga K "NoSign"))
  g_NoTree : mg "NoTree" = some (.ref (He.ga K "NoTree"))
  g_NoWord : mg "NoWord" = some (.ref (He.ga K "NoWord"))
  g_TooMany : mg "TooMany" = some (.ref (He.ga K "TooMany"))
  g_Twice : mg "Twice" = some (.ref (He.ga K "Twice"))
  g_WoodError : mg "WoodError" = some (.ref (He.ga K "WoodError"))
  fx : KFx K
  i_FAR : ∃ t, mg "FAR" = some (.int 1000000000000000000000000000000000000000000000000000000000000 t)
  i_MOST : ∃ t, mg "MOST" = some (.int 4096 t)
  i_WIDE : ∃ t, mg "WIDE" = some (.int 32 t)
section
variable {P : Program} {w : World} {K : PySem.W.Frag} {mg : Str → Option Value} {base : Heap}
theorem ok_packed (T : Tx P w K mg base) : Okf P w K mg base (L2.CX P w) 2 "packed" ["bits"] (sp_packed K) := by
  obtain ⟨fd, FD⟩ := T.d_packed
  refine ⟨⟨fd, FunD.look FD, FD.bindsN fun _ _ _ _ _ _ us hl => match us, hl with | [_], _ => rfl, ?_⟩, FD.kp, T.g_packed⟩
  refine FunD.ok (CX := (L2.CX P w)) FD sc_packed (len_packed K) (fun cdv A outer s H vs Q E hr h => ⟨t_packed K E, ?_, rd_packed K vs H Q E h⟩)
  exact (pss_cons (ps_if (pt_cmpR op_gt (pe_callB call_lenK (by rfl) T.b_len (by decide +kernel) (pa_cons (pv 0) pa_nil)) (pe_gint T.i_MOST (by rfl)) (nomark _))
  (pss_one (ps_rz T.x_TooMany (takes_of rfl rfl rfl rfl)))
  pss_nil)
  (pss_cons (ps_set (i := 1) sc_packed.nd rfl (.inl rfl) (pe_op op_rep (pe_lst (pa_cons pe_int pa_nil)) (pe_op op_fdiv (pe_op op_sub (pe_op op_add (pe_callB call_lenK (by rfl) T.b_len (by decide +kernel) (pa_cons (pv 0) pa_nil)) (pe_gint T.i_WIDE (by rfl))) pe_int) (pe_gint T.i_WIDE (by rfl)))))
  (pss_cons (ps_for (passes_of rfl) rfl (pi_enum (by rfl) T.b_enumerate (pa_cons (pv 0) pa_nil)) (pg_tup rfl (pgs_cons (pg_name (i := 2) sc_packed.nd rfl (.inl rfl)) (pgs_cons (pg_name (i := 3) sc_packed.nd rfl (.inl rfl)) pgs_nil)))
  (pss_cons (ps_if (PW.pt (pw_and (pt_cmpR op_ne (pv 3) pe_int (nomark _)) (pw_and1 (pt_cmpR op_ne (pv 3) pe_int (nomark _)))))
  (pss_one (ps_rz T.x_NoBit (takes_of rfl rfl rfl rfl)))
  pss_nil)
  (pss_one (ps_if (pt_cmpR op_eq (pv 3) pe_int (nomark _))
  (pss_one (ps_asg (pe_op op_or (pe_ix ix_list (pv 1) (pe_op op_fdiv (pv 2) (pe_gint T.i_WIDE (by rfl))) (fun _ _ => rfl)) (pe_op op_shlW pe_int (pe_op op_mod (pv 2) (pe_gint T.i_WIDE (by rfl))))) (pg_sub (pv 1) (pe_op op_fdiv (pv 2) (pe_gint T.i_WIDE (by rfl))) set_list)))
  pss_nil))))
  (pss_one (ps_ret (pv 1))))))

theorem ok_ones_in (T : Tx P w K mg base) : Okf P w K mg base CX0 1 "ones_in" ["block", "upto"] (sp_ones_in K) := by
  obtain ⟨fd, FD⟩ := T.d_ones_in
  refine ⟨⟨fd, FunD.look FD, FD.bindsN fun _ _ _ _ _ _ us hl => match us, hl with | [_, _], _ => rfl, ?_⟩, FD.kp, T.g_ones_in⟩
  refine FunD.ok (CX := CX0) FD sc_ones_in (len_ones_in K) (fun cdv A outer s H vs Q E hr h => ⟨t_ones_in K, PSs.nox ?_, rd_ones_in K vs H Q E h⟩)
  exact (pss_one (ps_ret (pe_callB (cr_sum rfl) (by rfl) T.b_sum (by decide +kernel) (pa_cons (pe_lc (own := [("k", 2)]) (g := (gName 2)) (tt := tYes) rfl sc_ones_in.nd (pi_range1 (by rfl) T.b_range (pa_cons (pv 1) pa_nil)) (blkOk_by (N := ["block", "upto", "k"]) (sc := defScope s_ones_in) (own := [("k", 2)]) (by decide +kernel)) (fun _ _ _ _ _ => (pg_name (i := 2) sc_ones_in.nd rfl (.inl rfl))) (fun _ _ _ _ _ => pts_nil) (fun _ _ _ _ _ => (pe_op op_and1 (pe_op op_shr (pv 0) (pv 2)) pe_int))) pa_nil))))

theorem ok_ones_table (T : Tx P w K mg base) (o_ones_in : Okf P w K mg base CX0 1 "ones_in" ["block", "upto"] (sp_ones_in K)) : Okf P w K mg base CX0 2 "ones_table" ["blocks"] (sp_ones_table K) := by
  obtain ⟨fd, FD⟩ := T.d_ones_table
  refine ⟨⟨fd, FunD.look FD, FD.bindsN fun _ _ _ _ _ _ us hl => match us, hl with | [_], _ => rfl, ?_⟩, FD.kp, T.g_ones_table⟩
  refine FunD.ok (CX := CX0) FD sc_ones_table (len_ones_table K) (fun cdv A outer s H vs Q E hr h => ⟨t_ones_table K, PSs.nox ?_, rd_ones_table K vs H Q E h⟩)
  exact (pss_cons (ps_set (i := 1) sc_ones_table.nd rfl (.inl rfl) (pe_lst (pa_cons pe_int pa_nil)))
  (pss_cons (ps_for PassesOwn.never rfl (pi_list (pv 0)) (pg_name (i := 2) sc_ones_table.nd rfl (.inl rfl))
  (pss_one (ps_expr (pe_bm PySem.F.plainAttrs_list PySem.F.slot_list_append PySem.F.type_list_append mt_append (pv 1) (pa_cons (pe_op op_add (pe_ix ix_list (pv 1) (pe_un un_neg pe_int) (fun _ _ => rfl)) (pe_callF o_ones_in hr (by decide) (by rfl) pass0 (pa_cons (pv 2) (pa_cons (pe_gint T.i_WIDE (by rfl)) pa_nil)))) pa_nil)))))
  (pss_one (ps_ret (pe_callTy call_tupK (by rfl) T.b_tuple (by decide +kernel) (pa_cons (pv 1) pa_nil))))))

theorem ok_kept_row (T : Tx P w K mg base) (o_packed : Okf P w K mg base (L2.CX P w) 2 "packed" ["bits"] (sp_packed K)) (o_ones_table : Okf P w K mg base CX0 2 "ones_table" ["blocks"] (sp_ones_table K)) : Okf P w K mg base (L2.CX P w) 4 "kept_row" ["bits"] (sp_kept_row K) := by
  obtain ⟨fd, FD⟩ := T.d_kept_row
  refine ⟨⟨fd, FunD.look FD, FD.bindsN fun _ _ _ _ _ _ us hl => match us, hl with | [_], _ => rfl, ?_⟩, FD.kp, T.g_kept_row⟩
  refine FunD.ok (CX := (L2.CX P w)) FD sc_kept_row (len_kept_row K) (fun cdv A outer s H vs Q E hr h => ⟨t_kept_row K E, ?_, rd_kept_row K vs H Q E h⟩)
  exact (pss_cons (ps_set (i := 1) sc_kept_row.nd rfl (.inl rfl) (pe_callF o_packed hr (by decide) (by rfl) (passX (takes_of rfl rfl rfl rfl)) (pa_cons (pv 0) pa_nil)))
  (pss_one (ps_ret (pe_tup (pa_cons (pe_tup (pa_cons (pe_callB call_lenK (by rfl) T.b_len (by decide +kernel) (pa_cons (pv 0) pa_nil)) (pa_cons (pe_callF o_ones_table hr (by decide) (by rfl) pass0 (pa_cons (pv 1) pa_nil)) pa_nil))) (pa_cons (pv 1) pa_nil))))))

theorem ok_levels_for (T : Tx P w K mg base) : Okf P w K mg base CX0 1 "levels_for" ["kinds"] (sp_levels_for K) := by
  obtain ⟨fd, FD⟩ := T.d_levels_for
  refine ⟨⟨fd, FunD.look FD, FD.bindsN fun _ _ _ _ _ _ us hl => match us, hl with | [_], _ => rfl, ?_⟩, FD.kp, T.g_levels_for⟩
  refine FunD.ok (CX := CX0) FD sc_levels_for (len_levels_for K) (fun cdv A outer s H vs Q E hr h => ⟨t_levels_for K, PSs.nox ?_, rd_levels_for K vs H Q E h⟩)
  exact (pss_cons (ps_set (i := 1) sc_levels_for.nd rfl (.inl rfl) pe_int)
  (pss_cons (ps_set (i := 2) sc_levels_for.nd rfl (.inl rfl) pe_int)
  (pss_cons (ps_while PassesOwn.never (pt_cmpR op_lt (pv 2) (pv 0) (nomark _))
  (pss_cons (ps_aug (i := 2) sc_levels_for.nd rfl (.inl rfl) (pv 2) ip_add)
  (pss_one (ps_aug (i := 1) sc_levels_for.nd rfl (.inl rfl) pe_int ip_add))))
  (pss_one (ps_ret (pv 1))))))

theorem ok_kept_signs (T : Tx P w K mg base) (o_levels_for : Okf P w K mg base CX0 1 "levels_for" ["kinds"] (sp_levels_for K)) (o_kept_row : Okf P w K mg base (L2.CX P w) 4 "kept_row" ["bits"] (sp_kept_row K)) : Okf P w K mg base (L2.CX P w) 6 "kept_signs" ["signs"] (sp_kept_signs K) := by
  obtain ⟨fd, FD⟩ := T.d_kept_signs
  refine ⟨⟨fd, FunD.look FD, FD.bindsN fun _ _ _ _ _ _ us hl => match us, hl with | [_], _ => rfl, ?_⟩, FD.kp, T.g_kept_signs⟩
  refine FunD.ok (CX := (L2.CX P w)) FD sc_kept_signs (len_kept_signs K) (fun cdv A outer s H vs Q E hr h => ⟨t_kept_signs K E, ?_, rd_kept_signs K vs H Q E h⟩)
  exact (pss_cons (ps_if (pt_cmpR op_gt (pe_callB call_lenK (by rfl) T.b_len (by decide +kernel) (pa_cons (pv 0) pa_nil)) (pe_gint T.i_MOST (by rfl)) (nomark _))
  (pss_one (ps_rz T.x_TooMany (takes_of rfl rfl rfl rfl)))
  pss_nil)
  (pss_cons (ps_for (passes_of rfl) rfl (pi_list (pv 0)) (pg_name (i := 1) sc_kept_signs.nd rfl (.inl rfl))
  (pss_one (ps_if (PW.pt (pw_or (pt_cmpR op_le (pv 1) (pe_cst (pe_op op_sub pe_int (pe_gint T.i_FAR (by rfl))) fun _ _ _ h => ⟨_, _, rfl, rfl, h⟩) (nomark _)) (pw_or1 (pt_cmpR op_ge (pv 1) (pe_gint T.i_FAR (by rfl)) (nomark _)))))
  (pss_one (ps_rz T.x_NoSign (takes_of rfl rfl rfl rfl)))
  pss_nil)))
  (pss_cons (ps_set (i := 2) sc_kept_signs.nd rfl (.inl rfl) (pe_sortSet (by rfl) T.b_sorted (by rfl) T.b_set (pv 0)))
  (pss_cons (ps_set (i := 3) sc_kept_signs.nd rfl (.inr rfl) pe_dnewK)
  (pss_cons (ps_for (passes_of rfl) rfl (pi_enum (by rfl) T.b_enumerate (pa_cons (pv 2) pa_nil)) (pg_tup rfl (pgs_cons (pg_name (i := 4) sc_kept_signs.nd rfl (.inl rfl)) (pgs_cons (pg_name (i := 1) sc_kept_signs.nd rfl (.inl rfl)) pgs_nil)))
  (pss_one (ps_dput (hu_of hr) (pv 3) (pv 1) (pv 4) rfl)))
  (pss_cons (ps_setLc (i := 5) (own := [("sign", 1)]) (g := (gName 1)) (tt := tYes) rfl sc_kept_signs.nd rfl rfl (sw_true rfl rfl rfl (by decide +kernel)) (pi_list (pv 0)) (blkOk_by (N := ["signs", "sign", "kinds", "ranks", "rank", "row", "aheads", "blocks", "weight", "tables", "some", "noughts"]) (sc := defScope s_kept_signs) (own := [("sign", 1)]) (by decide +kernel)) (fun _ _ _ _ _ => (pg_name (i := 1) sc_kept_signs.nd rfl (.inl rfl))) (fun _ _ _ _ _ => pts_nil) (fun _ _ _ _ _ => (pe_dget (hu_of hr) (pv 3) (pv 1) (fun _ _ => rfl))))
  (pss_cons (ps_set (i := 6) sc_kept_signs.nd rfl (.inl rfl) (pe_lst pa_nil))
  (pss_cons (ps_set (i := 7) sc_kept_signs.nd rfl (.inl rfl) (pe_lst pa_nil))
  (pss_cons (ps_for (passes_of rfl) rfl (pi_revR (by rfl) T.b_reversed (prg_1 (by rfl) T.b_range (pe_callF o_levels_for hr (by decide) (by rfl) pass0 (pa_cons (pe_callB call_lenK (by rfl) T.b_len (by decide +kernel) (pa_cons (pv 2) pa_nil)) pa_nil)))) (pg_name (i := 8) sc_kept_signs.nd rfl (.inr rfl))
  (pss_cons (ps_asg (pe_callF o_kept_row hr (by decide) (by rfl) (passX (takes_of rfl rfl rfl rfl)) (pa_cons (pe_lc (own := [("rank", 4)]) (g := (gName 4)) (tt := tYes) rfl sc_kept_signs.nd (pi_list (pv 5)) (blkOk_by (N := ["signs", "sign", "kinds", "ranks", "rank", "row", "aheads", "blocks", "weight", "tables", "some", "noughts"]) (sc := defScope s_kept_signs) (own := [("rank", 4)]) (by decide +kernel)) (fun _ _ _ _ _ => (pg_name (i := 4) sc_kept_signs.nd rfl (.inl rfl))) (fun _ _ _ _ _ => pts_nil) (fun _ _ _ _ _ => (pe_op op_and1 (pe_op op_shr (pv 4) (pv 8)) pe_int))) pa_nil)) (pg_tup rfl (pgs_cons (pg_name (i := 9) sc_kept_signs.nd rfl (.inl rfl)) (pgs_cons (pg_name (i := 10) sc_kept_signs.nd rfl (.inl rfl)) pgs_nil))))
  (pss_cons (ps_expr (pe_bm PySem.F.plainAttrs_list PySem.F.slot_list_append PySem.F.type_list_append mt_append (pv 6) (pa_cons (pe_ix ix_tup (pv 9) pe_int (fun _ _ => rfl)) pa_nil)))
  (pss_cons (ps_expr (pe_bm PySem.F.plainAttrs_list PySem.F.slot_list_extend PySem.F.type_list_extend mt_extend (pv 7) (pa_cons (pv 10) pa_nil)))
  (pss_cons (ps_setLc (i := 11) (own := [("rank", 4)]) (g := (gName 4)) (tt := (tTest (tOp rEq (tOp rAnd1 (tOp rShr (tVar 4) (tVar 8)) (tC (.int 1))) (tC (.int 0))))) rfl sc_kept_signs.nd rfl rfl (sw_true rfl rfl rfl (by decide +kernel)) (pi_list (pv 5)) (blkOk_by (N := ["signs", "sign", "kinds", "ranks", "rank", "row", "aheads", "blocks", "weight", "tables", "some", "noughts"]) (sc := defScope s_kept_signs) (own := [("rank", 4)]) (by decide +kernel)) (fun _ _ _ _ _ => (pg_name (i := 4) sc_kept_signs.nd rfl (.inl rfl))) (fun _ _ _ _ _ => (pts_one (pt_cmpR op_eq (pe_op op_and1 (pe_op op_shr (pv 4) (pv 8)) pe_int) pe_int (nomark _)))) (fun _ _ _ _ _ => (pv 4)))
  (pss_one (ps_set (i := 5) sc_kept_signs.nd rfl (.inl rfl) (pe_op op_cat (pv 11) (pe_lc (own := [("rank", 4)]) (g := (gName 4)) (tt := (tTest (tOp rEq (tOp rAnd1 (tOp rShr (tVar 4) (tVar 8)) (tC (.int 1))) (tC (.int 1))))) rfl sc_kept_signs.nd (pi_list (pv 5)) (blkOk_by (N := ["signs", "sign", "kinds", "ranks", "rank", "row", "aheads", "blocks", "weight", "tables", "some", "noughts"]) (sc := defScope s_kept_signs) (own := [("rank", 4)]) (by decide +kernel)) (fun _ _ _ _ _ => (pg_name (i := 4) sc_kept_signs.nd rfl (.inl rfl))) (fun _ _ _ _ _ => (pts_one (pt_cmpR op_eq (pe_op op_and1 (pe_op op_shr (pv 4) (pv 8)) pe_int) pe_int (nomark _)))) (fun _ _ _ _ _ => (pv 4)))))))))))
  (pss_one (ps_ret (pe_tup (pa_cons (pe_tup (pa_cons (pe_callB call_lenK (by rfl) T.b_len (by decide +kernel) (pa_cons (pv 0) pa_nil)) (pa_cons (pe_callTy call_tupK (by rfl) T.b_tuple (by decide +kernel) (pa_cons (pv 2) pa_nil)) (pa_cons (pe_callTy call_tupK (by rfl) T.b_tuple (by decide +kernel) (pa_cons (pv 6) pa_nil)) pa_nil)))) (pa_cons (pv 7) pa_nil))))))))))))))

theorem ok_law_cell_at (T : Tx P w K mg base) : Okf P w K mg base CX0 1 "_law_cell_at" ["_law_script", "_law_k"] (sp_law_cell_at K) := by
  obtain ⟨fd, FD⟩ := T.d_law_cell_at
  refine ⟨⟨fd, FunD.look FD, FD.bindsN fun _ _ _ _ _ _ us hl => match us, hl with | [_, _], _ => rfl, ?_⟩, FD.kp, T.g_law_cell_at⟩
  refine FunD.ok (CX := CX0) FD sc_law_cell_at (len_law_cell_at K) (fun cdv A outer s H vs Q E hr h => ⟨t_law_cell_at K, PSs.nox ?_, rd_law_cell_at K vs H Q E h⟩)
  exact (pss_cons (ps_if (pt_cmpR op_lt (pv 1) (pe_callB call_lenK (by rfl) T.b_len (by decide +kernel) (pa_cons (pv 0) pa_nil)) (nomark _))
  (pss_one (ps_ret (pe_ix ix_list (pv 0) (pv 1) (fun _ _ => rfl))))
  pss_nil)
  (pss_one (ps_ret pe_int)))

theorem ok_law_whole (T : Tx P w K mg base) : Okf P w K mg base CX0 1 "_law_whole" ["_law_found"] (sp_law_whole K) := by
  obtain ⟨fd, FD⟩ := T.d_law_whole
  refine ⟨⟨fd, FunD.look FD, FD.bindsN fun _ _ _ _ _ _ us hl => match us, hl with | [_], _ => rfl, ?_⟩, FD.kp, T.g_law_whole⟩
  refine FunD.ok (CX := CX0) FD sc_law_whole (len_law_whole K) (fun cdv A outer s H vs Q E hr h => ⟨t_law_whole K, PSs.nox ?_, rd_law_whole K vs H Q E h⟩)
  exact (pss_one (ps_ret (pe_and (pe_callB call_isB (by rfl) T.b_isinstance (by decide +kernel) (pa_cons (pv 0) (pa_cons (pe_bltn (v := .ty "int") (by rfl) T.b_int (by decide +kernel) rfl) pa_nil))) (pe_one (pe_not (pe_callB call_isB (by rfl) T.b_isinstance (by decide +kernel) (pa_cons (pv 0) (pa_cons (pe_bltn (v := .ty "bool") (by rfl) T.b_bool (by decide +kernel) rfl) pa_nil))))))))

theorem ok_law_others (T : Tx P w K mg base) : Okn P w K mg base 1 "_law_others" ["_law_e"] (sp_law_others K) := by
  obtain ⟨fd, FD⟩ := T.d_law_others
  refine ⟨⟨fd, FunD.look FD, FD.bindsN fun _ _ _ _ _ _ us hl => match us, hl with | [_], _ => rfl, ?_⟩, FD.kp, T.g_law_others⟩
  refine FunD.okN FD sc_law_others (len_law_others K) (fun cdv A outer s H vs Q hr h => ⟨t_law_others K, ?_, rd_law_others K T.fx vs H Q E0 h⟩)
  exact (pss_cons (ps_if (pt_val (pe_callB call_isH (by rfl) T.b_isinstance (by decide +kernel) (pa_cons (pv 0) (pa_cons (pe_tup (pa_cons (pe_glob (by rfl) T.g_NoBit rfl) (pa_cons (pe_glob (by rfl) T.g_NoNode rfl) (pa_cons (pe_glob (by rfl) T.g_NoOctets rfl) (pa_cons (pe_glob (by rfl) T.g_NoPlace rfl) pa_nil))))) pa_nil))))
  (pss_one (ps_ret pe_bl))
  pss_nil)
  (pss_one (ps_ret (pe_callB call_isH (by rfl) T.b_isinstance (by decide +kernel) (pa_cons (pv 0) (pa_cons (pe_tup (pa_cons (pe_glob (by rfl) T.g_NoTree rfl) (pa_cons (pe_glob (by rfl) T.g_NoWord rfl) (pa_cons (pe_glob (by rfl) T.g_Twice rfl) pa_nil)))) pa_nil))))))

theorem ok_law_told (T : Tx P w K mg base) (o_kept_signs : Okf P w K mg base (L2.CX P w) 6 "kept_signs" ["signs"] (sp_kept_signs K)) (o_law_others : Okn P w K mg base  1 "_law_others" ["_law_e"] (sp_law_others K)) (o_law_whole : Okf P w K mg base CX0 1 "_law_whole" ["_law_found"] (sp_law_whole K)) : Okf P w K mg base CX0 7 "_law_told" ["_law_row"] (sp_law_told K) := by
  obtain ⟨fd, FD⟩ := T.d_law_told
  refine ⟨⟨fd, FunD.look FD, FD.bindsN fun _ _ _ _ _ _ us hl => match us, hl with | [_], _ => rfl, ?_⟩, FD.kp, T.g_law_told⟩
  refine FunD.ok (CX := CX0) FD sc_law_told (len_law_told K) (fun cdv A outer s H vs Q E hr h => ⟨t_law_told K, PSs.nox ?_, rd_law_told K T.fx vs H Q E h⟩)
  exact (pss_cons (ps_set (i := 1) sc_law_told.nd rfl (.inl rfl) pe_non)
  (pss_cons (ps_set (i := 2) sc_law_told.nd rfl (.inl rfl) (pe_lst (pa_cons pe_int pa_nil)))
  (pss_cons (ps_tryManyA (tb := fun W => (tAsg (tCallS (sp_kept_signs K) (WE W) (tCons (tVar 0) tNil)) (gName 1))) (l := [(.ref (He.ga K "TooMany"), 3, fun a cls d => (tAsg (tLst (tCons (tC (.int 1)) (tCons (tCB (rIsX K cls d a) (tCons (tVar 3) (tCons (tC (.ref (He.ga K "WoodError"))) tNil))) (tCons (tCB (rIsX K cls d a) (tCons (tVar 3) (tCons (tC (.ty "ValueError")) tNil))) (tCons (tCB (rIsX K cls d a) (tCons (tVar 3) (tCons (tC (.ref (He.ga K "NoSign"))) tNil))) (tCons (tCallH (sp_law_others K) a cls d (tCons (tVar 3) tNil)) tNil)))))) (gName 2))), (.ref (He.ga K "NoSign"), 3, fun a cls d => (tAsg (tLst (tCons (tC (.int 2)) (tCons (tCB (rIsX K cls d a) (tCons (tVar 3) (tCons (tC (.ref (He.ga K "WoodError"))) tNil))) (tCons (tCB (rIsX K cls d a) (tCons (tVar 3) (tCons (tC (.ty "ValueError")) tNil))) (tCons (tCB (rIsX K cls d a) (tCons (tVar 3) (tCons (tC (.ref (He.ga K "TooMany"))) tNil))) (tCons (tCallH (sp_law_others K) a cls d (tCons (tVar 3) tNil)) tNil)))))) (gName 2)))]) (Wout := (fun _ _ _ _ => False)) rfl rfl sc_law_told.nd takes0 (fun W pn xe tk po => (pss_one (ps_set (i := 1) sc_law_told.nd rfl (.inl rfl) (pe_callFS o_kept_signs hr (by decide) (by rfl) tk (pa_cons (pv 0) pa_nil))))) (HdsA.cons (i := 3) (ts := fun a cls d => (tAsg (tLst (tCons (tC (.int 1)) (tCons (tCB (rIsX K cls d a) (tCons (tVar 3) (tCons (tC (.ref (He.ga K "WoodError"))) tNil))) (tCons (tCB (rIsX K cls d a) (tCons (tVar 3) (tCons (tC (.ty "ValueError")) tNil))) (tCons (tCB (rIsX K cls d a) (tCons (tVar 3) (tCons (tC (.ref (He.ga K "NoSign"))) tNil))) (tCons (tCallH (sp_law_others K) a cls d (tCons (tVar 3) tNil)) tNil)))))) (gName 2))) rfl rfl ⟨rfl, by decide, .inl T.g_TooMany⟩ (fun a oe cls d pn hz hf hbn => (pss_one (ps_set (i := 2) sc_law_told.nd rfl (.inl rfl) (pe_lst (pa_cons pe_int (pa_cons (pe_callB (call_isX hz hf) (by rfl) T.b_isinstance (by decide +kernel) (pa_cons (pv 3) (pa_cons (pe_glob (by rfl) T.g_WoodError rfl) pa_nil))) (pa_cons (pe_callB (call_isX hz hf) (by rfl) T.b_isinstance (by decide +kernel) (pa_cons (pv 3) (pa_cons (pe_bltn (v := .ty "ValueError") (by rfl) T.b_ValueError (by decide +kernel) rfl) pa_nil))) (pa_cons (pe_callB (call_isX hz hf) (by rfl) T.b_isinstance (by decide +kernel) (pa_cons (pv 3) (pa_cons (pe_glob (by rfl) T.g_NoSign rfl) pa_nil))) (pa_cons (pe_callH (j := 6) List.mem_cons_self hz hf hbn o_law_others (RoomN.of hr _) (by decide) (by rfl) (pa_cons (pv 3) pa_nil)) pa_nil))))))))) (HdsA.cons (i := 3) (ts := fun a cls d => (tAsg (tLst (tCons (tC (.int 2)) (tCons (tCB (rIsX K cls d a) (tCons (tVar 3) (tCons (tC (.ref (He.ga K "WoodError"))) tNil))) (tCons (tCB (rIsX K cls d a) (tCons (tVar 3) (tCons (tC (.ty "ValueError")) tNil))) (tCons (tCB (rIsX K cls d a) (tCons (tVar 3) (tCons (tC (.ref (He.ga K "TooMany"))) tNil))) (tCons (tCallH (sp_law_others K) a cls d (tCons (tVar 3) tNil)) tNil)))))) (gName 2))) rfl rfl ⟨rfl, by decide, .inl T.g_NoSign⟩ (fun a oe cls d pn hz hf hbn => (pss_one (ps_set (i := 2) sc_law_told.nd rfl (.inl rfl) (pe_lst (pa_cons pe_int (pa_cons (pe_callB (call_isX hz hf) (by rfl) T.b_isinstance (by decide +kernel) (pa_cons (pv 3) (pa_cons (pe_glob (by rfl) T.g_WoodError rfl) pa_nil))) (pa_cons (pe_callB (call_isX hz hf) (by rfl) T.b_isinstance (by decide +kernel) (pa_cons (pv 3) (pa_cons (pe_bltn (v := .ty "ValueError") (by rfl) T.b_ValueError (by decide +kernel) rfl) pa_nil))) (pa_cons (pe_callB (call_isX hz hf) (by rfl) T.b_isinstance (by decide +kernel) (pa_cons (pv 3) (pa_cons (pe_glob (by rfl) T.g_TooMany rfl) pa_nil))) (pa_cons (pe_callH (j := 6) List.mem_cons_self hz hf hbn o_law_others (RoomN.of hr _) (by decide) (by rfl) (pa_cons (pv 3) pa_nil)) pa_nil))))))))) HdsA.nil)))
  (pss_cons (ps_if (PW.pt (pw_and (pt_cmpR (op_eqD hr.units) (pv 2) (pe_lst (pa_cons pe_int pa_nil)) (nomark _)) (pw_and1 (PW.pt (pw_or (pt_not (pt_val (pe_callF o_law_whole hr (by decide) (by rfl) pass0 (pa_cons (pe_ix ix_tup (pe_ix ix_tup (pv 1) pe_int (fun _ _ => rfl)) pe_int (fun _ _ => rfl)) pa_nil)))) (pw_or1 (pt_cmpR op_ne (pe_ix ix_tup (pe_ix ix_tup (pv 1) pe_int (fun _ _ => rfl)) pe_int (fun _ _ => rfl)) (pe_callB call_lenK (by rfl) T.b_len (by decide +kernel) (pa_cons (pv 0) pa_nil)) (nomark _))))))))
  (pss_one (ps_ret (pe_lst (pa_cons pe_int pa_nil))))
  pss_nil)
  (pss_one (ps_ret (pv 2)))))))

theorem ok_law_due (T : Tx P w K mg base) : Okf P w K mg base CX0 1 "_law_due" ["_law_row", "_law_bad"] (sp_law_due K) := by
  obtain ⟨fd, FD⟩ := T.d_law_due
  refine ⟨⟨fd, FunD.look FD, FD.bindsN fun _ _ _ _ _ _ us hl => match us, hl with | [_, _], _ => rfl, ?_⟩, FD.kp, T.g_law_due⟩
  refine FunD.ok (CX := CX0) FD sc_law_due (len_law_due K) (fun cdv A outer s H vs Q E hr h => ⟨t_law_due K, PSs.nox ?_, rd_law_due K vs H Q E h⟩)
  exact (pss_cons (ps_if (pt_cmpR op_gt (pe_callB call_lenK (by rfl) T.b_len (by decide +kernel) (pa_cons (pv 0) pa_nil)) pe_int (nomark _))
  (pss_one (ps_ret (pe_lst (pa_cons pe_int (pa_cons pe_bl (pa_cons pe_bl (pa_cons pe_bl (pa_cons pe_bl pa_nil))))))))
  pss_nil)
  (pss_cons (ps_if (pt_val (pv 1))
  (pss_one (ps_ret (pe_lst (pa_cons pe_int (pa_cons pe_bl (pa_cons pe_bl (pa_cons pe_bl (pa_cons pe_bl pa_nil))))))))
  pss_nil)
  (pss_one (ps_ret (pe_lst (pa_cons pe_int pa_nil))))))

theorem ok_law (T : Tx P w K mg base) (o_law_cell_at : Okf P w K mg base CX0 1 "_law_cell_at" ["_law_script", "_law_k"] (sp_law_cell_at K)) (o_law_told : Okf P w K mg base CX0 7 "_law_told" ["_law_row"] (sp_law_told K)) (o_law_due : Okf P w K mg base CX0 1 "_law_due" ["_law_row", "_law_bad"] (sp_law_due K)) : Okf P w K mg base CX0 8 "law" ["_law_script"] (sp_law K) := by
  obtain ⟨fd, FD⟩ := T.d_law
  refine ⟨⟨fd, FunD.look FD, FD.bindsN fun _ _ _ _ _ _ us hl => match us, hl with | [_], _ => rfl, ?_⟩, FD.kp, T.g_law⟩
  refine FunD.ok (CX := CX0) FD sc_law (len_law K) (fun cdv A outer s H vs Q E hr h => ⟨t_law K, PSs.nox ?_, rd_law K T.fx vs H Q E h⟩)
  exact (pss_cons (ps_setLc (i := 1) (own := [("_law_cell", 2)]) (g := (gName 2)) (tt := tYes) rfl sc_law.nd rfl rfl (sw_true rfl rfl rfl (by decide +kernel)) (pi_list (pe_slice sl_list (pv 0) (po_some pe_int) (po_some pe_int))) (blkOk_by (N := ["_law_script", "_law_signs", "_law_cell", "_law_long", "_law_one", "_law_spoilt", "_law_way", "_law_bad", "_law_far", "_law_handed"]) (sc := defScope s_law) (own := [("_law_cell", 2)]) (by decide +kernel)) (fun _ _ _ _ _ => (pg_name (i := 2) sc_law.nd rfl (.inl rfl))) (fun _ _ _ _ _ => pts_nil) (fun _ _ _ _ _ => (pe_op op_add (pe_op op_sub (pe_op op_mod (pv 2) (pe_cst (pe_op op_sub (pe_cst (pe_op op_mulW pe_int (pe_cst (pe_op op_pow pe_int pe_int) fun _ _ _ h => ⟨_, _, rfl, rfl, ⟨by decide, by decide, by decide⟩, h⟩)) fun _ _ _ h => ⟨_, _, rfl, rfl, (by unfold CMulW; decide +kernel), h⟩) pe_int) fun _ _ _ h => ⟨_, _, rfl, rfl, h⟩)) (pe_cst (pe_op op_pow pe_int pe_int) fun _ _ _ h => ⟨_, _, rfl, rfl, ⟨by decide, by decide, by decide⟩, h⟩)) pe_int)))
  (pss_cons (ps_set (i := 3) sc_law.nd rfl (.inl rfl) (pe_callF o_law_cell_at hr (by decide) (by rfl) pass0 (pa_cons (pv 0) (pa_cons pe_int pa_nil))))
  (Evl.pss_cut (ps_if (pt_cmpR op_eq (pe_op op_mod (pv 3) pe_int) pe_int (nomark _))
  (pss_cons (ps_set (i := 4) sc_law.nd rfl (.inl rfl) (pe_ix ix_list (pe_lst (pa_cons (pe_cst (pe_op op_sub (pe_cst (pe_op op_pow pe_int pe_int) fun _ _ _ h => ⟨_, _, rfl, rfl, ⟨by decide, by decide, by decide⟩, h⟩) pe_int) fun _ _ _ h => ⟨_, _, rfl, rfl, h⟩) (pa_cons (pe_cst (pe_op op_sub pe_int (pe_cst (pe_op op_pow pe_int pe_int) fun _ _ _ h => ⟨_, _, rfl, rfl, ⟨by decide, by decide, by decide⟩, h⟩)) fun _ _ _ h => ⟨_, _, rfl, rfl, h⟩) (pa_cons (pe_op op_mod (pe_op op_fdiv (pv 3) pe_int) (pe_cst (pe_op op_pow pe_int pe_int) fun _ _ _ h => ⟨_, _, rfl, rfl, ⟨by decide, by decide, by decide⟩, h⟩)) pa_nil)))) (pe_op op_mod (pe_op op_fdiv (pv 3) pe_int) pe_int) (fun _ _ => rfl)))
  (pss_cons (ps_set (i := 1) sc_law.nd rfl (.inl rfl) (pe_op op_rep (pe_lst (pa_cons (pv 4) pa_nil)) (pe_op op_add pe_int (pe_op op_mod (pe_op op_fdiv (pv 3) pe_int) pe_int))))
  (pss_one (ps_asg (pe_op op_mod (pe_callF o_law_cell_at hr (by decide) (by rfl) pass0 (pa_cons (pv 0) (pa_cons pe_int pa_nil))) (pe_cst (pe_op op_pow pe_int pe_int) fun _ _ _ h => ⟨_, _, rfl, rfl, ⟨by decide, by decide, by decide⟩, h⟩)) (pg_sub (pv 1) (pe_op op_mod (pe_callF o_law_cell_at hr (by decide) (by rfl) pass0 (pa_cons (pv 0) (pa_cons pe_int pa_nil))) (pe_callB call_lenK (by rfl) T.b_len (by decide +kernel) (pa_cons (pv 1) pa_nil))) set_list)))))
  pss_nil)
  (pss_cons (ps_set (i := 5) sc_law.nd rfl (.inl rfl) (pe_callTy call_listK (by rfl) T.b_list (by decide +kernel) (pa_cons (pv 1) pa_nil)))
  (pss_cons (ps_set (i := 6) sc_law.nd rfl (.inl rfl) (pe_op op_mod (pe_callF o_law_cell_at hr (by decide) (by rfl) pass0 (pa_cons (pv 0) (pa_cons pe_int pa_nil))) pe_int))
  (pss_cons (ps_set (i := 7) sc_law.nd rfl (.inl rfl) (pe_and (pe_cmpR op_eq (pe_op op_mod (pv 6) pe_int) pe_int (nomark _)) (pe_one (pe_cmpR op_gt (pe_callB call_lenK (by rfl) T.b_len (by decide +kernel) (pa_cons (pv 1) pa_nil)) pe_int (nomark _)))))
  (Evl.pss_cut (ps_if (pt_val (pv 7))
  (pss_cons (ps_set (i := 8) sc_law.nd rfl (.inl rfl) (pe_op op_add (pe_cst (pe_op op_pow pe_int pe_int) fun _ _ _ h => ⟨_, _, rfl, rfl, ⟨by decide, by decide, by decide⟩, h⟩) (pe_ix ix_list (pe_lst (pa_cons pe_int (pa_cons (pe_op op_mod (pe_callF o_law_cell_at hr (by decide) (by rfl) pass0 (pa_cons (pv 0) (pa_cons pe_int pa_nil))) (pe_cst (pe_op op_pow pe_int pe_int) fun _ _ _ h => ⟨_, _, rfl, rfl, ⟨by decide, by decide, by decide⟩, h⟩)) pa_nil))) (pe_op op_fdiv (pv 6) pe_int) (fun _ _ => rfl))))
  (pss_one (ps_asg (pe_ix ix_list (pe_lst (pa_cons (pv 8) (pa_cons (pe_op op_sub pe_int (pv 8)) pa_nil))) (pe_op op_mod (pe_op op_fdiv (pv 6) pe_int) pe_int) (fun _ _ => rfl)) (pg_sub (pv 5) (pe_op op_mod (pe_op op_fdiv (pe_callF o_law_cell_at hr (by decide) (by rfl) pass0 (pa_cons (pv 0) (pa_cons pe_int pa_nil))) pe_int) (pe_callB call_lenK (by rfl) T.b_len (by decide +kernel) (pa_cons (pv 1) pa_nil))) set_list))))
  pss_nil)
  (pss_cons (ps_set (i := 9) sc_law.nd rfl (.inl rfl) (pe_callTy call_listK (by rfl) T.b_list (by decide +kernel) (pa_cons (pv 5) pa_nil)))
  (pss_cons (ps_if (PW.pt (pw_or (pt_cmpR (op_neD hr.units) (pe_callF o_law_told hr (by decide) (by rfl) pass0 (pa_cons (pv 9) pa_nil)) (pe_callF o_law_due hr (by decide) (by rfl) pass0 (pa_cons (pv 5) (pa_cons (pv 7) pa_nil))) (nomark _)) (pw_or1 (pt_cmpR (op_neD hr.units) (pv 9) (pv 5) (nomark _)))))
  (pss_one (ps_ret pe_bl))
  pss_nil)
  (pss_one (ps_ret (pe_or (pe_not (pv 7)) (pe_one (pe_cmpR (op_eqD hr.units) (pe_callF o_law_told hr (by decide) (by rfl) pass0 (pa_cons (pe_callTy call_listK (by rfl) T.b_list (by decide +kernel) (pa_cons (pv 1) pa_nil)) pa_nil)) (pe_callF o_law_due hr (by decide) (by rfl) pass0 (pa_cons (pv 1) (pa_cons pe_bl pa_nil))) (nomark _)))))))))))))))
end
def dd_packed : He.DefD := ⟨("packed", none), "packed", "packed", defArgs s_packed, defBody s_packed, defScope s_packed, [], []⟩
def dd_ones_in : He.DefD := ⟨("ones_in", none), "ones_in", "ones_in", defArgs s_ones_in, defBody s_ones_in, defScope s_ones_in, [], []⟩
def dd_ones_table : He.DefD := ⟨("ones_table", none), "ones_table", "ones_table", defArgs s_ones_table, defBody s_ones_table, defScope s_ones_table, [], []⟩
def dd_kept_row : He.DefD := ⟨("kept_row", none), "kept_row", "kept_row", defArgs s_kept_row, defBody s_kept_row, defScope s_kept_row, [], []⟩
def dd_levels_for : He.DefD := ⟨("levels_for", none), "levels_for", "levels_for", defArgs s_levels_for, defBody s_levels_for, defScope s_levels_for, [], []⟩
def dd_kept_signs : He.DefD := ⟨("kept_signs", none), "kept_signs", "kept_signs", defArgs s_kept_signs, defBody s_kept_signs, defScope s_kept_signs, [], []⟩
def dd_law_cell_at : He.DefD := ⟨("_law_cell_at", none), "_law_cell_at", "_law_cell_at", defArgs s_law_cell_at, defBody s_law_cell_at, defScope s_law_cell_at, [], []⟩
def dd_law_whole : He.DefD := ⟨("_law_whole", none), "_law_whole", "_law_whole", defArgs s_law_whole, defBody s_law_whole, defScope s_law_whole, [], []⟩
def dd_law_others : He.DefD := ⟨("_law_others", none), "_law_others", "_law_others", defArgs s_law_others, defBody s_law_others, defScope s_law_others, [], []⟩
def dd_law_told : He.DefD := ⟨("_law_told", none), "_law_told", "_law_told", defArgs s_law_told, defBody s_law_told, defScope s_law_told, [], []⟩
def dd_law_due : He.DefD := ⟨("_law_due", none), "_law_due", "_law_due", defArgs s_law_due, defBody s_law_due, defScope s_law_due, [], []⟩
def dd_law : He.DefD := ⟨("law", none), "law", "law", defArgs s_law, defBody s_law, defScope s_law, [], []⟩
def fnL : List He.DefD := [dd_packed, dd_ones_in, dd_ones_table, dd_kept_row, dd_levels_for, dd_kept_signs, dd_law_cell_at, dd_law_whole, dd_law_others, dd_law_told, dd_law_due, dd_law]
def fxL : List Fx := [.excC "NoBit", .kitT "NoBit" "ValueError" true, .kit "NoBit" "NoBit" true, .exm "NoBit" "NoBit" true, .kit "NoBit" "NoNode" false, .exm "NoBit" "NoNode" false, .kit "NoBit" "NoOctets" false, .exm "NoBit" "NoOctets" false, .kit "NoBit" "NoPlace" false, .exm "NoBit" "NoPlace" false, .kit "NoBit" "NoSign" false, .exm "NoBit" "NoSign" false, .kit "NoBit" "NoTree" false, .exm "NoBit" "NoTree" false, .kit "NoBit" "NoWord" false, .exm "NoBit" "NoWord" false, .kit "NoBit" "TooMany" false, .exm "NoBit" "TooMany" false, .kit "NoBit" "Twice" false, .exm "NoBit" "Twice" false, .kit "NoBit" "WoodError" true, .exm "NoBit" "WoodError" true, .excC "NoNode", .kitT "NoNode" "ValueError" true, .kit "NoNode" "NoBit" false, .exm "NoNode" "NoBit" false, .kit "NoNode" "NoNode" true, .exm "NoNode" "NoNode" true, .kit "NoNode" "NoOctets" false, .exm "NoNode" "NoOctets" false, .kit "NoNode" "NoPlace" false, .exm "NoNode" "NoPlace" false, .kit "NoNode" "NoSign" false, .exm "NoNode" "NoSign" false, .kit "NoNode" "NoTree" false, .exm "NoNode" "NoTree" false, .kit "NoNode" "NoWord" false, .exm "NoNode" "NoWord" false, .kit "NoNode" "TooMany" false, .exm "NoNode" "TooMany" false, .kit "NoNode" "Twice" false, .exm "NoNode" "Twice" false, .kit "NoNode" "WoodError" true, .exm "NoNode" "WoodError" true, .excC "NoOctets", .kitT "NoOctets" "ValueError" true, .kit "NoOctets" "NoBit" false, .exm "NoOctets" "NoBit" false, .kit "NoOctets" "NoNode" false, .exm "NoOctets" "NoNode" false, .kit "NoOctets" "NoOctets" true, .exm "NoOctets" "NoOctets" true, .kit "NoOctets" "NoPlace" false, .exm "NoOctets" "NoPlace" false, .kit "NoOctets" "NoSign" false, .exm "NoOctets" "NoSign" false, .kit "NoOctets" "NoTree" false, .exm "NoOctets" "NoTree" false, .kit "NoOctets" "NoWord" false, .exm "NoOctets" "NoWord" false, .kit "NoOctets" "TooMany" false, .exm "NoOctets" "TooMany" false, .kit "NoOctets" "Twice" false, .exm "NoOctets" "Twice" false, .kit "NoOctets" "WoodError" true, .exm "NoOctets" "WoodError" true, .excC "NoPlace", .kitT "NoPlace" "ValueError" true, .kit "NoPlace" "NoBit" false, .exm "NoPlace" "NoBit" false, .kit "NoPlace" "NoNode" false, .exm "NoPlace" "NoNode" false, .kit "NoPlace" "NoOctets" false, .exm "NoPlace" "NoOctets" false, .kit "NoPlace" "NoPlace" true, .exm "NoPlace" "NoPlace" true, .kit "NoPlace" "NoSign" false, .exm "NoPlace" "NoSign" false, .kit "NoPlace" "NoTree" false, .exm "NoPlace" "NoTree" false, .kit "NoPlace" "NoWord" false, .exm "NoPlace" "NoWord" false, .kit "NoPlace" "TooMany" false, .exm "NoPlace" "TooMany" false, .kit "NoPlace" "Twice" false, .exm "NoPlace" "Twice" false, .kit "NoPlace" "WoodError" true, .exm "NoPlace" "WoodError" true, .excC "NoSign", .kitT "NoSign" "ValueError" true, .kit "NoSign" "NoBit" false, .exm "NoSign" "NoBit" false, .kit "NoSign" "NoNode" false, .exm "NoSign" "NoNode" false, .kit "NoSign" "NoOctets" false, .exm "NoSign" "NoOctets" false, .kit "NoSign" "NoPlace" false, .exm "NoSign" "NoPlace" false, .kit "NoSign" "NoSign" true, .exm "NoSign" "NoSign" true, .kit "NoSign" "NoTree" false, .exm "NoSign" "NoTree" false, .kit "NoSign" "NoWord" false, .exm "NoSign" "NoWord" false, .kit "NoSign" "TooMany" false, .exm "NoSign" "TooMany" false, .kit "NoSign" "Twice" false, .exm "NoSign" "Twice" false, .kit "NoSign" "WoodError" true, .exm "NoSign" "WoodError" true, .excC "NoTree", .kitT "NoTree" "ValueError" true, .kit "NoTree" "NoBit" false, .exm "NoTree" "NoBit" false, .kit "NoTree" "NoNode" false, .exm "NoTree" "NoNode" false, .kit "NoTree" "NoOctets" false, .exm "NoTree" "NoOctets" false, .kit "NoTree" "NoPlace" false, .exm "NoTree" "NoPlace" false, .kit "NoTree" "NoSign" false, .exm "NoTree" "NoSign" false, .kit "NoTree" "NoTree" true, .exm "NoTree" "NoTree" true, .kit "NoTree" "NoWord" false, .exm "NoTree" "NoWord" false, .kit "NoTree" "TooMany" false, .exm "NoTree" "TooMany" false, .kit "NoTree" "Twice" false, .exm "NoTree" "Twice" false, .kit "NoTree" "WoodError" true, .exm "NoTree" "WoodError" true, .excC "NoWord", .kitT "NoWord" "ValueError" true, .kit "NoWord" "NoBit" false, .exm "NoWord" "NoBit" false, .kit "NoWord" "NoNode" false, .exm "NoWord" "NoNode" false, .kit "NoWord" "NoOctets" false, .exm "NoWord" "NoOctets" false, .kit "NoWord" "NoPlace" false, .exm "NoWord" "NoPlace" false, .kit "NoWord" "NoSign" false, .exm "NoWord" "NoSign" false, .kit "NoWord" "NoTree" false, .exm "NoWord" "NoTree" false, .kit "NoWord" "NoWord" true, .exm "NoWord" "NoWord" true, .kit "NoWord" "TooMany" false, .exm "NoWord" "TooMany" false, .kit "NoWord" "Twice" false, .exm "NoWord" "Twice" false, .kit "NoWord" "WoodError" true, .exm "NoWord" "WoodError" true, .excC "TooMany", .kitT "TooMany" "ValueError" true, .kit "TooMany" "NoBit" false, .exm "TooMany" "NoBit" false, .kit "TooMany" "NoNode" false, .exm "TooMany" "NoNode" false, .kit "TooMany" "NoOctets" false, .exm "TooMany" "NoOctets" false, .kit "TooMany" "NoPlace" false, .exm "TooMany" "NoPlace" false, .kit "TooMany" "NoSign" false, .exm "TooMany" "NoSign" false, .kit "TooMany" "NoTree" false, .exm "TooMany" "NoTree" false, .kit "TooMany" "NoWord" false, .exm "TooMany" "NoWord" false, .kit "TooMany" "TooMany" true, .exm "TooMany" "TooMany" true, .kit "TooMany" "Twice" false, .exm "TooMany" "Twice" false, .kit "TooMany" "WoodError" true, .exm "TooMany" "WoodError" true, .excC "Twice", .kitT "Twice" "ValueError" true, .kit "Twice" "NoBit" false, .exm "Twice" "NoBit" false, .kit "Twice" "NoNode" false, .exm "Twice" "NoNode" false, .kit "Twice" "NoOctets" false, .exm "Twice" "NoOctets" false, .kit "Twice" "NoPlace" false, .exm "Twice" "NoPlace" false, .kit "Twice" "NoSign" false, .exm "Twice" "NoSign" false, .kit "Twice" "NoTree" false, .exm "Twice" "NoTree" false, .kit "Twice" "NoWord" false, .exm "Twice" "NoWord" false, .kit "Twice" "TooMany" false, .exm "Twice" "TooMany" false, .kit "Twice" "Twice" true, .exm "Twice" "Twice" true, .kit "Twice" "WoodError" true, .exm "Twice" "WoodError" true, .excC "WoodError", .kitT "WoodError" "ValueError" true, .kit "WoodError" "NoBit" false, .exm "WoodError" "NoBit" false, .kit "WoodError" "NoNode" false, .exm "WoodError" "NoNode" false, .kit "WoodError" "NoOctets" false, .exm "WoodError" "NoOctets" false, .kit "WoodError" "NoPlace" false, .exm "WoodError" "NoPlace" false, .kit "WoodError" "NoSign" false, .exm "WoodError" "NoSign" false, .kit "WoodError" "NoTree" false, .exm "WoodError" "NoTree" false, .kit "WoodError" "NoWord" false, .exm "WoodError" "NoWord" false, .kit "WoodError" "TooMany" false, .exm "WoodError" "TooMany" false, .kit "WoodError" "Twice" false, .exm "WoodError" "Twice" false, .kit "WoodError" "WoodError" true, .exm "WoodError" "WoodError" true]
def faL : List He.Fa := [.glo "packed", .glo "ones_in", .glo "ones_table", .glo "kept_row", .glo "levels_for", .glo "kept_signs", .glo "_law_cell_at", .glo "_law_whole", .glo "_law_others", .glo "_law_told", .glo "_law_due", .glo "law", .free "ValueError", .free "bool", .free "enumerate", .free "int", .free "isinstance", .free "len", .free "list", .free "range", .free "reversed", .free "set", .free "sorted", .free "sum", .free "tuple", .int "FAR" 1000000000000000000000000000000000000000000000000000000000000, .int "MOST" 4096, .int "WIDE" 32, .exc "NoBit", .exc "NoNode", .exc "NoOctets", .exc "NoPlace", .exc "NoSign", .exc "NoTree", .exc "NoWord", .exc "TooMany", .exc "Twice", .exc "WoodError", .glo "NoBit", .glo "NoNode", .glo "NoOctets", .glo "NoPlace", .glo "NoSign", .glo "NoTree", .glo "NoWord", .glo "TooMany", .glo "Twice", .glo "WoodError"]
abbrev R : PySem.W.OpenRow := PySem.W.OpenLaw.row PySem.Challenge.rw_thinwood_k61_signs_refused
abbrev hk : PySem.W.Hook := hookF 2 faL fnL fxL
def ob (s : PySem.W.SharedT) : AlF := obsFG 2 faL fnL fxL (HandSHeadRun.getT s)
theorem ob_eq (s : PySem.W.SharedT) : ob s = hk.obs s.abs := obsFG_eq (HandSHeadRun.getT_eq s)
def looseL : List PySem.Str := (["WoodError", "TooMany", "NoBit", "NoPlace", "NoNode", "NoTree", "NoSign", "NoWord", "Twice", "NoOctets", "WIDE", "MOST", "packed", "ones_in", "ones_table", "kept_row", "FAR", "levels_for", "kept_signs", "_law_cell_at", "_law_whole", "_law_others", "_law_told", "_law_due"] : List PySem.Str)
theorem run (w : World) : HandSHeadRun.RunEq R (PySem.W.view R.prog [29]) hk ob 20000 looseL w := by
  intro os
  kernel_rfl
theorem tx_of {P : Program} {w : World} {K : PySem.W.Frag} {h : Heap} {mg : Str → Option Value} (X : K.In h) (G : h.Ns mainGlobals mg) (c2 : SaysF faL fnL fxL K) (base : Heap) : Tx P w K mg base :=
  have c := SaysF.d c2
  {
  d_packed := c.def_ 0 (d := dd_packed) rfl
  g_packed := He.glo_ok X G (c.fact 0 (f := .glo "packed") rfl)
  d_ones_in := c.def_ 1 (d := dd_ones_in) rfl
  g_ones_in := He.glo_ok X G (c.fact 1 (f := .glo "ones_in") rfl)
  d_ones_table := c.def_ 2 (d := dd_ones_table) rfl
  g_ones_table := He.glo_ok X G (c.fact 2 (f := .glo "ones_table") rfl)
  d_kept_row := c.def_ 3 (d := dd_kept_row) rfl
  g_kept_row := He.glo_ok X G (c.fact 3 (f := .glo "kept_row") rfl)
  d_levels_for := c.def_ 4 (d := dd_levels_for) rfl
  g_levels_for := He.glo_ok X G (c.fact 4 (f := .glo "levels_for") rfl)
  d_kept_signs := c.def_ 5 (d := dd_kept_signs) rfl
  g_kept_signs := He.glo_ok X G (c.fact 5 (f := .glo "kept_signs") rfl)
  d_law_cell_at := c.def_ 6 (d := dd_law_cell_at) rfl
  g_law_cell_at := He.glo_ok X G (c.fact 6 (f := .glo "_law_cell_at") rfl)
  d_law_whole := c.def_ 7 (d := dd_law_whole) rfl
  g_law_whole := He.glo_ok X G (c.fact 7 (f := .glo "_law_whole") rfl)
  d_law_others := c.def_ 8 (d := dd_law_others) rfl
  g_law_others := He.glo_ok X G (c.fact 8 (f := .glo "_law_others") rfl)
  d_law_told := c.def_ 9 (d := dd_law_told) rfl
  g_law_told := He.glo_ok X G (c.fact 9 (f := .glo "_law_told") rfl)
  d_law_due := c.def_ 10 (d := dd_law_due) rfl
  g_law_due := He.glo_ok X G (c.fact 10 (f := .glo "_law_due") rfl)
  d_law := c.def_ 11 (d := dd_law) rfl
  g_law := He.glo_ok X G (c.fact 11 (f := .glo "law") rfl)
  b_ValueError := He.free_ok X G (c.fact 12 (f := .free "ValueError") rfl)
  b_bool := He.free_ok X G (c.fact 13 (f := .free "bool") rfl)
  b_enumerate := He.free_ok X G (c.fact 14 (f := .free "enumerate") rfl)
  b_int := He.free_ok X G (c.fact 15 (f := .free "int") rfl)
  b_isinstance := He.free_ok X G (c.fact 16 (f := .free "isinstance") rfl)
  b_len := He.free_ok X G (c.fact 17 (f := .free "len") rfl)
  b_list := He.free_ok X G (c.fact 18 (f := .free "list") rfl)
  b_range := He.free_ok X G (c.fact 19 (f := .free "range") rfl)
  b_reversed := He.free_ok X G (c.fact 20 (f := .free "reversed") rfl)
  b_set := He.free_ok X G (c.fact 21 (f := .free "set") rfl)
  b_sorted := He.free_ok X G (c.fact 22 (f := .free "sorted") rfl)
  b_sum := He.free_ok X G (c.fact 23 (f := .free "sum") rfl)
  b_tuple := He.free_ok X G (c.fact 24 (f := .free "tuple") rfl)
  i_FAR := He.int_ok X G (c.fact 25 (f := .int "FAR" 1000000000000000000000000000000000000000000000000000000000000) rfl)
  i_MOST := He.int_ok X G (c.fact 26 (f := .int "MOST" 4096) rfl)
  i_WIDE := He.int_ok X G (c.fact 27 (f := .int "WIDE" 32) rfl)
  x_NoBit := (fun q => ⟨He.glo_ok X G (c.fact 38 (f := .glo "NoBit") rfl), q.1, q.2.1, q.2.2.1, q.2.2.2⟩) (He.exc_ok (c.fact 28 (f := .exc "NoBit") rfl))
  g_NoBit := He.glo_ok X G (c.fact 38 (f := .glo "NoBit") rfl)
  x_NoNode := (fun q => ⟨He.glo_ok X G (c.fact 39 (f := .glo "NoNode") rfl), q.1, q.2.1, q.2.2.1, q.2.2.2⟩) (He.exc_ok (c.fact 29 (f := .exc "NoNode") rfl))
  g_NoNode := He.glo_ok X G (c.fact 39 (f := .glo "NoNode") rfl)
  x_NoOctets := (fun q => ⟨He.glo_ok X G (c.fact 40 (f := .glo "NoOctets") rfl), q.1, q.2.1, q.2.2.1, q.2.2.2⟩) (He.exc_ok (c.fact 30 (f := .exc "NoOctets") rfl))
  g_NoOctets := He.glo_ok X G (c.fact 40 (f := .glo "NoOctets") rfl)
  x_NoPlace := (fun q => ⟨He.glo_ok X G (c.fact 41 (f := .glo "NoPlace") rfl), q.1, q.2.1, q.2.2.1, q.2.2.2⟩) (He.exc_ok (c.fact 31 (f := .exc "NoPlace") rfl))
  g_NoPlace := He.glo_ok X G (c.fact 41 (f := .glo "NoPlace") rfl)
  x_NoSign := (fun q => ⟨He.glo_ok X G (c.fact 42 (f := .glo "NoSign") rfl), q.1, q.2.1, q.2.2.1, q.2.2.2⟩) (He.exc_ok (c.fact 32 (f := .exc "NoSign") rfl))
  g_NoSign := He.glo_ok X G (c.fact 42 (f := .glo "NoSign") rfl)
  x_NoTree := (fun q => ⟨He.glo_ok X G (c.fact 43 (f := .glo "NoTree") rfl), q.1, q.2.1, q.2.2.1, q.2.2.2⟩) (He.exc_ok (c.fact 33 (f := .exc "NoTree") rfl))
  g_NoTree := He.glo_ok X G (c.fact 43 (f := .glo "NoTree") rfl)
  x_NoWord := (fun q => ⟨He.glo_ok X G (c.fact 44 (f := .glo "NoWord") rfl), q.1, q.2.1, q.2.2.1, q.2.2.2⟩) (He.exc_ok (c.fact 34 (f := .exc "NoWord") rfl))
  g_NoWord := He.glo_ok X G (c.fact 44 (f := .glo "NoWord") rfl)
  x_TooMany := (fun q => ⟨He.glo_ok X G (c.fact 45 (f := .glo "TooMany") rfl), q.1, q.2.1, q.2.2.1, q.2.2.2⟩) (He.exc_ok (c.fact 35 (f := .exc "TooMany") rfl))
  g_TooMany := He.glo_ok X G (c.fact 45 (f := .glo "TooMany") rfl)
  x_Twice := (fun q => ⟨He.glo_ok X G (c.fact 46 (f := .glo "Twice") rfl), q.1, q.2.1, q.2.2.1, q.2.2.2⟩) (He.exc_ok (c.fact 36 (f := .exc "Twice") rfl))
  g_Twice := He.glo_ok X G (c.fact 46 (f := .glo "Twice") rfl)
  x_WoodError := (fun q => ⟨He.glo_ok X G (c.fact 47 (f := .glo "WoodError") rfl), q.1, q.2.1, q.2.2.1, q.2.2.2⟩) (He.exc_ok (c.fact 37 (f := .exc "WoodError") rfl))
  g_WoodError := He.glo_ok X G (c.fact 47 (f := .glo "WoodError") rfl)
  fx := {
    ec_NoBit := Fx.excC_ok (SaysF.fx c2 0 (f := .excC "NoBit") rfl)
    kt_NoBit := Fx.kitT_ok (SaysF.fx c2 1 (f := .kitT "NoBit" "ValueError" true) rfl)
    k_NoBit_NoBit := Fx.kit_ok (SaysF.fx c2 2 (f := .kit "NoBit" "NoBit" true) rfl)
    e_NoBit_NoBit := Fx.exm_ok (SaysF.fx c2 3 (f := .exm "NoBit" "NoBit" true) rfl)
    k_NoBit_NoNode := Fx.kit_ok (SaysF.fx c2 4 (f := .kit "NoBit" "NoNode" false) rfl)
    e_NoBit_NoNode := Fx.exm_ok (SaysF.fx c2 5 (f := .exm "NoBit" "NoNode" false) rfl)
    k_NoBit_NoOctets := Fx.kit_ok (SaysF.fx c2 6 (f := .kit "NoBit" "NoOctets" false) rfl)
    e_NoBit_NoOctets := Fx.exm_ok (SaysF.fx c2 7 (f := .exm "NoBit" "NoOctets" false) rfl)
    k_NoBit_NoPlace := Fx.kit_ok (SaysF.fx c2 8 (f := .kit "NoBit" "NoPlace" false) rfl)
    e_NoBit_NoPlace := Fx.exm_ok (SaysF.fx c2 9 (f := .exm "NoBit" "NoPlace" false) rfl)
    k_NoBit_NoSign := Fx.kit_ok (SaysF.fx c2 10 (f := .kit "NoBit" "NoSign" false) rfl)
    e_NoBit_NoSign := Fx.exm_ok (SaysF.fx c2 11 (f := .exm "NoBit" "NoSign" false) rfl)
    k_NoBit_NoTree := Fx.kit_ok (SaysF.fx c2 12 (f := .kit "NoBit" "NoTree" false) rfl)
    e_NoBit_NoTree := Fx.exm_ok (SaysF.fx c2 13 (f := .exm "NoBit" "NoTree" false) rfl)
    k_NoBit_NoWord := Fx.kit_ok (SaysF.fx c2 14 (f := .kit "NoBit" "NoWord" false) rfl)
    e_NoBit_NoWord := Fx.exm_ok (SaysF.fx c2 15 (f := .exm "NoBit" "NoWord" false) rfl)
    k_NoBit_TooMany := Fx.kit_ok (SaysF.fx c2 16 (f := .kit "NoBit" "TooMany" false) rfl)
    e_NoBit_TooMany := Fx.exm_ok (SaysF.fx c2 17 (f := .exm "NoBit" "TooMany" false) rfl)
    k_NoBit_Twice := Fx.kit_ok (SaysF.fx c2 18 (f := .kit "NoBit" "Twice" false) rfl)
    e_NoBit_Twice := Fx.exm_ok (SaysF.fx c2 19 (f := .exm "NoBit" "Twice" false) rfl)
    k_NoBit_WoodError := Fx.kit_ok (SaysF.fx c2 20 (f := .kit "NoBit" "WoodError" true) rfl)
    e_NoBit_WoodError := Fx.exm_ok (SaysF.fx c2 21 (f := .exm "NoBit" "WoodError" true) rfl)
    ec_NoNode := Fx.excC_ok (SaysF.fx c2 22 (f := .excC "NoNode") rfl)
    kt_NoNode := Fx.kitT_ok (SaysF.fx c2 23 (f := .kitT "NoNode" "ValueError" true) rfl)
    k_NoNode_NoBit := Fx.kit_ok (SaysF.fx c2 24 (f := .kit "NoNode" "NoBit" false) rfl)
    e_NoNode_NoBit := Fx.exm_ok (SaysF.fx c2 25 (f := .exm "NoNode" "NoBit" false) rfl)
    k_NoNode_NoNode := Fx.kit_ok (SaysF.fx c2 26 (f := .kit "NoNode" "NoNode" true) rfl)
    e_NoNode_NoNode := Fx.exm_ok (SaysF.fx c2 27 (f := .exm "NoNode" "NoNode" true) rfl)
    k_NoNode_NoOctets := Fx.kit_ok (SaysF.fx c2 28 (f := .kit "NoNode" "NoOctets" false) rfl)
    e_NoNode_NoOctets := Fx.exm_ok (SaysF.fx c2 29 (f := .exm "NoNode" "NoOctets" false) rfl)
    k_NoNode_NoPlace := Fx.kit_ok (SaysF.fx c2 30 (f := .kit "NoNode" "NoPlace" false) rfl)
    e_NoNode_NoPlace := Fx.exm_ok (SaysF.fx c2 31 (f := .exm "NoNode" "NoPlace" false) rfl)
    k_NoNode_NoSign := Fx.kit_ok (SaysF.fx c2 32 (f := .kit "NoNode" "NoSign" false) rfl)
    e_NoNode_NoSign := Fx.exm_ok (SaysF.fx c2 33 (f := .exm "NoNode" "NoSign" false) rfl)
    k_NoNode_NoTree := Fx.kit_ok (SaysF.fx c2 34 (f := .kit "NoNode" "NoTree" false) rfl)
    e_NoNode_NoTree := Fx.exm_ok (SaysF.fx c2 35 (f := .exm "NoNode" "NoTree" false) rfl)
    k_NoNode_NoWord := Fx.kit_ok (SaysF.fx c2 36 (f := .kit "NoNode" "NoWord" false) rfl)
    e_NoNode_NoWord := Fx.exm_ok (SaysF.fx c2 37 (f := .exm "NoNode" "NoWord" false) rfl)
    k_NoNode_TooMany := Fx.kit_ok (SaysF.fx c2 38 (f := .kit "NoNode" "TooMany" false) rfl)
    e_NoNode_TooMany := Fx.exm_ok (SaysF.fx c2 39 (f := .exm "NoNode" "TooMany" false) rfl)
    k_NoNode_Twice := Fx.kit_ok (SaysF.fx c2 40 (f := .kit "NoNode" "Twice" false) rfl)
    e_NoNode_Twice := Fx.exm_ok (SaysF.fx c2 41 (f := .exm "NoNode" "Twice" false) rfl)
    k_NoNode_WoodError := Fx.kit_ok (SaysF.fx c2 42 (f := .kit "NoNode" "WoodError" true) rfl)
    e_NoNode_WoodError := Fx.exm_ok (SaysF.fx c2 43 (f := .exm "NoNode" "WoodError" true) rfl)
    ec_NoOctets := Fx.excC_ok (SaysF.fx c2 44 (f := .excC "NoOctets") rfl)
    kt_NoOctets := Fx.kitT_ok (SaysF.fx c2 45 (f := .kitT "NoOctets" "ValueError" true) rfl)
    k_NoOctets_NoBit := Fx.kit_ok (SaysF.fx c2 46 (f := .kit "NoOctets" "NoBit" false) rfl)
    e_NoOctets_NoBit := Fx.exm_ok (SaysF.fx c2 47 (f := .exm "NoOctets" "NoBit" false) rfl)
    k_NoOctets_NoNode := Fx.kit_ok (SaysF.fx c2 48 (f := .kit "NoOctets" "NoNode" false) rfl)
    e_NoOctets_NoNode := Fx.exm_ok (SaysF.fx c2 49 (f := .exm "NoOctets" "NoNode" false) rfl)
    k_NoOctets_NoOctets := Fx.kit_ok (SaysF.fx c2 50 (f := .kit "NoOctets" "NoOctets" true) rfl)
    e_NoOctets_NoOctets := Fx.exm_ok (SaysF.fx c2 51 (f := .exm "NoOctets" "NoOctets" true) rfl)
    k_NoOctets_NoPlace := Fx.kit_ok (SaysF.fx c2 52 (f := .kit "NoOctets" "NoPlace" false) rfl)
    e_NoOctets_NoPlace := Fx.exm_ok (SaysF.fx c2 53 (f := .exm "NoOctets" "NoPlace" false) rfl)
    k_NoOctets_NoSign := Fx.kit_ok (SaysF.fx c2 54 (f := .kit "NoOctets" "NoSign" false) rfl)
    e_NoOctets_NoSign := Fx.exm_ok (SaysF.fx c2 55 (f := .exm "NoOctets" "NoSign" false) rfl)
    k_NoOctets_NoTree := Fx.kit_ok (SaysF.fx c2 56 (f := .kit "NoOctets" "NoTree" false) rfl)
    e_NoOctets_NoTree := Fx.exm_ok (SaysF.fx c2 57 (f := .exm "NoOctets" "NoTree" false) rfl)
    k_NoOctets_NoWord := Fx.kit_ok (SaysF.fx c2 58 (f := .kit "NoOctets" "NoWord" false) rfl)
    e_NoOctets_NoWord := Fx.exm_ok (SaysF.fx c2 59 (f := .exm "NoOctets" "NoWord" false) rfl)
    k_NoOctets_TooMany := Fx.kit_ok (SaysF.fx c2 60 (f := .kit "NoOctets" "TooMany" false) rfl)
    e_NoOctets_TooMany := Fx.exm_ok (SaysF.fx c2 61 (f := .exm "NoOctets" "TooMany" false) rfl)
    k_NoOctets_Twice := Fx.kit_ok (SaysF.fx c2 62 (f := .kit "NoOctets" "Twice" false) rfl)
    e_NoOctets_Twice := Fx.exm_ok (SaysF.fx c2 63 (f := .exm "NoOctets" "Twice" false) rfl)
    k_NoOctets_WoodError := Fx.kit_ok (SaysF.fx c2 64 (f := .kit "NoOctets" "WoodError" true) rfl)
    e_NoOctets_WoodError := Fx.exm_ok (SaysF.fx c2 65 (f := .exm "NoOctets" "WoodError" true) rfl)
    ec_NoPlace := Fx.excC_ok (SaysF.fx c2 66 (f := .excC "NoPlace") rfl)
    kt_NoPlace := Fx.kitT_ok (SaysF.fx c2 67 (f := .kitT "NoPlace" "ValueError" true) rfl)
    k_NoPlace_NoBit := Fx.kit_ok (SaysF.fx c2 68 (f := .kit "NoPlace" "NoBit" false) rfl)
    e_NoPlace_NoBit := Fx.exm_ok (SaysF.fx c2 69 (f := .exm "NoPlace" "NoBit" false) rfl)
    k_NoPlace_NoNode := Fx.kit_ok (SaysF.fx c2 70 (f := .kit "NoPlace" "NoNode" false) rfl)
    e_NoPlace_NoNode := Fx.exm_ok (SaysF.fx c2 71 (f := .exm "NoPlace" "NoNode" false) rfl)
    k_NoPlace_NoOctets := Fx.kit_ok (SaysF.fx c2 72 (f := .kit "NoPlace" "NoOctets" false) rfl)
    e_NoPlace_NoOctets := Fx.exm_ok (SaysF.fx c2 73 (f := .exm "NoPlace" "NoOctets" false) rfl)
    k_NoPlace_NoPlace := Fx.kit_ok (SaysF.fx c2 74 (f := .kit "NoPlace" "NoPlace" true) rfl)
    e_NoPlace_NoPlace := Fx.exm_ok (SaysF.fx c2 75 (f := .exm "NoPlace" "NoPlace" true) rfl)
    k_NoPlace_NoSign := Fx.kit_ok (SaysF.fx c2 76 (f := .kit "NoPlace" "NoSign" false) rfl)
    e_NoPlace_NoSign := Fx.exm_ok (SaysF.fx c2 77 (f := .exm "NoPlace" "NoSign" false) rfl)
    k_NoPlace_NoTree := Fx.kit_ok (SaysF.fx c2 78 (f := .kit "NoPlace" "NoTree" false) rfl)
    e_NoPlace_NoTree := Fx.exm_ok (SaysF.fx c2 79 (f := .exm "NoPlace" "NoTree" false) rfl)
    k_NoPlace_NoWord := Fx.kit_ok (SaysF.fx c2 80 (f := .kit "NoPlace" "NoWord" false) rfl)
    e_NoPlace_NoWord := Fx.exm_ok (SaysF.fx c2 81 (f := .exm "NoPlace" "NoWord" false) rfl)
    k_NoPlace_TooMany := Fx.kit_ok (SaysF.fx c2 82 (f := .kit "NoPlace" "TooMany" false) rfl)
    e_NoPlace_TooMany := Fx.exm_ok (SaysF.fx c2 83 (f := .exm "NoPlace" "TooMany" false) rfl)
    k_NoPlace_Twice := Fx.kit_ok (SaysF.fx c2 84 (f := .kit "NoPlace" "Twice" false) rfl)
    e_NoPlace_Twice := Fx.exm_ok (SaysF.fx c2 85 (f := .exm "NoPlace" "Twice" false) rfl)
    k_NoPlace_WoodError := Fx.kit_ok (SaysF.fx c2 86 (f := .kit "NoPlace" "WoodError" true) rfl)
    e_NoPlace_WoodError := Fx.exm_ok (SaysF.fx c2 87 (f := .exm "NoPlace" "WoodError" true) rfl)
    ec_NoSign := Fx.excC_ok (SaysF.fx c2 88 (f := .excC "NoSign") rfl)
    kt_NoSign := Fx.kitT_ok (SaysF.fx c2 89 (f := .kitT "NoSign" "ValueError" true) rfl)
    k_NoSign_NoBit := Fx.kit_ok (SaysF.fx c2 90 (f := .kit "NoSign" "NoBit" false) rfl)
    e_NoSign_NoBit := Fx.exm_ok (SaysF.fx c2 91 (f := .exm "NoSign" "NoBit" false) rfl)
    k_NoSign_NoNode := Fx.kit_ok (SaysF.fx c2 92 (f := .kit "NoSign" "NoNode" false) rfl)
    e_NoSign_NoNode := Fx.exm_ok (SaysF.fx c2 93 (f := .exm "NoSign" "NoNode" false) rfl)
    k_NoSign_NoOctets := Fx.kit_ok (SaysF.fx c2 94 (f := .kit "NoSign" "NoOctets" false) rfl)
    e_NoSign_NoOctets := Fx.exm_ok (SaysF.fx c2 95 (f := .exm "NoSign" "NoOctets" false) rfl)
    k_NoSign_NoPlace := Fx.kit_ok (SaysF.fx c2 96 (f := .kit "NoSign" "NoPlace" false) rfl)
    e_NoSign_NoPlace := Fx.exm_ok (SaysF.fx c2 97 (f := .exm "NoSign" "NoPlace" false) rfl)
    k_NoSign_NoSign := Fx.kit_ok (SaysF.fx c2 98 (f := .kit "NoSign" "NoSign" true) rfl)
    e_NoSign_NoSign := Fx.exm_ok (SaysF.fx c2 99 (f := .exm "NoSign" "NoSign" true) rfl)
    k_NoSign_NoTree := Fx.kit_ok (SaysF.fx c2 100 (f := .kit "NoSign" "NoTree" false) rfl)
    e_NoSign_NoTree := Fx.exm_ok (SaysF.fx c2 101 (f := .exm "NoSign" "NoTree" false) rfl)
    k_NoSign_NoWord := Fx.kit_ok (SaysF.fx c2 102 (f := .kit "NoSign" "NoWord" false) rfl)
    e_NoSign_NoWord := Fx.exm_ok (SaysF.fx c2 103 (f := .exm "NoSign" "NoWord" false) rfl)
    k_NoSign_TooMany := Fx.kit_ok (SaysF.fx c2 104 (f := .kit "NoSign" "TooMany" false) rfl)
    e_NoSign_TooMany := Fx.exm_ok (SaysF.fx c2 105 (f := .exm "NoSign" "TooMany" false) rfl)
    k_NoSign_Twice := Fx.kit_ok (SaysF.fx c2 106 (f := .kit "NoSign" "Twice" false) rfl)
    e_NoSign_Twice := Fx.exm_ok (SaysF.fx c2 107 (f := .exm "NoSign" "Twice" false) rfl)
    k_NoSign_WoodError := Fx.kit_ok (SaysF.fx c2 108 (f := .kit "NoSign" "WoodError" true) rfl)
    e_NoSign_WoodError := Fx.exm_ok (SaysF.fx c2 109 (f := .exm "NoSign" "WoodError" true) rfl)
    ec_NoTree := Fx.excC_ok (SaysF.fx c2 110 (f := .excC "NoTree") rfl)
    kt_NoTree := Fx.kitT_ok (SaysF.fx c2 111 (f := .kitT "NoTree" "ValueError" true) rfl)
    k_NoTree_NoBit := Fx.kit_ok (SaysF.fx c2 112 (f := .kit "NoTree" "NoBit" false) rfl)
    e_NoTree_NoBit := Fx.exm_ok (SaysF.fx c2 113 (f := .exm "NoTree" "NoBit" false) rfl)
    k_NoTree_NoNode := Fx.kit_ok (SaysF.fx c2 114 (f := .kit "NoTree" "NoNode" false) rfl)
    e_NoTree_NoNode := Fx.exm_ok (SaysF.fx c2 115 (f := .exm "NoTree" "NoNode" false) rfl)
    k_NoTree_NoOctets := Fx.kit_ok (SaysF.fx c2 116 (f := .kit "NoTree" "NoOctets" false) rfl)
    e_NoTree_NoOctets := Fx.exm_ok (SaysF.fx c2 117 (f := .exm "NoTree" "NoOctets" false) rfl)
    k_NoTree_NoPlace := Fx.kit_ok (SaysF.fx c2 118 (f := .kit "NoTree" "NoPlace" false) rfl)
    e_NoTree_NoPlace := Fx.exm_ok (SaysF.fx c2 119 (f := .exm "NoTree" "NoPlace" false) rfl)
    k_NoTree_NoSign := Fx.kit_ok (SaysF.fx c2 120 (f := .kit "NoTree" "NoSign" false) rfl)
    e_NoTree_NoSign := Fx.exm_ok (SaysF.fx c2 121 (f := .exm "NoTree" "NoSign" false) rfl)
    k_NoTree_NoTree := Fx.kit_ok (SaysF.fx c2 122 (f := .kit "NoTree" "NoTree" true) rfl)
    e_NoTree_NoTree := Fx.exm_ok (SaysF.fx c2 123 (f := .exm "NoTree" "NoTree" true) rfl)
    k_NoTree_NoWord := Fx.kit_ok (SaysF.fx c2 124 (f := .kit "NoTree" "NoWord" false) rfl)
    e_NoTree_NoWord := Fx.exm_ok (SaysF.fx c2 125 (f := .exm "NoTree" "NoWord" false) rfl)
    k_NoTree_TooMany := Fx.kit_ok (SaysF.fx c2 126 (f := .kit "NoTree" "TooMany" false) rfl)
    e_NoTree_TooMany := Fx.exm_ok (SaysF.fx c2 127 (f := .exm "NoTree" "TooMany" false) rfl)
    k_NoTree_Twice := Fx.kit_ok (SaysF.fx c2 128 (f := .kit "NoTree" "Twice" false) rfl)
    e_NoTree_Twice := Fx.exm_ok (SaysF.fx c2 129 (f := .exm "NoTree" "Twice" false) rfl)
    k_NoTree_WoodError := Fx.kit_ok (SaysF.fx c2 130 (f := .kit "NoTree" "WoodError" true) rfl)
    e_NoTree_WoodError := Fx.exm_ok (SaysF.fx c2 131 (f := .exm "NoTree" "WoodError" true) rfl)
    ec_NoWord := Fx.excC_ok (SaysF.fx c2 132 (f := .excC "NoWord") rfl)
    kt_NoWord := Fx.kitT_ok (SaysF.fx c2 133 (f := .kitT "NoWord" "ValueError" true) rfl)
    k_NoWord_NoBit := Fx.kit_ok (SaysF.fx c2 134 (f := .kit "NoWord" "NoBit" false) rfl)
    e_NoWord_NoBit := Fx.exm_ok (SaysF.fx c2 135 (f := .exm "NoWord" "NoBit" false) rfl)
    k_NoWord_NoNode := Fx.kit_ok (SaysF.fx c2 136 (f := .kit "NoWord" "NoNode" false) rfl)
    e_NoWord_NoNode := Fx.exm_ok (SaysF.fx c2 137 (f := .exm "NoWord" "NoNode" false) rfl)
    k_NoWord_NoOctets := Fx.kit_ok (SaysF.fx c2 138 (f := .kit "NoWord" "NoOctets" false) rfl)
    e_NoWord_NoOctets := Fx.exm_ok (SaysF.fx c2 139 (f := .exm "NoWord" "NoOctets" false) rfl)
    k_NoWord_NoPlace := Fx.kit_ok (SaysF.fx c2 140 (f := .kit "NoWord" "NoPlace" false) rfl)
    e_NoWord_NoPlace := Fx.exm_ok (SaysF.fx c2 141 (f := .exm "NoWord" "NoPlace" false) rfl)
    k_NoWord_NoSign := Fx.kit_ok (SaysF.fx c2 142 (f := .kit "NoWord" "NoSign" false) rfl)
    e_NoWord_NoSign := Fx.exm_ok (SaysF.fx c2 143 (f := .exm "NoWord" "NoSign" false) rfl)
    k_NoWord_NoTree := Fx.kit_ok (SaysF.fx c2 144 (f := .kit "NoWord" "NoTree" false) rfl)
    e_NoWord_NoTree := Fx.exm_ok (SaysF.fx c2 145 (f := .exm "NoWord" "NoTree" false) rfl)
    k_NoWord_NoWord := Fx.kit_ok (SaysF.fx c2 146 (f := .kit "NoWord" "NoWord" true) rfl)
    e_NoWord_NoWord := Fx.exm_ok (SaysF.fx c2 147 (f := .exm "NoWord" "NoWord" true) rfl)
    k_NoWord_TooMany := Fx.kit_ok (SaysF.fx c2 148 (f := .kit "NoWord" "TooMany" false) rfl)
    e_NoWord_TooMany := Fx.exm_ok (SaysF.fx c2 149 (f := .exm "NoWord" "TooMany" false) rfl)
    k_NoWord_Twice := Fx.kit_ok (SaysF.fx c2 150 (f := .kit "NoWord" "Twice" false) rfl)
    e_NoWord_Twice := Fx.exm_ok (SaysF.fx c2 151 (f := .exm "NoWord" "Twice" false) rfl)
    k_NoWord_WoodError := Fx.kit_ok (SaysF.fx c2 152 (f := .kit "NoWord" "WoodError" true) rfl)
    e_NoWord_WoodError := Fx.exm_ok (SaysF.fx c2 153 (f := .exm "NoWord" "WoodError" true) rfl)
    ec_TooMany := Fx.excC_ok (SaysF.fx c2 154 (f := .excC "TooMany") rfl)
    kt_TooMany := Fx.kitT_ok (SaysF.fx c2 155 (f := .kitT "TooMany" "ValueError" true) rfl)
    k_TooMany_NoBit := Fx.kit_ok (SaysF.fx c2 156 (f := .kit "TooMany" "NoBit" false) rfl)
    e_TooMany_NoBit := Fx.exm_ok (SaysF.fx c2 157 (f := .exm "TooMany" "NoBit" false) rfl)
    k_TooMany_NoNode := Fx.kit_ok (SaysF.fx c2 158 (f := .kit "TooMany" "NoNode" false) rfl)
    e_TooMany_NoNode := Fx.exm_ok (SaysF.fx c2 159 (f := .exm "TooMany" "NoNode" false) rfl)
    k_TooMany_NoOctets := Fx.kit_ok (SaysF.fx c2 160 (f := .kit "TooMany" "NoOctets" false) rfl)
    e_TooMany_NoOctets := Fx.exm_ok (SaysF.fx c2 161 (f := .exm "TooMany" "NoOctets" false) rfl)
    k_TooMany_NoPlace := Fx.kit_ok (SaysF.fx c2 162 (f := .kit "TooMany" "NoPlace" false) rfl)
    e_TooMany_NoPlace := Fx.exm_ok (SaysF.fx c2 163 (f := .exm "TooMany" "NoPlace" false) rfl)
    k_TooMany_NoSign := Fx.kit_ok (SaysF.fx c2 164 (f := .kit "TooMany" "NoSign" false) rfl)
    e_TooMany_NoSign := Fx.exm_ok (SaysF.fx c2 165 (f := .exm "TooMany" "NoSign" false) rfl)
    k_TooMany_NoTree := Fx.kit_ok (SaysF.fx c2 166 (f := .kit "TooMany" "NoTree" false) rfl)
    e_TooMany_NoTree := Fx.exm_ok (SaysF.fx c2 167 (f := .exm "TooMany" "NoTree" false) rfl)
    k_TooMany_NoWord := Fx.kit_ok (SaysF.fx c2 168 (f := .kit "TooMany" "NoWord" false) rfl)
    e_TooMany_NoWord := Fx.exm_ok (SaysF.fx c2 169 (f := .exm "TooMany" "NoWord" false) rfl)
    k_TooMany_TooMany := Fx.kit_ok (SaysF.fx c2 170 (f := .kit "TooMany" "TooMany" true) rfl)
    e_TooMany_TooMany := Fx.exm_ok (SaysF.fx c2 171 (f := .exm "TooMany" "TooMany" true) rfl)
    k_TooMany_Twice := Fx.kit_ok (SaysF.fx c2 172 (f := .kit "TooMany" "Twice" false) rfl)
    e_TooMany_Twice := Fx.exm_ok (SaysF.fx c2 173 (f := .exm "TooMany" "Twice" false) rfl)
    k_TooMany_WoodError := Fx.kit_ok (SaysF.fx c2 174 (f := .kit "TooMany" "WoodError" true) rfl)
    e_TooMany_WoodError := Fx.exm_ok (SaysF.fx c2 175 (f := .exm "TooMany" "WoodError" true) rfl)
    ec_Twice := Fx.excC_ok (SaysF.fx c2 176 (f := .excC "Twice") rfl)
    kt_Twice := Fx.kitT_ok (SaysF.fx c2 177 (f := .kitT "Twice" "ValueError" true) rfl)
    k_Twice_NoBit := Fx.kit_ok (SaysF.fx c2 178 (f := .kit "Twice" "NoBit" false) rfl)
    e_Twice_NoBit := Fx.exm_ok (SaysF.fx c2 179 (f := .exm "Twice" "NoBit" false) rfl)
    k_Twice_NoNode := Fx.kit_ok (SaysF.fx c2 180 (f := .kit "Twice" "NoNode" false) rfl)
    e_Twice_NoNode := Fx.exm_ok (SaysF.fx c2 181 (f := .exm "Twice" "NoNode" false) rfl)
    k_Twice_NoOctets := Fx.kit_ok (SaysF.fx c2 182 (f := .kit "Twice" "NoOctets" false) rfl)
    e_Twice_NoOctets := Fx.exm_ok (SaysF.fx c2 183 (f := .exm "Twice" "NoOctets" false) rfl)
    k_Twice_NoPlace := Fx.kit_ok (SaysF.fx c2 184 (f := .kit "Twice" "NoPlace" false) rfl)
    e_Twice_NoPlace := Fx.exm_ok (SaysF.fx c2 185 (f := .exm "Twice" "NoPlace" false) rfl)
    k_Twice_NoSign := Fx.kit_ok (SaysF.fx c2 186 (f := .kit "Twice" "NoSign" false) rfl)
    e_Twice_NoSign := Fx.exm_ok (SaysF.fx c2 187 (f := .exm "Twice" "NoSign" false) rfl)
    k_Twice_NoTree := Fx.kit_ok (SaysF.fx c2 188 (f := .kit "Twice" "NoTree" false) rfl)
    e_Twice_NoTree := Fx.exm_ok (SaysF.fx c2 189 (f := .exm "Twice" "NoTree" false) rfl)
    k_Twice_NoWord := Fx.kit_ok (SaysF.fx c2 190 (f := .kit "Twice" "NoWord" false) rfl)
    e_Twice_NoWord := Fx.exm_ok (SaysF.fx c2 191 (f := .exm "Twice" "NoWord" false) rfl)
    k_Twice_TooMany := Fx.kit_ok (SaysF.fx c2 192 (f := .kit "Twice" "TooMany" false) rfl)
    e_Twice_TooMany := Fx.exm_ok (SaysF.fx c2 193 (f := .exm "Twice" "TooMany" false) rfl)
    k_Twice_Twice := Fx.kit_ok (SaysF.fx c2 194 (f := .kit "Twice" "Twice" true) rfl)
    e_Twice_Twice := Fx.exm_ok (SaysF.fx c2 195 (f := .exm "Twice" "Twice" true) rfl)
    k_Twice_WoodError := Fx.kit_ok (SaysF.fx c2 196 (f := .kit "Twice" "WoodError" true) rfl)
    e_Twice_WoodError := Fx.exm_ok (SaysF.fx c2 197 (f := .exm "Twice" "WoodError" true) rfl)
    ec_WoodError := Fx.excC_ok (SaysF.fx c2 198 (f := .excC "WoodError") rfl)
    kt_WoodError := Fx.kitT_ok (SaysF.fx c2 199 (f := .kitT "WoodError" "ValueError" true) rfl)
    k_WoodError_NoBit := Fx.kit_ok (SaysF.fx c2 200 (f := .kit "WoodError" "NoBit" false) rfl)
    e_WoodError_NoBit := Fx.exm_ok (SaysF.fx c2 201 (f := .exm "WoodError" "NoBit" false) rfl)
    k_WoodError_NoNode := Fx.kit_ok (SaysF.fx c2 202 (f := .kit "WoodError" "NoNode" false) rfl)
    e_WoodError_NoNode := Fx.exm_ok (SaysF.fx c2 203 (f := .exm "WoodError" "NoNode" false) rfl)
    k_WoodError_NoOctets := Fx.kit_ok (SaysF.fx c2 204 (f := .kit "WoodError" "NoOctets" false) rfl)
    e_WoodError_NoOctets := Fx.exm_ok (SaysF.fx c2 205 (f := .exm "WoodError" "NoOctets" false) rfl)
    k_WoodError_NoPlace := Fx.kit_ok (SaysF.fx c2 206 (f := .kit "WoodError" "NoPlace" false) rfl)
    e_WoodError_NoPlace := Fx.exm_ok (SaysF.fx c2 207 (f := .exm "WoodError" "NoPlace" false) rfl)
    k_WoodError_NoSign := Fx.kit_ok (SaysF.fx c2 208 (f := .kit "WoodError" "NoSign" false) rfl)
    e_WoodError_NoSign := Fx.exm_ok (SaysF.fx c2 209 (f := .exm "WoodError" "NoSign" false) rfl)
    k_WoodError_NoTree := Fx.kit_ok (SaysF.fx c2 210 (f := .kit "WoodError" "NoTree" false) rfl)
    e_WoodError_NoTree := Fx.exm_ok (SaysF.fx c2 211 (f := .exm "WoodError" "NoTree" false) rfl)
    k_WoodError_NoWord := Fx.kit_ok (SaysF.fx c2 212 (f := .kit "WoodError" "NoWord" false) rfl)
    e_WoodError_NoWord := Fx.exm_ok (SaysF.fx c2 213 (f := .exm "WoodError" "NoWord" false) rfl)
    k_WoodError_TooMany := Fx.kit_ok (SaysF.fx c2 214 (f := .kit "WoodError" "TooMany" false) rfl)
    e_WoodError_TooMany := Fx.exm_ok (SaysF.fx c2 215 (f := .exm "WoodError" "TooMany" false) rfl)
    k_WoodError_Twice := Fx.kit_ok (SaysF.fx c2 216 (f := .kit "WoodError" "Twice" false) rfl)
    e_WoodError_Twice := Fx.exm_ok (SaysF.fx c2 217 (f := .exm "WoodError" "Twice" false) rfl)
    k_WoodError_WoodError := Fx.kit_ok (SaysF.fx c2 218 (f := .kit "WoodError" "WoodError" true) rfl)
    e_WoodError_WoodError := Fx.exm_ok (SaysF.fx c2 219 (f := .exm "WoodError" "WoodError" true) rfl)
  }
  }
theorem facts {P : Program} {w : World} {K : PySem.W.Frag} {h : Heap} {mg : Str → Option Value} (X : K.In h) (G : h.Ns mainGlobals mg) (c : SaysF faL fnL fxL K) (base : Heap) :
    Okf P w K mg base CX0 8 "law" ["_law_script"] (sp_law K) := by
  have T : Tx P w K mg base := tx_of X G c base
  have o_packed := ok_packed (P := P) (w := w) T 
  have o_ones_in := ok_ones_in (P := P) (w := w) T 
  have o_ones_table := ok_ones_table (P := P) (w := w) T o_ones_in
  have o_kept_row := ok_kept_row (P := P) (w := w) T o_packed o_ones_table
  have o_levels_for := ok_levels_for (P := P) (w := w) T 
  have o_kept_signs := ok_kept_signs (P := P) (w := w) T o_levels_for o_kept_row
  have o_law_cell_at := ok_law_cell_at (P := P) (w := w) T 
  have o_law_whole := ok_law_whole (P := P) (w := w) T 
  have o_law_others := ok_law_others (P := P) (w := w) T 
  have o_law_told := ok_law_told (P := P) (w := w) T o_kept_signs o_law_others o_law_whole
  have o_law_due := ok_law_due (P := P) (w := w) T 
  have o_law := ok_law (P := P) (w := w) T o_law_cell_at o_law_told o_law_due
  exact o_law
theorem binds_law {K : PySem.W.Frag} (c : SaysF faL fnL fxL K) : ∃ fd : FuncData, FunD K "law" "law" (defArgs s_law) (defBody s_law) (defScope s_law) [] [] (He.ga K "law") fd := (SaysF.d c).def_ 11 (d := dd_law) rfl
end Tw
open PySem PySem.W PySem.Calls PyProof.Rows
set_option maxHeartbeats 0 in
theorem PySem.Challenge.cw_thinwood_k61_signs_refused_holds : PySem.Challenge.rw_thinwood_k61_signs_refused.Holds := by
  w_on; o_law
  refine HandSHeadRun.head_any (r := OpenLaw.row PySem.Challenge.rw_thinwood_k61_signs_refused) (q := view (OpenLaw.row PySem.Challenge.rw_thinwood_k61_signs_refused).prog [29]) (H := Tw.hk) (ob := Tw.ob) (M := 20000) (loose := Tw.looseL) (d := HandSHeadRun.topDef (OpenLaw.row PySem.Challenge.rw_thinwood_k61_signs_refused).prog 29) (kwd := []) Tw.ob_eq
    Tw.z_e Tw.z_f Tw.run Tw.z_def Tw.z_hp Tw.z_hk (by rfl) (by first | assumption | decide +kernel) Tw.z_ok Tw.z_bare Tw.z_w ?hc
  case hc =>
    refine L2.walk_ofE (l := PySem.Challenge.rw_thinwood_k61_signs_refused) (n := 63) (k := 8) (x := "_law_script") (CX := L2.CX0) rfl (by decide) (by as_aux_lemma => kernel_rfl) ⟨rfl, by decide, by decide⟩ ?F (fun _ _ _ _ z => z)
    intro w mg fa h Y G hmg0
    obtain ⟨K, KX, c⟩ := Y
    have hmg : mg ("law" : PySem.Str) = some (.ref fa) := by
      have e : (HandSHeadRun.topDef (OpenLaw.row PySem.Challenge.rw_thinwood_k61_signs_refused).prog 29).name = ("law" : PySem.Str) := by kernel_rfl
      rw [← e]
      exact hmg0
    have e : fa = He.ga K "law" := by
      have z := hmg.symm.trans (Tw.facts (P := (PySem.Challenge.rw_thinwood_k61_signs_refused).prog) (w := w) KX G c h).gl
      exact Value.ref.inj (Option.some.inj z)
    subst e
    obtain ⟨fd, FD⟩ := Tw.binds_law c
    refine ⟨K, fd, Tw.sp_law K, KX, fun s v => FunD.bindsA (ps := ["_law_script"]) FD (fun _ _ _ _ _ _ us hl => match us, hl with | [_], _ => rfl) s [v] rfl, fun H a ns hl _ hS => ⟨a, ns, rfl, hS, hl, fun _ => rfl⟩, fun base KB GB => ?_⟩
    exact Tw.okf_fn (Tw.facts KB GB c base) FD
#print axioms PySem.Challenge.cw_thinwood_k61_signs_refused_holds
