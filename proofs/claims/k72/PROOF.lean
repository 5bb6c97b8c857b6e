import PyProof.Rows.All
import KE.GoesZip
import KE.GoesMore
import HandS.Zip
import HandS.Text
import HandS.Iter
import HandS.SetFor
import HandS.Strs
import PyProof.Rows.SortShellAny
import PyProof.StrOps2
import HandS.ExcValue
import Wide.All
import OpenK.AllK
import Wide.FinOn
import KE.KStateDown
import Lean
import HandS.ForMost
import HandS.ForExc
import HandS.Steps
import HandS.IsInst
import HandS.Wide
import HandS.WideBits
import HandS.Defaults
import HandS.Flow
import HandS.Style
import HandS.ExcIs
import HandS.TryMany
import HandS.Evl
import HandS.Walk
import HandS.Rev
import HandS.Conv
import HandS.RevRange
import HandS.SortInts
import HandS.More
import HandS.Head0
import HandS.Head1
import HandS.Head2
import HandS.HeadEnd
import HandS.HeadHook1
import HandS.HeadHook2
import HandS.Deep
import HandS.Lambda
import HandS.HeadHook4
import HandS.HeadWalk
import HandS.Nested
import PySem.Challenge.RW_thinwood_k72_words_refused
set_option Elab.async false
set_option linter.all false
set_option maxRecDepth 100000
set_option maxHeartbeats 4000000
open PySem PySem.W PySem.Calls PyProof.Rows in
section
namespace Tw
abbrev R0 : PySem.W.OpenRow := PySem.W.OpenLaw.row PySem.Challenge.rw_thinwood_k72_words_refused
abbrev q0 : PySem.Program := PySem.W.view R0.prog [50]
abbrev d0 : PySem.DefRec := HandSHeadRun.topDef R0.prog 50
open PySem PySem.W PySem.Calls PyProof.Rows
theorem z_e : opening R0.prog = plainProg R0.prog.main.scope.names := by kernel_rfl
theorem z_f : ∀ s, fenceModules? R0.prog s = some s := fun s => by kernel_rfl
theorem z_def : defOf q0 R0.name = some (d0, []) := by kernel_rfl
theorem z_hp : R0.prog.theDef R0.name = some (d0.params, d0.body, d0.scope) := by kernel_rfl
theorem z_hk : kwWritten? d0.params.kwonlyargs d0.params.kw_defaults = some [] := by kernel_rfl
theorem z_ok : (chainsOk q0 && opensWell R0.prog && (frees R0.toRowW && R0.within.isEmpty)) = true := by decide +kernel
theorem z_bare : R0.prog.bare := ⟨rfl, rfl, rfl, rfl, rfl, by decide +kernel⟩
set_option maxHeartbeats 0 in
theorem z_w : R0.toRowW.promised := by w_witness2
end Tw
end
set_option Elab.async false
set_option linter.all false
set_option maxRecDepth 100000
set_option maxHeartbeats 4000000
namespace Tw
open PySem PySem.Spec PyProof.Rows L2
def nmL (l _c : Nat) : Str := ""
def tabL : List Str := []
/-! ### heaps: all that was tracked is as it was, but for code tables, which may have grown -/
class NT (o : HO) : Prop where
  ne : ∀ ps, o ≠ .tbl ps
instance {xs : List V} : NT (.lst xs) := ⟨fun _ z => nomatch z⟩
instance {xs : List V} : NT (.tup xs) := ⟨fun _ z => nomatch z⟩
instance {o : Obj} {u : HO} : NT (.frz o u) := ⟨fun _ z => nomatch z⟩
instance {φ : Heap → Prop} : NT (.ext φ) := ⟨fun _ z => nomatch z⟩
instance {S : Int → Bool} {n : Nat} : NT (.set S n) := ⟨fun _ z => nomatch z⟩
instance {kvs : List (Key × V)} : NT (.dK kvs) := ⟨fun _ z => nomatch z⟩
instance {C dx : Addr} {fs : List (Str × V)} : NT (.ins C dx fs) := ⟨fun _ z => nomatch z⟩
instance {x : Addr} : NT (.own x) := ⟨fun _ z => nomatch z⟩
structure Same (H H' : Hp) : Prop where
  keep : ∀ b o, H b = some o → (∀ ps, o ≠ .tbl ps) → H' b = some o
  gone : ∀ b, H' b = none → H b = none
  tabs : ∀ P, NdefX.TabN H P nmL → NdefX.TabN H' P nmL
theorem Same.get {H H' : Hp} (s : Same H H') {b : Addr} {o : HO} [NT o] (e : H b = some o) : H' b = some o := s.keep b o e NT.ne
theorem Same.of {H H' : Hp} (e : ∀ b o, H b = some o → H' b = some o) : Same H H' := by
  refine ⟨fun b o h _ => e b o h, fun b h => ?_, fun P t => NdefX.TabN.ext t e⟩
  cases q : H b with
  | none => rfl
  | some o => rw [e b o q] at h; cases h
theorem Same.refl (H : Hp) : Same H H := .of fun _ _ h => h
theorem Same.trans {H H1 H2 : Hp} (a : Same H H1) (b : Same H1 H2) : Same H H2 := ⟨fun c o h n => b.keep c o (a.keep c o h n) n, fun c h => a.gone c (b.gone c h), fun P t => b.tabs P (a.tabs P t)⟩
theorem Same.free {H H' : Hp} (e : Same H H') {l : Addr} (h : H' l = Option.none) : H l = Option.none := e.gone l h
theorem Same.seq {K : PySem.W.Frag} {H H' : Hp} {a : Addr} {xs : List V} (e : Same H H') (h : SqL K H a xs) : SqL K H' a xs := by
  rcases h with (h | ⟨o, h⟩) | h
  · exact .inl (.inl (e.get h))
  · exact .inl (.inr ⟨o, e.get h⟩)
  · exact .inr h
theorem same_new {H : Hp} {p : Addr} {o : HO} (h : H p = none) : Same H (upd H p o) := .of fun b x e => by
  rw [upd_ne (ne_of_none e h)]; exact e
/-- an object that H does not know may change -/
theorem Same.mut {H H' : Hp} {p : Addr} {o : HO} (e : Same H H') (h : H p = none) (hl : ∃ xs, H' p = some (.lst xs) := by exact ⟨_, by assumption⟩) : Same H (upd H' p o) := by
  obtain ⟨xs, hl⟩ := hl
  refine ⟨fun b x hb n => by rw [upd_ne (ne_of_none hb h)]; exact e.keep b x hb n, fun b hb => e.gone b (NdefX.upd_none hb), fun P t => ?_⟩
  obtain ⟨ps, h1, ht, hc⟩ := e.tabs P t
  have np : ∀ {b : Addr} {u : HO}, H' b = some u → (∀ xs, u ≠ .lst xs) → b ≠ p := fun {b u} q d z => by
    subst z; rw [hl] at q; cases q; exact d _ rfl
  refine ⟨ps, by rw [upd_ne (np h1 fun _ z => nomatch z)]; exact h1, ht, fun pos cv q => ?_⟩
  obtain ⟨c, e1, e2⟩ := hc pos cv q
  exact ⟨c, e1, by rw [upd_ne (np e2 fun _ z => by unfold LamX.CodeO at z; cases z)]; exact e2⟩
theorem Same.seqT {K : PySem.W.Frag} {H H' : Hp} {a : Addr} {xs : List V} (e : Same H H') (h : SqT K H a xs) : SqT K H' a xs := by
  rcases h with (h | ⟨o, h⟩) | h
  · exact .inl (.inl (e.get h))
  · exact .inl (.inr ⟨o, e.get h⟩)
  · exact .inr h
theorem Same.ne {H : Hp} {a p : Addr} {o : HO} (h : H p = none) (e : H a = some o) : a ≠ p := ne_of_none e h
/-! ### a def by its global name, and its call -/
/-- the def named x keeps the promise sp -/
structure Okf (P : Program) (w : World) (K : PySem.W.Frag) (mg : Str → Option Value) (base : Heap) (CX : CXT) (k : Nat) (x : Str) (ps : List Str) (sp : Sp) : Prop where
  ex : ∃ fd : FuncData, (∃ (oc : Value) (od : Option Addr) (osl : Array (Option Value)), K.lookup (He.ga K x) = some ⟨oc, od, .func fd, osl⟩) ∧ Binds K fd ps [] ∧ FnOk P w K mg base CX k (He.ga K x) fd ps sp
  kp : PySem.W.keepIn K (.ref (He.ga K x)) = true
  gl : mg x = some (.ref (He.ga K x))
theorem FunD.look {K : PySem.W.Frag} {x qual : Str} {params : Arguments} {body : List Stmt} {scope : Scope} {dvs : List V} {kws : List (Str × V)} {f : Addr} {fd : FuncData} (F : FunD K x qual params body scope dvs kws f fd) :
    ∃ (oc : Value) (od : Option Addr) (osl : Array (Option Value)), K.lookup f = some ⟨oc, od, .func fd, osl⟩ := by
  obtain ⟨oc, od, dV, kV, doc, pm, an, cdv, ct, osl, e, lk, _⟩ := F.ex
  exact ⟨oc, od, osl, lk⟩
section
variable {X : Cx} {CX : CXT} {k j : Nat} {ps : List Str} {sp : Sp} {E : XK} {x : Str} {p pos : Pos} {e : Expr} {es : List Expr} {t : TA}
theorem pe_callF (F : Okf X.prog X.w X.K X.mg X.base CX k x ps sp) (hr : Room j X.A) (hk : k ≤ j) (hg : Gl X x) (hx : Passes CX X E)
    (ha : PA X (e :: es) t) (hdb : (x == ("__debug__" : Str)) = false := by decide) (he : starEach (e :: es) X.env = (false, eval e X.env) :: starEach es X.env := by rfl) (hpl : (backTo pos (starEach es X.env)).any (·.1) = false := by rfl) :
    PE X (.Call (.Name x p) (e :: es) [] pos) (tCall sp [] E t) := by
  obtain ⟨fd, _, hb, ok⟩ := F.ex
  exact pe_call ok (hr.mono hk) hg F.gl F.kp hb .nil hx ha hdb he hpl
theorem pe_callF0 (F : Okf X.prog X.w X.K X.mg X.base CX k x ps sp) (hr : Room j X.A) (hk : k ≤ j) (hg : Gl X x) (hx : Passes CX X E)
    (hdb : (x == ("__debug__" : Str)) = false := by decide) : PE X (.Call (.Name x p) [] [] pos) (tCall sp [] E tNil) := by
  obtain ⟨fd, _, hb, ok⟩ := F.ex
  exact pe_call0 ok (hr.mono hk) hg F.gl F.kp hb .nil hx hdb
theorem Okf.imp {P : Program} {w : World} {K : PySem.W.Frag} {mg : Str → Option Value} {base : Heap} {sp' : Sp} (F : Okf P w K mg base CX k x ps sp)
    (h : ∀ vs H Q E, sp' vs H Q E → sp vs H Q E) : Okf P w K mg base CX k x ps sp' := by
  obtain ⟨⟨fd, lk, hb, ok⟩, kp, gl⟩ := F
  exact ⟨⟨fd, lk, hb, ok.imp h⟩, kp, gl⟩
theorem okf_fn {P : Program} {w : World} {K : PySem.W.Frag} {mg : Str → Option Value} {base : Heap} {params : Arguments} {body : List Stmt} {scope : Scope} {qual y : Str} {fd : FuncData} {dvs : List V} {kws : List (Str × V)} (F : Okf P w K mg base CX k x ps sp)
    (FD : FunD K y qual params body scope dvs kws (He.ga K x) fd) : FnOk P w K mg base CX k (He.ga K x) fd ps sp := by
  obtain ⟨⟨fd', ⟨_, _, _, lk'⟩, hb, ok⟩, kp, gl⟩ := F
  obtain ⟨_, _, _, lk⟩ := FunD.look FD
  rw [lk] at lk'
  injection lk' with e
  injection e with _ _ e
  injection e with e
  subst e
  exact ok
/-- a global int, as a constant -/
theorem pe_gint {i : Int} (h : ∃ t, X.mg x = some (.int i t)) (hg : Gl X x) (hd : (x == ("__debug__" : Str)) = false := by decide) : PE X (.Name x pos) (tC (.int i)) := by
  obtain ⟨t, h⟩ := h
  exact pe_glob hg h ⟨_, rfl⟩ hd
/-- a constant that the text reckons -/
theorem pe_cst {v : Int} {te : TE} (h : PE X e te) (hi : ∀ (σ : L2.St) (H : Hp) (Q : VK), Q (.int v) H → te σ H Q) : PE X e (tC (.int v)) :=
  ⟨fun pins s σ H Q I q => h.run pins s σ H Q I (hi σ H Q q)⟩
/-- e & 1 -/
def rAnd1 : R2 := fun x y H Q => ∃ i : Int, x = .int i ∧ y = .int 1 ∧ Q (.int (i % 2)) H
theorem op_and1 : OpR X (binaryOp .BitAnd) rAnd1 := by
  intro pins s σ H x y v u Q I rx ry h
  obtain ⟨i, rfl, rfl, q⟩ := h
  exact op_andM pins s σ H (.int i) (.int (2 ^ 1 - 1)) v u Q I rx ry ⟨i, 1, rfl, rfl, q⟩
/-- isinstance(x, T), T a built-in type's name -/
def rIsB : List V → Hp → VK → Prop := fun xs H Q => ∃ (x : V) (n : String), xs = [x, .ty n] ∧ ∃ (t : String) (b : Bool), (∀ K : PySem.W.Frag, TyX K H x (.type t)) ∧ kitB t n = some b ∧ Q (.bl b) H
theorem call_isB : CallR X (.builtin "isinstance") rIsB := by
  intro pins s σ H xs us Q I r h
  obtain ⟨x, n, rfl, t, b, ty, e, q⟩ := h
  exact call_isi pins s σ H [x, .ty n] us Q I r ⟨x, .ty n, .type t, .type n, b, rfl, .ty n, ty _, kit_ty e, q⟩
end
/-! ### names of the operators' readings -/
abbrev rPlus : R2 := rI0 fun i j => .int (i + j)
abbrev rMinus : R2 := rI0 fun i j => .int (i - j)
abbrev rTimes : R2 := rI CMul fun i j => .int (i * j)
abbrev rDiv : R2 := rI CDiv fun i j => .int (i / j)
abbrev rDivW : R2 := rI CDivW fun i j => .int (i / j)
abbrev rMod : R2 := rI (fun _ j => 0 < j) fun i j => .int (i % j)
abbrev rPow : R2 := rI CPow fun i j => .int (i ^ j.toNat)
abbrev rShl : R2 := rI CPow fun i j => .int (i * 2 ^ j.toNat)
abbrev rShr : R2 := rI (fun _ j => 0 ≤ j) fun i j => .int (i / 2 ^ j.toNat)
abbrev rBitAnd : R2 := rI0 fun i j => .int (Builtin.bitAnd i j)
abbrev rBitOr : R2 := rI0 fun i j => .int (Builtin.bitOr i j)
abbrev rBitXor : R2 := rI0 fun i j => .int (Builtin.bitXor i j)
abbrev rLt : R2 := rI0 fun i j => .bl (decide (i < j))
abbrev rLe : R2 := rI0 fun i j => .bl (decide (i ≤ j))
abbrev rGtI : R2 := rI0 fun i j => .bl (decide (j < i))
abbrev rGeI : R2 := rI0 fun i j => .bl (decide (j ≤ i))
abbrev rShlW : R2 := rI CShl fun i j => .int (i * 2 ^ j.toNat)
def rDivmod : List V → Hp → VK → Prop := fun xs H Q => ∃ i j, xs = [.int i, .int j] ∧ CDivP i j ∧ ∀ p, H p = none → Q (.ref p) (upd H p (.tup [.int (i / j), .int (i % j)]))
abbrev rNeg : V → Hp → VK → Prop := rU fun i => .int (-i)
/-! ### steps of a reading -/
section
variable {D : Ends} {σ : L2.St} {H : Hp} {Q : VK} {Qb : Bool → Hp → Prop} {ta tb te : TE} {t u v : TS} {c d : TT} {i : Nat} {x y z : V} {r : R2} {K : PySem.W.Frag}
theorem k_seq (h : t { D with nx := u D } σ H) : tSeq t u D σ H := h
theorem k_next (h : D.nx σ H) : tNext D σ H := h
theorem k_asg (h : te σ H fun x H1 => D.nx (σ.set i (some x)) H1) : tAsg te (gName i) D σ H := h
theorem k_drop (h : te σ H fun _ H1 => D.nx σ H1) : tDrop te D σ H := h
theorem k_ret (h : te σ H D.rt) : tRet te D σ H := h
theorem k_retN (h : D.rt .non H) : tRetN D σ H := h
theorem k_if (h : c σ H fun b H1 => if b = true then t D σ H1 else u D σ H1) : tIfS c t u D σ H := h
theorem k_var (h : σ[i]? = some (some x)) (q : Q x H) : tVar i σ H Q := ⟨x, h, q⟩
theorem k_c (q : Q x H) : tC x σ H Q := q
theorem k_op (h : ta σ H fun x H1 => tb σ H1 fun y H2 => r x y H2 Q) : tOp r ta tb σ H Q := h
theorem k_un {r : V → Hp → VK → Prop} (h : ta σ H fun x H1 => r x H1 Q) : tUn r ta σ H Q := h
theorem k_I0 {g : Int → Int → V} {a b : Int} (q : Q (g a b) H) : rI0 g (.int a) (.int b) H Q := ⟨a, b, rfl, rfl, q⟩
theorem k_I {C : Int → Int → Prop} {g : Int → Int → V} {a b : Int} (hc : C a b) (q : Q (g a b) H) : rI C g (.int a) (.int b) H Q := ⟨a, b, rfl, rfl, hc, q⟩
theorem k_U {g : Int → V} {a : Int} (q : Q (g a) H) : rU g (.int a) H Q := ⟨a, rfl, q⟩
theorem k_and1 {a : Int} (q : Q (.int (a % 2)) H) : rAnd1 (.int a) (.int 1) H Q := ⟨a, rfl, rfl, q⟩
theorem k_eqI {a b : Int} (q : Q (.bl (decide (a = b))) H) : rEq (.int a) (.int b) H Q := ⟨rfl, by
  have e : decide ((V.int a : V) = V.int b) = decide (a = b) := by simp
  rw [e]; exact q⟩
theorem k_neI {a b : Int} (q : Q (.bl (!decide (a = b))) H) : rNe (.int a) (.int b) H Q := ⟨rfl, by
  have e : decide ((V.int a : V) = V.int b) = decide (a = b) := by simp
  rw [e]; exact q⟩
theorem k_eq (hs : scal x y = true) (q : Q (.bl (decide (x = y))) H) : rEq x y H Q := ⟨hs, q⟩
theorem k_ne (hs : scal x y = true) (q : Q (.bl (!decide (x = y))) H) : rNe x y H Q := ⟨hs, q⟩
theorem k_isN (q : Q (.bl (decide (x = .non))) H) : rIsN x .non H Q := ⟨rfl, q⟩
theorem k_notN (q : Q (.bl (!decide (x = .non))) H) : rNotN x .non H Q := ⟨rfl, q⟩
def BlK (Qb : Bool → Hp → Prop) (x : V) (H : Hp) : Prop := ∃ k, x = .bl k ∧ Qb k H
theorem k_test (h : te σ H (BlK Qb)) : tTest te σ H Qb := h
theorem k_tB (h : te σ H (BlK Qb)) : tB te σ H Qb := h
theorem k_bl {b : Bool} (q : Qb b H) : BlK Qb (V.bl b) H := ⟨b, rfl, q⟩
theorem k_and (h : c σ H fun b H1 => if b = true then d σ H1 Qb else Qb false H1) : tAnd c d σ H Qb := h
theorem k_or (h : c σ H fun b H1 => if b = true then Qb true H1 else d σ H1 Qb) : tOr c d σ H Qb := h
theorem k_not (h : c σ H fun b H1 => Qb (!b) H1) : tNot c σ H Qb := h
def ChainK (Q : VK) (u : Hp → Prop) (z : V) (H : Hp) : Prop := ∃ k, z = .bl k ∧ (if k = true then u H else Q (.bl false) H)
theorem k_chain {r' : R2} {tc : TE} (h : ta σ H fun x H1 => tb σ H1 fun y H2 => r x y H2 (ChainK Q fun H3 => tc σ H3 fun w H4 => r' y w H4 Q)) : tChain r r' ta tb tc σ H Q := h
theorem k_chainE {u : Hp → Prop} {b : Bool} (h : if b = true then u H else Q (.bl false) H) : ChainK Q u (.bl b) H := ⟨b, rfl, h⟩
theorem k_andV (h : ta σ H (BlK fun k H1 => if k = true then tb σ H1 Q else Q (.bl false) H1)) : tAndV ta tb σ H Q := h
theorem k_orV (h : ta σ H (BlK fun k H1 => if k = true then Q (.bl true) H1 else tb σ H1 Q)) : tOrV ta tb σ H Q := h
theorem k_notV (h : ta σ H (BlK fun k H1 => Q (.bl (!k)) H1)) : tNotV ta σ H Q := h
theorem k_ifE (h : c σ H fun b H1 => if b = true then ta σ H1 Q else tb σ H1 Q) : tIf c ta tb σ H Q := h
theorem k_cons {Qv : List V → Hp → Prop} {tr : TA} (h : ta σ H fun x H1 => tr σ H1 fun xs H2 => Qv (x :: xs) H2) : tCons ta tr σ H Qv := h
theorem k_nil {Qv : List V → Hp → Prop} (h : Qv [] H) : tNil σ H Qv := h
theorem k_call {sp : Sp} {dvs : List V} {E : XK} {tr : TA} (h : tr σ H fun vs H1 => sp (vs ++ dvs) H1 Q E) : tCall sp dvs E tr σ H Q := h
theorem k_cb {rc : List V → Hp → VK → Prop} {tr : TA} (h : tr σ H fun vs H1 => rc vs H1 Q) : tCB rc tr σ H Q := h
theorem k_tup {tr : TA} (h : tr σ H fun xs H1 => xs.length ≤ sizeLine ∧ ∀ p, H1 p = none → Q (.ref p) (upd H1 p (.tup xs))) : tTup tr σ H Q := h
theorem k_lst {tr : TA} (h : tr σ H fun xs H1 => xs.length ≤ sizeLine ∧ ∀ p, H1 p = none → Q (.ref p) (upd H1 p (.lst xs))) : tLst tr σ H Q := h
theorem k_disp {A : Prop} {xs : List V} (h : xs.length ≤ 1000) (q : A) : xs.length ≤ sizeLine ∧ A := ⟨Nat.le_trans h (by decide), q⟩
theorem k_aug {ti : TIp} (hx : σ[i]? = some (some x)) (h : te σ H fun y H1 => ti x y H1 fun z H2 => D.nx (σ.set i (some z)) H2) : tAug i te ti D σ H := ⟨x, hx, h⟩
theorem k_ipI {f : Int → Int → Int} {a b : Int} (q : Q (.int (f a b)) H) : ipI f (.int a) (.int b) H Q := ⟨a, b, rfl, rfl, q⟩
theorem k_sl {rs : V → Option Int → Option Int → Hp → VK → Prop} {tl th : TO} (h : te σ H fun x H1 => tl σ H1 fun l H2 => th σ H2 fun u H3 => rs x l u H3 Q) : tSl rs te tl th σ H Q := h
def PartK (Qo : Option Int → Hp → Prop) (x : V) (H : Hp) : Prop := ∃ j, x = .int j ∧ Qo (some j) H
theorem k_part {Qo : Option Int → Hp → Prop} (h : te σ H (PartK Qo)) : tPart te σ H Qo := h
theorem k_partE {Qo : Option Int → Hp → Prop} {a : Int} (h : Qo (some a) H) : PartK Qo (.int a) H := ⟨a, rfl, h⟩
theorem k_noPart {Qo : Option Int → Hp → Prop} (h : Qo none H) : tNoPart σ H Qo := h
theorem k_bm {T : String} {rm : V → List V → Hp → VK → Prop} {tr : TA} (h : te σ H fun x H1 => tyV K T x H1 ∧ tr σ H1 fun xs H2 => rm x xs H2 Q) : tBM K T rm te tr σ H Q := h
theorem k_bm0 {T : String} {rm : V → List V → Hp → VK → Prop} (h : te σ H fun x H1 => tyV K T x H1 ∧ rm x [] H1 Q) : tBM0 K T rm te σ H Q := h
theorem k_app {l : Addr} {xs : List V} (h : H l = some (.lst xs)) (hl : xs.length < 100000) (q : Q .non (upd H l (.lst (xs ++ [y])))) : rAppend (.ref l) [y] H Q := ⟨l, xs, y, rfl, rfl, h, Nat.lt_of_lt_of_le hl (by decide), q⟩
theorem k_tyL {l : Addr} {xs : List V} {A : Prop} (h : SqL K H l xs) (q : A) : tyV K "list" (.ref l) H ∧ A := ⟨.inl ⟨rfl, _, h⟩, q⟩
theorem k_ixL {p : Addr} {xs : List V} {a : Int} (h : SqL K H p xs) (e : atI xs a = some x) (q : Q x H) : rIxL K (.ref p) (.int a) H Q := ⟨p, xs, a, x, rfl, rfl, h, e, q⟩
theorem k_ixT {p : Addr} {xs : List V} {a : Int} (h : SqT K H p xs) (e : atI xs a = some x) (q : Q x H) : rIxT K (.ref p) (.int a) H Q := ⟨p, xs, a, x, rfl, rfl, h, e, q⟩
theorem k_slL {p : Addr} {xs : List V} {lo hi : Option Int} (h : SqL K H p xs) (q : ∀ l, H l = none → Q (.ref l) (upd H l (.lst (cutV xs lo hi)))) : rSlL K (.ref p) lo hi H Q := ⟨p, xs, rfl, h, q⟩
def rLen (K : PySem.W.Frag) : List V → Hp → VK → Prop := fun xs H Q => ∃ p ys, xs = [.ref p] ∧ (SqL K H p ys ∨ SqT K H p ys) ∧ Q (.int ys.length) H
theorem call_lenK {X : Cx} : CallR X (.builtin "len") (rLen X.K) := call_len_seq
theorem k_lenL {p : Addr} {xs : List V} (h : SqL K H p xs) (q : Q (.int (xs.length : Int)) H) : rLen K [.ref p] H Q := ⟨p, xs, rfl, .inl h, q⟩
theorem k_lenT {p : Addr} {xs : List V} (h : SqT K H p xs) (q : Q (.int (xs.length : Int)) H) : rLen K [.ref p] H Q := ⟨p, xs, rfl, .inr h, q⟩
def rInsert : V → List V → Hp → VK → Prop := fun x vs H Q => ∃ (l : Addr) (xs : List V) (i : Int) (y : V), x = .ref l ∧ vs = [.int i, y] ∧ H l = some (.lst xs) ∧ xs.length < sizeLine ∧ 0 ≤ i ∧ i < 2 ^ 63 ∧ Q .non (upd H l (.lst (xs.take i.toNat ++ [y] ++ xs.drop i.toNat)))
theorem mt_insertK {X : Cx} : MtR X "list.insert" rInsert := mt_insert
theorem k_insert {l : Addr} {xs : List V} {i : Nat} (h : H l = some (.lst xs)) (hz : xs.length ≤ 100000) (hi : i ≤ 100000) (q : Q .non (upd H l (.lst (xs.take i ++ [y] ++ xs.drop i)))) : rInsert (.ref l) [.int (i : Int), y] H Q := ⟨l, xs, i, y, rfl, rfl, h, Nat.lt_of_le_of_lt hz (by decide), by omega, by omega, by rw [Int.toNat_natCast]; exact q⟩
theorem k_popAt {l : Addr} {xs : List V} {i : Nat} (h : H l = some (.lst xs)) (hi : i < xs.length) (hz : xs.length ≤ 100000) (e : xs[i]? = some y) (q : Q y (upd H l (.lst (xs.eraseIdx i)))) : rPopAt (.ref l) [.int (i : Int)] H Q := ⟨l, xs, i, i, y, rfl, rfl, h, by omega, by omega, by unfold PySem.seqIndex?; simp; omega, e, q⟩
theorem k_clear {l : Addr} {xs : List V} (h : H l = some (.lst xs)) (q : Q .non (upd H l (.lst []))) : rClear (.ref l) [] H Q := ⟨l, xs, rfl, rfl, h, q⟩
theorem k_extend {l b : Addr} {xs zs : List V} (h : H l = some (.lst xs)) (h2 : H b = some (.lst zs)) (hn : xs.length + zs.length ≤ 1000000) (q : Q .non (upd H l (.lst (xs ++ zs)))) : rExtend (.ref l) [.ref b] H Q := ⟨l, b, xs, zs, rfl, rfl, h, h2, Nat.le_trans hn (by decide), q⟩
theorem k_pop {l : Addr} {xs : List V} (h : H l = some (.lst (xs ++ [y]))) (q : Q y (upd H l (.lst xs))) : rPop (.ref l) [] H Q := ⟨l, xs ++ [y], y, rfl, rfl, h, by simp, by rw [List.dropLast_concat]; exact q⟩
def rInt1 : List V → Hp → VK → Prop := fun xs H Q => (∃ i, xs = [.int i] ∧ Q (.int i) H) ∨ ∃ k : Bool, xs = [.bl k] ∧ Q (.int (if k then 1 else 0)) H
theorem k_intB {k : Bool} (q : Q (.int (if k then 1 else 0)) H) : rInt1 [.bl k] H Q := .inr ⟨k, rfl, q⟩
def rTupOf (K : PySem.W.Frag) : List V → Hp → VK → Prop := fun xs H Q => ∃ p ys, xs = [.ref p] ∧ ((SqL K H p ys ∧ ∀ l, H l = none → Q (.ref l) (upd H l (.tup ys))) ∨ (SqT K H p ys ∧ Q (.ref p) H))
theorem call_tupK {X : Cx} : CallR X (.type "tuple") (rTupOf X.K) := call_tuple_of
theorem k_tupL {p : Addr} {xs : List V} (h : SqL K H p xs) (q : ∀ l, H l = none → Q (.ref l) (upd H l (.tup xs))) : rTupOf K [.ref p] H Q := ⟨p, xs, rfl, .inl ⟨h, q⟩⟩
def rLenStr : List V → Hp → VK → Prop := fun xs H Q => ∃ z : Str, xs = [.str z] ∧ z.length ≤ sizeLine ∧ Q (.int z.length) H
def rAddStr : R2 := fun x y H Q => ∃ i j : Str, x = .str i ∧ y = .str j ∧ i.length + j.length ≤ sizeLine ∧ Q (.str (i ++ j)) H
def rAbs : List V → Hp → VK → Prop := fun xs H Q => ∃ i, xs = [.int i] ∧ Q (.int (if i < 0 then -i else i)) H
theorem k_abs {a : Int} (q : Q (.int (if a < 0 then -a else a)) H) : rAbs [.int a] H Q := ⟨a, rfl, q⟩
def rMin2 : List V → Hp → VK → Prop := fun xs H Q => ∃ i j, xs = [.int i, .int j] ∧ Q (.int (if j < i then j else i)) H
def rMax2 : List V → Hp → VK → Prop := fun xs H Q => ∃ i j, xs = [.int i, .int j] ∧ Q (.int (if j > i then j else i)) H
theorem call_min2K {X : Cx} (hc : X.calm = true) : CallR X (.builtin "min") rMin2 := call_min2 hc
theorem call_max2K {X : Cx} (hc : X.calm = true) : CallR X (.builtin "max") rMax2 := call_max2 hc
theorem k_min2 {a b : Int} (q : Q (.int (if b < a then b else a)) H) : rMin2 [.int a, .int b] H Q := ⟨a, b, rfl, q⟩
theorem k_max2 {a b : Int} (q : Q (.int (if b > a then b else a)) H) : rMax2 [.int a, .int b] H Q := ⟨a, b, rfl, q⟩
def rListOf (K : PySem.W.Frag) : List V → Hp → VK → Prop := fun xs H Q => ∃ p ys, xs = [.ref p] ∧ (SqL K H p ys ∨ SqT K H p ys) ∧ ∀ l, H l = none → Q (.ref l) (upd H l (.lst ys))
theorem call_listK {X : Cx} : CallR X (.type "list") (rListOf X.K) := call_list_of
theorem k_listL {p : Addr} {xs : List V} (h : SqL K H p xs) (q : ∀ l, H l = none → Q (.ref l) (upd H l (.lst xs))) : rListOf K [.ref p] H Q := ⟨p, xs, rfl, .inl h, q⟩
theorem k_sum {p : Addr} {ns : List Int} (h : SqL K H p (ns.map V.int)) (q : Q (.int ns.sum) H) : rSum K [.ref p] H Q := ⟨p, ns, rfl, h, q⟩
theorem k_isInt {a : Int} (q : Q (.bl true) H) : rIsB [.int a, .ty "int"] H Q := ⟨.int a, "int", rfl, "int", true, fun _ => .base (.int a), by decide +kernel, q⟩
theorem k_isBool {a : Int} (q : Q (.bl false) H) : rIsB [.int a, .ty "bool"] H Q := ⟨.int a, "bool", rfl, "int", false, fun _ => .base (.int a), by decide +kernel, q⟩
theorem k_isBoolB {b : Bool} (q : Q (.bl true) H) : rIsB [.bl b, .ty "bool"] H Q := ⟨.bl b, "bool", rfl, "bool", true, fun _ => .base (.bl b), by decide +kernel, q⟩
theorem k_isIntB {b : Bool} (q : Q (.bl true) H) : rIsB [.bl b, .ty "int"] H Q := ⟨.bl b, "int", rfl, "bool", true, fun _ => .base (.bl b), by decide +kernel, q⟩
theorem k_isIntN (q : Q (.bl false) H) : rIsB [.non, .ty "int"] H Q := ⟨.non, "int", rfl, "NoneType", false, fun _ => .base .non, by decide +kernel, q⟩
theorem k_isList {a : Addr} {xs : List V} (h : H a = some (.lst xs)) (q : Q (.bl true) H) : rIsB [.ref a, .ty "list"] H Q := ⟨.ref a, "list", rfl, "list", true, fun _ => .base (.lst h), by decide +kernel, q⟩
theorem k_isTup {a : Addr} {xs : List V} (h : H a = some (.tup xs)) (q : Q (.bl true) H) : rIsB [.ref a, .ty "tuple"] H Q := ⟨.ref a, "tuple", rfl, "tuple", true, fun _ => .base (.tup h), by decide +kernel, q⟩
/-! ends -/
theorem k_nx {nx : L2.St → Hp → Prop} {rt : VK} {bk ct : L2.St → Hp → Prop} (h : nx σ H) : (Ends.mk nx rt bk ct).nx σ H := h
theorem k_rt {nx : L2.St → Hp → Prop} {rt : VK} {bk ct : L2.St → Hp → Prop} (h : rt x H) : (Ends.mk nx rt bk ct).rt x H := h
/-! ifs -/
theorem k_dec {p A B : Prop} [Decidable p] (h1 : p → A) (h2 : ¬ p → B) : if decide p = true then A else B := by
  by_cases h : p
  · rw [if_pos (decide_eq_true h)]; exact h1 h
  · rw [if_neg (fun z => h (of_decide_eq_true z))]; exact h2 h
theorem k_ndec {p A B : Prop} [Decidable p] (h1 : ¬ p → A) (h2 : p → B) : if (!decide p) = true then A else B := by
  by_cases h : p
  · rw [if_neg (by rw [decide_eq_true h]; decide)]; exact h2 h
  · rw [if_pos (by rw [decide_eq_false h]; decide)]; exact h1 h
theorem k_decT {p A B : Prop} [Decidable p] (h : p) (q : A) : if decide p = true then A else B := k_dec (fun _ => q) (fun z => absurd h z)
theorem k_decF {p A B : Prop} [Decidable p] (h : ¬ p) (q : B) : if decide p = true then A else B := k_dec (fun z => absurd z h) (fun _ => q)
theorem k_ndecT {p A B : Prop} [Decidable p] (h : p) (q : B) : if (!decide p) = true then A else B := k_ndec (fun z => absurd h z) (fun _ => q)
theorem k_ndecF {p A B : Prop} [Decidable p] (h : ¬ p) (q : A) : if (!decide p) = true then A else B := k_ndec (fun _ => q) (fun z => absurd z h)
theorem k_yes (h : Qb true H) : tYes σ H Qb := h
theorem k_T {A B : Prop} (q : A) : if true = true then A else B := iteT q
theorem k_F {A B : Prop} (q : B) : if false = true then A else B := iteF q
theorem k_nT {A B : Prop} (q : B) : if (!true) = true then A else B := iteF q
theorem k_nF {A B : Prop} (q : A) : if (!false) = true then A else B := iteT q
end
/-! ### items -/
theorem at_nat {α : Type} {xs : List α} {i : Nat} {x : α} (h : xs[i]? = some x) : atI xs (i : Int) = some x := atI_nat h
theorem at_int {α : Type} {xs : List α} {i : Int} {x : α} (h0 : 0 ≤ i) (h : xs[i.toNat]? = some x) : atI xs i = some x := by
  have e : i = ((i.toNat : Nat) : Int) := by omega
  rw [e]; exact atI_nat h
theorem mapint {ns : List Int} {i : Nat} {n : Int} (h : ns[i]? = some n) : (ns.map V.int)[i]? = some (.int n) := by
  rw [List.getElem?_map, h]; rfl
theorem of_mapint {ns : List Int} {i : Nat} {v : V} (h : (ns.map V.int)[i]? = some v) : ∃ n, ns[i]? = some n ∧ v = .int n := by
  rw [List.getElem?_map] at h
  cases e : ns[i]? with
  | none => rw [e] at h; cases h
  | some n => rw [e] at h; exact ⟨n, rfl, (Option.some.inj h).symm⟩
theorem cutTake (xs : List V) (n : Nat) : cutV xs none (some (n : Int)) = xs.take n := by
  unfold cutV
  rw [HT.sIx_none, HT.sIx_nat, List.drop_zero, Nat.sub_zero]
  rcases Nat.le_total n xs.length with h | h
  · rw [Nat.min_eq_left h]
  · rw [Nat.min_eq_right h, List.take_length, List.take_of_length_le h]
/-! ### steps on ends that are written out; loops -/
section
variable {σ : L2.St} {H : Hp} {Q rt : VK} {nx bk ct : L2.St → Hp → Prop} {t u tb : TS} {g : TG} {wi : TI} {c : TT} {i : Nat} {x : V} {K : PySem.W.Frag}
theorem m_seq (h : t (Ends.mk (u (Ends.mk nx rt bk ct)) rt bk ct) σ H) : tSeq t u (Ends.mk nx rt bk ct) σ H := h
theorem m_cut (Mid : L2.St → Hp → Prop) (h : t (Ends.mk Mid rt bk ct) σ H) (k : ∀ σ' H', Mid σ' H' → u (Ends.mk nx rt bk ct) σ' H') : Evl.tCut t u (Ends.mk nx rt bk ct) σ H := ⟨Mid, h, k⟩
theorem m_cut0 (h : t (Ends.mk (u (Ends.mk nx rt bk ct)) rt bk ct) σ H) : Evl.tCut t u (Ends.mk nx rt bk ct) σ H := ⟨_, h, fun _ _ x => x⟩
theorem m_bk (h : bk σ H) : tBreak (Ends.mk nx rt bk ct) σ H := h
theorem m_ct (h : ct σ H) : tCont (Ends.mk nx rt bk ct) σ H := h
theorem m_next (h : nx σ H) : tNext (Ends.mk nx rt bk ct) σ H := h
theorem m_gName {Qs : L2.St → Hp → Prop} (h : Qs (σ.set i (some x)) H) : gName i x σ H Qs := h
theorem m_call {sp : Sp} {E : XK} {tr : TA} (h : tr σ H fun vs H1 => sp vs H1 Q E) : tCall sp [] E tr σ H Q := by
  have e : (fun (vs : List V) (H1 : Hp) => sp (vs ++ []) H1 Q E) = fun vs H1 => sp vs H1 Q E := by
    funext vs H1; rw [List.append_nil]
  show tr σ H fun vs H1 => sp (vs ++ []) H1 Q E
  rw [e]; exact h
/-- a for loop over what J yields -/
def LoopOk (J : It) (g : TG) (tb : TS) (nx : L2.St → Hp → Prop) (rt : VK) (σ : L2.St) (H : Hp) : Prop :=
  ∃ W : Nat → Nat → L2.St → Hp → Prop, (∃ m, W 0 m σ H) ∧ ∀ i m σ H, W i m σ H →
  (J.stop i H ∧ nx σ H) ∨ (J.go i H ∧ ∃ N : L2.St → Hp → Prop, (∀ σ' H', N σ' H' → ∃ m', m' < m ∧ W (i + 1) m' σ' H') ∧ ∀ x H', J.yld i H x H' → g x σ H' fun σ2 H2 => tb (Ends.mk N rt nx N) σ2 H2)
theorem m_for (h : wi σ H fun J H1 => LoopOk J g tb nx rt σ H1) : tFor wi g tb (Ends.mk nx rt bk ct) σ H := h
def Rng1K (R : It → Hp → Prop) (vs : List V) (H : Hp) : Prop := ∃ j : Int, vs = [.int j] ∧ -(2 ^ 62) ≤ j ∧ j < 2 ^ 62 ∧ R (Itr 0 j.toNat) H
theorem m_rng1 {ta : TA} {R : It → Hp → Prop} (h : ta σ H (Rng1K R)) : iRng1 ta σ H R := h
theorem m_rng1e {R : It → Hp → Prop} {a : Int} (h1 : -(2 ^ 62) ≤ a ∧ a < 2 ^ 62) (h : R (Itr 0 a.toNat) H) : Rng1K R [V.int a] H := ⟨a, rfl, h1.1, h1.2, h⟩
theorem m_rng1n {R : It → Hp → Prop} {a : Nat} (h1 : (a : Int) < 2 ^ 62) (h : R (Itr 0 a) H) : Rng1K R [V.int (a : Int)] H := ⟨a, rfl, by omega, h1, by rw [Int.toNat_natCast]; exact h⟩
def Rng2K (R : It → Hp → Prop) (vs : List V) (H : Hp) : Prop := ∃ i j : Int, vs = [.int i, .int j] ∧ (-(2 ^ 62) ≤ i ∧ i < 2 ^ 62 ∧ -(2 ^ 62) ≤ j ∧ j < 2 ^ 62) ∧ R (Itr i (j - i).toNat) H
theorem m_rng2 {ta : TA} {R : It → Hp → Prop} (h : ta σ H (Rng2K R)) : iRng2 ta σ H R := h
theorem m_rng2e {R : It → Hp → Prop} {a b : Int} (h1 : -(2 ^ 62) ≤ a ∧ a < 2 ^ 62 ∧ -(2 ^ 62) ≤ b ∧ b < 2 ^ 62) (h : R (Itr a (b - a).toNat) H) : Rng2K R [V.int a, V.int b] H := ⟨a, b, rfl, h1, h⟩
def ListK (K : PySem.W.Frag) (R : It → Hp → Prop) (x : V) (H : Hp) : Prop := ∃ a, x = .ref a ∧ (∃ xs, SqL K H a xs) ∧ R (Itl K a) H
theorem m_iL {tl : TE} {R : It → Hp → Prop} (h : tl σ H (ListK K R)) : iList K tl σ H R := h
theorem m_iLe {R : It → Hp → Prop} {a : Addr} {xs : List V} (hx : SqL K H a xs) (h : R (Itl K a) H) : ListK K R (V.ref a) H := ⟨a, rfl, ⟨xs, hx⟩, h⟩
def TupK (K : PySem.W.Frag) (R : It → Hp → Prop) (x : V) (H : Hp) : Prop := ∃ a, x = .ref a ∧ (∃ xs, SqT K H a xs) ∧ R (Itt K a) H
theorem m_iT {tl : TE} {R : It → Hp → Prop} (h : tl σ H (TupK K R)) : iTup K tl σ H R := h
theorem m_iTe {R : It → Hp → Prop} {a : Addr} {xs : List V} (hx : SqT K H a xs) (h : R (Itt K a) H) : TupK K R (V.ref a) H := ⟨a, rfl, ⟨xs, hx⟩, h⟩
def iSeq (K : PySem.W.Frag) (tl : TE) : TI := fun σ H R => iList K tl σ H R ∨ iTup K tl σ H R
theorem m_seqL {tl : TE} {R : It → Hp → Prop} (h : tl σ H (ListK K R)) : iSeq K tl σ H R := .inl h
theorem m_seqT {tl : TE} {R : It → Hp → Prop} (h : tl σ H (TupK K R)) : iSeq K tl σ H R := .inr h
theorem pi_seq {X : Cx} {tg l : Expr} {tl : TE} (hl : PE X l tl) : PI X tg l (iSeq X.K tl) := ⟨fun pins s σ H R I h => h.elim (fun h => (pi_list hl).run pins s σ H R I h) fun h => (pi_tup hl).run pins s σ H R I h⟩
theorem loop_range {lo : Int} {n : Nat} (Pv : Nat → L2.St → Hp → Prop) (h0 : Pv 0 σ H)
    (hs : ∀ i σ H, i < n → Pv i σ H → g (.int (lo + i)) σ H fun σ2 H2 => tb (Ends.mk (Pv (i + 1)) rt nx (Pv (i + 1))) σ2 H2) (hd : ∀ σ H, Pv n σ H → nx σ H) : LoopOk (Itr lo n) g tb nx rt σ H :=
  for_range (D := Ends.mk nx rt nx nx) Pv h0 hs hd
theorem loop_range0 {n : Nat} (Pv : Nat → L2.St → Hp → Prop) (h0 : Pv 0 σ H)
    (hs : ∀ (i : Nat) σ H, i < n → Pv i σ H → g (.int (i : Int)) σ H fun σ2 H2 => tb (Ends.mk (Pv (i + 1)) rt nx (Pv (i + 1))) σ2 H2) (hd : ∀ σ H, Pv n σ H → nx σ H) : LoopOk (Itr 0 n) g tb nx rt σ H :=
  loop_range Pv h0 (fun i σ H hi p => by rw [Int.zero_add]; exact hs i σ H hi p) hd
theorem loop_list {a : Addr} {xs : List V} (Pv : Nat → L2.St → Hp → Prop) (h0 : Pv 0 σ H) (hl : ∀ i σ H, i ≤ xs.length → Pv i σ H → SqL K H a xs)
    (hs : ∀ i x σ H, xs[i]? = some x → Pv i σ H → g x σ H fun σ2 H2 => tb (Ends.mk (Pv (i + 1)) rt nx (Pv (i + 1))) σ2 H2) (hd : ∀ σ H, Pv xs.length σ H → nx σ H) : LoopOk (Itl K a) g tb nx rt σ H :=
  for_list (D := Ends.mk nx rt nx nx) Pv h0 hl hs hd
/-- over a list of ints -/
theorem loop_ints {a : Addr} {ns : List Int} (Pv : Nat → L2.St → Hp → Prop) (h0 : Pv 0 σ H) (hl : ∀ i σ H, Pv i σ H → SqL K H a (ns.map V.int))
    (hs : ∀ i n σ H, ns[i]? = some n → Pv i σ H → g (.int n) σ H fun σ2 H2 => tb (Ends.mk (Pv (i + 1)) rt nx (Pv (i + 1))) σ2 H2) (hd : ∀ σ H, Pv ns.length σ H → nx σ H) : LoopOk (Itl K a) g tb nx rt σ H :=
  loop_list (xs := ns.map V.int) Pv h0 (fun i σ H _ p => hl i σ H p) (fun i x σ H hx p => by
    obtain ⟨n, hn, rfl⟩ := of_mapint hx
    exact hs i n σ H hn p) (fun σ H p => hd σ H (by rw [List.length_map] at p; exact p))
theorem loop_tup {a : Addr} {xs : List V} (Pv : Nat → L2.St → Hp → Prop) (h0 : Pv 0 σ H) (hl : ∀ i σ H, i ≤ xs.length → Pv i σ H → SqT K H a xs)
    (hs : ∀ i x σ H, xs[i]? = some x → Pv i σ H → g x σ H fun σ2 H2 => tb (Ends.mk (Pv (i + 1)) rt nx (Pv (i + 1))) σ2 H2) (hd : ∀ σ H, Pv xs.length σ H → nx σ H) : LoopOk (Itt K a) g tb nx rt σ H :=
  for_tup (D := Ends.mk nx rt nx nx) Pv h0 hl hs hd
def WBody (W : Nat → L2.St → Hp → Prop) (m : Nat) (tb : TS) (rt : VK) (nx : L2.St → Hp → Prop) (σ : L2.St) (H : Hp) : Prop :=
  ∃ N : L2.St → Hp → Prop, (∀ σ' H', N σ' H' → ∃ m', m' < m ∧ W m' σ' H') ∧ tb (Ends.mk N rt nx N) σ H
theorem m_wbody {W : Nat → L2.St → Hp → Prop} {m : Nat} (h : tb (Ends.mk (fun σ' H' => ∃ m', m' < m ∧ W m' σ' H') rt nx (fun σ' H' => ∃ m', m' < m ∧ W m' σ' H')) σ H) : WBody W m tb rt nx σ H := ⟨_, fun _ _ h => h, h⟩
theorem loop_while (W : Nat → L2.St → Hp → Prop) (m : Nat) (h0 : W m σ H)
    (hs : ∀ m σ H, W m σ H → c σ H fun b H1 => if b = true then WBody W m tb rt nx σ H1 else nx σ H1) : tWhile c tb (Ends.mk nx rt bk ct) σ H := ⟨W, ⟨m, h0⟩, hs⟩
/-- a comprehension over what J yields -/
def CompOk (J : It) (g : TG) (tt : TT) (te : TE) (vs : List Nat) (σ : L2.St) (H1 : Hp) (Q : VK) : Prop :=
  ∀ D, H1 D = none → ∃ W : Nat → Nat → Hp → Prop, (∃ m, W 0 m (upd H1 D (.lst []))) ∧ ∀ i m H, W i m H →
  (J.stop i H ∧ Q (.ref D) H) ∨ (J.go i H ∧ ∃ Nx : Hp → Prop, (∀ H', Nx H' → ∃ m', m' < m ∧ W (i + 1) m' H') ∧ ∀ x H', J.yld i H x H' → g x (wipe σ vs) H' fun σ2 H2 => wipe σ2 vs = wipe σ vs ∧ tt σ2 H2 fun b H3 =>
    if b = true then te σ2 H3 fun y H4 => ∃ acc, H4 D = some (.lst acc) ∧ acc.length < sizeLine ∧ Nx (upd H4 D (.lst (acc ++ [y]))) else Nx H3)
theorem m_lc {tt : TT} {te : TE} {vs : List Nat} (h : wi σ H fun J H1 => CompOk J g tt te vs σ H1 Q) : tLc wi g tt te vs σ H Q := h
/-- over a range, no test, pure elements f i: the list made -/
theorem comp_rangeV {n : Nat} {te : TE} {j : Nat} {f : Nat → V} (hn : n ≤ 100000)
    (he : ∀ (k : Nat) (H2 : Hp) (Q2 : VK), k < n → Same H H2 → (∀ H3, Same H2 H3 → Q2 (f k) H3) → te ((wipe σ [j]).set j (some (.int (k : Int)))) H2 Q2)
    (q : ∀ p H', H p = none → Same H H' → H' p = some (.lst ((List.range n).map f)) → Q (.ref p) H') (hw : ∀ x, wipe ((wipe σ [j]).set j (some x)) [j] = wipe σ [j] := by intro _; rfl) : CompOk (Itr 0 n) (gName j) tYes te [j] σ H Q := by
  intro Dl hD
  refine lc_range (lo := 0) (n := n) (fun i H' => Same H H' ∧ H' Dl = some (.lst ((List.range i).map f))) ⟨same_new hD, upd_same⟩ (fun i H' hi p => ?_) (fun H' p => q Dl H' hD p.1 p.2)
  obtain ⟨p1, p2⟩ := p
  refine ⟨hw _, ?_⟩
  refine k_yes (iteT ?_)
  rw [Int.zero_add]
  refine he i H' _ hi p1 (fun H3 s3 => ⟨_, s3.get p2, ?_, Same.mut (p1.trans s3) hD ⟨_, s3.get p2⟩, ?_⟩)
  · rw [List.length_map, List.length_range]; exact Nat.lt_of_lt_of_le (Nat.lt_of_lt_of_le hi hn) (by decide)
  · rw [upd_same, List.range_succ, List.map_append]; rfl
/-- over a list, no test, pure elements -/
theorem comp_listV {a : Addr} {xs ys : List V} {te : TE} {j : Nat} (hl : SqL K H a xs) (hn : xs.length ≤ 100000) (hy : ys.length = xs.length)
    (he : ∀ (k : Nat) (x y : V) (H2 : Hp) (Q2 : VK), xs[k]? = some x → ys[k]? = some y → Same H H2 → (∀ H3, Same H2 H3 → Q2 y H3) → te ((wipe σ [j]).set j (some x)) H2 Q2)
    (q : ∀ p H', H p = none → Same H H' → H' p = some (.lst ys) → Q (.ref p) H') (hw : ∀ x, wipe ((wipe σ [j]).set j (some x)) [j] = wipe σ [j] := by intro _; rfl) : CompOk (Itl K a) (gName j) tYes te [j] σ H Q := by
  intro Dl hD
  refine lc_list (xs := xs) (fun i H' => Same H H' ∧ H' Dl = some (.lst (ys.take i))) ⟨same_new hD, upd_same⟩ (fun i H' _ p => p.1.seq hl) (fun i x H' hi p => ?_) (fun H' p => q Dl H' hD p.1 (by rw [p.2, ← hy, List.take_length]))
  obtain ⟨p1, p2⟩ := p
  refine ⟨hw _, ?_⟩
  refine k_yes (iteT ?_)
  have hlt : i < xs.length := (List.getElem?_eq_some_iff.mp hi).1
  obtain ⟨y, ey⟩ : ∃ y, ys[i]? = some y := ⟨ys[i]'(by omega), List.getElem?_eq_getElem (by omega)⟩
  refine he i x y H' _ hi ey p1 (fun H3 s3 => ⟨_, s3.get p2, ?_, Same.mut (p1.trans s3) hD ⟨_, s3.get p2⟩, ?_⟩)
  · rw [List.length_take]; exact Nat.lt_of_le_of_lt (Nat.min_le_right _ _) (Nat.lt_of_lt_of_le (show ys.length < 100001 by omega) (by decide))
  · rw [upd_same, List.take_add_one, ey]; rfl
/-- over a list, no test, elements of which something is known -/
theorem comp_listP {a : Addr} {xs : List V} {te : TE} {j : Nat} (P : Nat → V → Prop) (hl : SqL K H a xs) (hn : xs.length ≤ 100000)
    (he : ∀ (k : Nat) (x : V) (H2 : Hp) (Q2 : VK), xs[k]? = some x → Same H H2 → (∀ y H3, P k y → Same H2 H3 → Q2 y H3) → te ((wipe σ [j]).set j (some x)) H2 Q2)
    (q : ∀ p H' ys, H p = none → Same H H' → H' p = some (.lst ys) → ys.length = xs.length → (∀ k y, ys[k]? = some y → P k y) → Q (.ref p) H') (hw : ∀ x, wipe ((wipe σ [j]).set j (some x)) [j] = wipe σ [j] := by intro _; rfl) : CompOk (Itl K a) (gName j) tYes te [j] σ H Q := by
  intro Dl hD
  refine lc_list (xs := xs) (fun i H' => Same H H' ∧ ∃ ys, H' Dl = some (.lst ys) ∧ ys.length = i ∧ ∀ k y, ys[k]? = some y → P k y) ⟨same_new hD, [], upd_same, rfl, fun k y e => by simp at e⟩ (fun i H' _ p => p.1.seq hl) (fun i x H' hi p => ?_) (fun H' p => ?_)
  · obtain ⟨p1, ys, p2, p3, p4⟩ := p
    refine ⟨hw _, ?_⟩
    refine k_yes (iteT ?_)
    have hlt : i < xs.length := (List.getElem?_eq_some_iff.mp hi).1
    refine he i x H' _ hi p1 (fun y H3 hy s3 => ⟨_, s3.get p2, by rw [p3]; exact Nat.lt_of_lt_of_le (Nat.lt_of_lt_of_le hlt hn) (by decide), Same.mut (p1.trans s3) hD ⟨_, s3.get p2⟩, ys ++ [y], upd_same, by rw [List.length_append, p3]; rfl, fun k z e => ?_⟩)
    rcases Nat.lt_or_ge k ys.length with w | w
    · rw [List.getElem?_append_left w] at e; exact p4 k z e
    · rw [List.getElem?_append_right w] at e
      obtain ⟨h1, h2⟩ := List.getElem?_eq_some_iff.mp e
      rw [List.length_singleton] at h1
      have hk : k = i := by omega
      have e2 : z = y := by
        rw [show k - ys.length = 0 by omega] at e
        exact (Option.some.inj e).symm
      rw [hk, e2]; exact hy
  · obtain ⟨p1, ys, p2, p3, p4⟩ := p
    exact q Dl H' ys hD p1 p2 p3 p4
end
/-! ### loops over any walk -/
section
variable {σ : L2.St} {H : Hp} {Q rt : VK} {nx bk ct : L2.St → Hp → Prop} {t u tb : TS} {g : TG} {i : Nat} {x : V} {K : PySem.W.Frag} {J : It} {n : Nat} {G : Hp → Prop} {Y : Nat → Hp → V → Hp → Prop}
theorem loop_walk (w : Walk J n G Y) (Pv : Nat → L2.St → Hp → Prop) (h0 : Pv 0 σ H) (hG : ∀ i σ H, Pv i σ H → G H)
    (hs : ∀ i x σ H H', i < n → Pv i σ H → Y i H x H' → g x σ H' fun σ2 H2 => tb (Ends.mk (Pv (i + 1)) rt nx (Pv (i + 1))) σ2 H2) (hd : ∀ σ H, Pv n σ H → nx σ H) : LoopOk J g tb nx rt σ H :=
  for_it (D := Ends.mk nx rt nx nx) w Pv h0 (fun i σ H _ p => hG i σ H p) hs hd
/-- a comprehension with a test: at each turn the item is dropped, or f i is kept -/
theorem comp_walkV {te : TE} {tt : TT} {j : Nat} {f : Nat → Option V} (w : Walk J n G Y) (hn : n ≤ 100000) (hG : ∀ H', Same H H' → G H')
    (he : ∀ (k : Nat) (x : V) (H1 H2 : Hp) (Qb : Bool → Hp → Prop), k < n → Same H H1 → Y k H1 x H2 → (∀ b H3, Same H1 H3 → (b = true → ∀ Q2 : VK, ∀ H4, Same H3 H4 → ∃ y, f k = some y ∧ ((∀ H5, Same H4 H5 → Q2 y H5) → te ((wipe σ [j]).set j (some x)) H4 Q2)) → (b = false → f k = none) → Qb b H3) → tt ((wipe σ [j]).set j (some x)) H2 Qb)
    (q : ∀ p H', H p = none → Same H H' → H' p = some (.lst ((List.range n).filterMap f)) → Q (.ref p) H') (hw : ∀ x, wipe ((wipe σ [j]).set j (some x)) [j] = wipe σ [j] := by intro _; rfl) : CompOk J (gName j) tt te [j] σ H Q := by
  intro Dl hD
  refine lc_it w (fun i H' => Same H H' ∧ H' Dl = some (.lst ((List.range i).filterMap f))) ⟨same_new hD, upd_same⟩ (fun i H' _ p => hG H' p.1) (fun i x H' H'' hi p hy => ?_) (fun H' p => q Dl H' hD p.1 p.2)
  obtain ⟨p1, p2⟩ := p
  refine ⟨hw _, he i x H' H'' _ hi p1 hy (fun b H3 s3 hb1 hb0 => ?_)⟩
  have hl : ((List.range i).filterMap f).length < sizeLine := Nat.lt_of_le_of_lt (List.length_filterMap_le f (List.range i)) (by rw [List.length_range]; exact Nat.lt_of_lt_of_le (Nat.lt_of_lt_of_le hi hn) (by decide))
  cases b with
  | true =>
    refine iteT ?_
    obtain ⟨y, ey, go⟩ := hb1 rfl (fun y H4 => ∃ acc, H4 Dl = some (.lst acc) ∧ acc.length < sizeLine ∧ Same H (upd H4 Dl (.lst (acc ++ [y]))) ∧ upd H4 Dl (.lst (acc ++ [y])) Dl = some (.lst ((List.range (i + 1)).filterMap f))) H3 (Same.refl _)
    refine go fun H5 s5 => ⟨_, s5.get (s3.get p2), hl, Same.mut ((p1.trans s3).trans s5) hD ⟨_, s5.get (s3.get p2)⟩, ?_⟩
    rw [upd_same, List.range_succ, List.filterMap_append]
    show _ = some (HO.lst (_ ++ List.filterMap f [i]))
    rw [List.filterMap_cons, ey]; rfl
  | false =>
    refine iteF ⟨p1.trans s3, ?_⟩
    rw [List.range_succ, List.filterMap_append]
    rw [show List.filterMap f [i] = [] by rw [List.filterMap_cons, hb0 rfl]; rfl, List.append_nil]
    exact s3.get p2
theorem k_rev {a : Addr} {xs : List V} {ta : TA} {R : It → Hp → Prop} (h : ta σ H fun vs H1 => ∃ (a : Addr) (xs : List V), vs = [.ref a] ∧ SqL K H1 a xs ∧ R (Itv K a xs.length) H1) : iRev K ta σ H R := h
def RevK (K : PySem.W.Frag) (R : It → Hp → Prop) (vs : List V) (H : Hp) : Prop := ∃ (a : Addr) (xs : List V), vs = [.ref a] ∧ SqL K H a xs ∧ R (Itv K a xs.length) H
theorem m_rev {ta : TA} {R : It → Hp → Prop} (h : ta σ H (RevK K R)) : iRev K ta σ H R := h
theorem m_revE {a : Addr} {xs : List V} {R : It → Hp → Prop} (hx : SqL K H a xs) (h : R (Itv K a xs.length) H) : RevK K R [.ref a] H := ⟨a, xs, rfl, hx, h⟩
def EnumK (K : PySem.W.Frag) (R : It → Hp → Prop) (vs : List V) (H : Hp) : Prop := ∃ (a : Addr) (xs : List V), vs = [.ref a] ∧ SqL K H a xs ∧ R (Ite K a) H
theorem m_enum {ta : TA} {R : It → Hp → Prop} (h : ta σ H (EnumK K R)) : iEnum K ta σ H R := h
theorem m_enumE {a : Addr} {xs : List V} {R : It → Hp → Prop} (hx : SqL K H a xs) (h : R (Ite K a) H) : EnumK K R [.ref a] H := ⟨a, xs, rfl, hx, h⟩
def ZipK (K : PySem.W.Frag) (R : It → Hp → Prop) (vs : List V) (H : Hp) : Prop := ∃ a b xs ys, vs = [.ref a, .ref b] ∧ SqL K H a xs ∧ SqL K H b ys ∧ R (Itz K a b) H
theorem m_zip {ta : TA} {R : It → Hp → Prop} (h : ta σ H (ZipK K R)) : iZip K ta σ H R := h
theorem m_zipE {a b : Addr} {xs ys : List V} {R : It → Hp → Prop} (hx : SqL K H a xs) (hy : SqL K H b ys) (h : R (Itz K a b) H) : ZipK K R [.ref a, .ref b] H := ⟨a, b, xs, ys, rfl, hx, hy, h⟩
def RevLK (K : PySem.W.Frag) (Q : VK) (x : V) (H : Hp) : Prop := ∃ a xs, x = .ref a ∧ SqL K H a xs ∧ ∀ p, H p = none → Q (.ref p) (upd H p (.lst xs.reverse))
theorem m_revL {te : TE} (h : te σ H (RevLK K Q)) : tRevL K te σ H Q := h
theorem m_revLE {a : Addr} {xs : List V} (hx : SqL K H a xs) (q : ∀ p, H p = none → Q (.ref p) (upd H p (.lst xs.reverse))) : RevLK K Q (.ref a) H := ⟨a, xs, rfl, hx, q⟩
def Rng3K (R : It → Hp → Prop) (vs : List V) (H : Hp) : Prop := ∃ i j c n, vs = [.int i, .int j, .int c] ∧ RgC i j c n ∧ R (Itc i c n) H
theorem m_rng3 {ta : TA} {R : It → Hp → Prop} (h : ta σ H (Rng3K R)) : iRng3 ta σ H R := h
theorem m_rng3e {R : It → Hp → Prop} {a b c : Int} {n : Nat} (h1 : RgC a b c n) (h : R (Itc a c n) H) : Rng3K R [V.int a, V.int b, V.int c] H := ⟨a, b, c, n, rfl, h1, h⟩
/-- targets that are pairs -/
def GTupK (K : PySem.W.Frag) (n : Nat) (tg : TGs) (Qs : L2.St → Hp → Prop) (x : V) (σ : L2.St) (H : Hp) : Prop := ∃ a xs, x = .ref a ∧ SqT K H a xs ∧ xs.length = n ∧ tg xs σ H Qs
theorem m_gTup {tg : TGs} {Qs : L2.St → Hp → Prop} {a : Addr} {xs : List V} (hx : SqT K H a xs) (hn : xs.length = n) (h : tg xs σ H Qs) : gTup K n tg (.ref a) σ H Qs := ⟨a, xs, rfl, hx, hn, h⟩
theorem m_gCons {t1 : TG} {ts : TGs} {Qs : L2.St → Hp → Prop} {xs : List V} (h : t1 x σ H fun σ' H' => ts xs σ' H' Qs) : gCons t1 ts (x :: xs) σ H Qs := ⟨x, xs, rfl, h⟩
theorem m_gNil {Qs : L2.St → Hp → Prop} (h : Qs σ H) : gNil [] σ H Qs := ⟨rfl, h⟩
theorem m_asg {te : TE} (h : te σ H fun x H1 => g x σ H1 nx) : tAsg te g (Ends.mk nx rt bk ct) σ H := h
theorem k_rep {Q : VK} {l : Addr} {xs : List V} {n : Nat} (h : H l = some (.lst xs)) (hn : xs.length * n ≤ 1000000) (hn2 : n ≤ 1000000) (q : ∀ p, H p = none → Q (.ref p) (upd H p (.lst (List.replicate n xs).flatten))) : rRep (.ref l) (.int (n : Int)) H Q :=
  ⟨l, n, xs, rfl, rfl, h, by omega, by omega, by rw [Int.toNat_natCast]; exact Nat.le_trans hn (by decide), by rw [Int.toNat_natCast]; exact q⟩
theorem k_cat {Q : VK} {l b : Addr} {xs zs : List V} (h1 : H l = some (.lst xs)) (h2 : H b = some (.lst zs)) (hn : xs.length + zs.length ≤ 1000000) (q : ∀ p, H p = none → Q (.ref p) (upd H p (.lst (xs ++ zs)))) : rCat (.ref l) (.ref b) H Q :=
  ⟨l, b, xs, zs, rfl, rfl, h1, h2, Nat.le_trans hn (by decide), q⟩
theorem rep_one (x : V) (n : Nat) : (List.replicate n [x]).flatten = List.replicate n x := by
  induction n with
  | zero => rfl
  | succ n ih => rw [List.replicate_succ, List.flatten_cons, ih]; rfl
theorem m_gSub {to ti : TE} {ts : TSet} {Qs : L2.St → Hp → Prop} (h : to σ H fun o H1 => ti σ H1 fun i H2 => ts o i x H2 fun H3 => Qs σ H3) : gSub to ti ts x σ H Qs := h
theorem m_setL {p : Addr} {xs : List V} {k : Int} {j : Nat} {y : V} {Qh : Hp → Prop} (h : H p = some (.lst xs)) (hj : ixN xs.length k = some j) (q : Qh (upd H p (.lst (xs.set j y)))) : rSetL (.ref p) (.int k) y H Qh := ⟨p, xs, k, j, rfl, rfl, h, hj, q⟩
theorem ixN_nat {n : Nat} {k : Int} (h0 : 0 ≤ k) (h1 : k < n) : ixN n k = some k.toNat := by
  unfold ixN; rw [if_pos h0, if_pos h1]
def ParK (nx : L2.St → Hp → Prop) (i j : Nat) (σ : L2.St) (vs : List V) (H : Hp) : Prop := ∃ v w, vs = [v, w] ∧ nx ((σ.set i (some v)).set j (some w)) H
theorem m_par {i j : Nat} {ta : TA} (h : ta σ H (ParK nx i j σ)) : tPar i j ta (Ends.mk nx rt bk ct) σ H := h
theorem m_parE {i j : Nat} {a b : V} (h : nx ((σ.set i (some a)).set j (some b)) H) : ParK nx i j σ [a, b] H := ⟨a, b, rfl, h⟩
theorem k_divmod {Q : VK} {a b : Int} (h : CDivP a b) (q : ∀ p, H p = none → Q (.ref p) (upd H p (.tup [.int (a / b), .int (a % b)]))) : rDivmod [.int a, .int b] H Q := ⟨a, b, rfl, h, q⟩
end
/-! ### what a comprehension with a test leaves -/
theorem fm_head {α : Type} {f : Nat → Option α} : ∀ {n : Nat} {y : α}, ((List.range n).filterMap f)[0]? = some y → ∃ i, i < n ∧ f i = some y ∧ ∀ j, j < i → f j = none
  | 0, y, h => by simp at h
  | n + 1, y, h => by
    rw [List.range_succ, List.filterMap_append] at h
    cases e : (List.range n).filterMap f with
    | cons z zs =>
      rw [e] at h
      have h' : ((List.range n).filterMap f)[0]? = some y := by rw [e]; simpa using h
      obtain ⟨i, h1, h2, h3⟩ := fm_head h'
      exact ⟨i, by omega, h2, h3⟩
    | nil =>
      rw [e, List.nil_append] at h
      have none_all : ∀ j, j < n → f j = none := fun j hj => List.filterMap_eq_nil_iff.mp e j (List.mem_range.mpr hj)
      cases q : f n with
      | none => rw [List.filterMap_cons, q] at h; simp at h
      | some z =>
        rw [List.filterMap_cons, q] at h
        have : z = y := by simpa using h
        subst this
        exact ⟨n, by omega, q, none_all⟩
theorem fm_last {α : Type} {f : Nat → Option α} : ∀ {n : Nat} {y : α} {ys : List α}, (List.range n).filterMap f = ys ++ [y] → ∃ i, i < n ∧ f i = some y ∧ ∀ j, i < j → j < n → f j = none
  | 0, y, ys, h => by simp at h
  | n + 1, y, ys, h => by
    rw [List.range_succ, List.filterMap_append] at h
    cases q : f n with
    | none =>
      rw [show List.filterMap f [n] = [] by rw [List.filterMap_cons, q]; rfl, List.append_nil] at h
      obtain ⟨i, h1, h2, h3⟩ := fm_last h
      refine ⟨i, by omega, h2, fun j h4 h5 => ?_⟩
      rcases Nat.lt_or_ge j n with h6 | h6
      · exact h3 j h4 h6
      · have : j = n := by omega
        subst this; exact q
    | some z =>
      rw [show List.filterMap f [n] = [z] by rw [List.filterMap_cons, q]; rfl] at h
      have e := List.append_inj_right' h rfl
      injection e with e
      subst e
      exact ⟨n, by omega, q, fun j h4 h5 => by omega⟩
theorem fm_nil {α : Type} {f : Nat → Option α} {n : Nat} (h : (List.range n).filterMap f = []) : ∀ j, j < n → f j = none := fun j hj => List.filterMap_eq_nil_iff.mp h j (List.mem_range.mpr hj)
theorem fm_id {α : Type} (l : List α) {n : Nat} (hn : n = l.length) : (List.range n).filterMap (fun k => l[k]?) = l := by
  subst hn
  have h : ∀ n, n ≤ l.length → (List.range n).filterMap (fun k => l[k]?) = l.take n := by
    intro n
    induction n with
    | zero => intro _; rfl
    | succ n ih =>
      intro hn
      rw [List.range_succ, List.filterMap_append, ih (by omega), List.take_add_one, List.getElem?_eq_getElem (show n < l.length by omega)]
      congr 1
      rw [List.filterMap_cons, List.getElem?_eq_getElem (show n < l.length by omega)]; rfl
  rw [h _ (Nat.le_refl _), List.take_length]
theorem snoc_of {α : Type} : ∀ {l : List α}, l ≠ [] → ∃ ys y, l = ys ++ [y]
  | [], h => absurd rfl h
  | a :: l, _ => ⟨(a :: l).dropLast, (a :: l).getLast (List.cons_ne_nil _ _), (List.dropLast_concat_getLast _).symm⟩
theorem cutPart (xs : List V) (a b : Nat) : cutV xs (some (a : Int)) (some (b : Int)) = (xs.take b).drop a := by
  unfold cutV
  rw [HT.sIx_nat, HT.sIx_nat, List.drop_take]
  rcases Nat.le_total a xs.length with h | h
  · rw [Nat.min_eq_left h]
    rcases Nat.le_total b xs.length with h2 | h2
    · rw [Nat.min_eq_left h2]
    · rw [Nat.min_eq_right h2, List.take_of_length_le (by rw [List.length_drop]; omega), List.take_of_length_le (by rw [List.length_drop]; omega)]
  · rw [Nat.min_eq_right h, List.drop_of_length_le (Nat.le_refl _), List.drop_of_length_le h]
    simp
/-- a part of a list of ints -/
theorem cut_ints (ns : List Int) (lo hi : Option Int) : ∃ cs : List Int, cutV (ns.map V.int) lo hi = cs.map V.int ∧ (∀ x ∈ cs, x ∈ ns) ∧ cs.length ≤ ns.length := by
  unfold cutV
  refine ⟨_, by rw [← List.map_drop, ← List.map_take], fun x h => List.mem_of_mem_drop (List.mem_of_mem_take h), by rw [List.length_take, List.length_drop]; omega⟩
theorem cutDrop (xs : List V) (a : Nat) : cutV xs (some (a : Int)) none = xs.drop a := by
  unfold cutV
  rw [HT.sIx_nat, HT.sIx_none]
  rcases Nat.le_total a xs.length with h | h
  · rw [Nat.min_eq_left h, List.take_of_length_le (by rw [List.length_drop]; omega)]
  · rw [Nat.min_eq_right h, List.drop_of_length_le (Nat.le_refl _), List.drop_of_length_le h]
    simp
/-! ### data at any depth -/
section
variable {H H' : Hp} {K : PySem.W.Frag}
theorem dpAll_ints : ∀ ns : List Int, DpAll K H (ns.map V.int) (ns.map PyData.int)
  | [] => .nil
  | n :: ns => .cons (.int n) (dpAll_ints ns)
theorem dpAll_bools : ∀ bs : List Bool, DpAll K H (bs.map V.bl) (bs.map PyData.bool)
  | [] => .nil
  | b :: bs => .cons (.bl b) (dpAll_bools bs)
theorem dp_ints {a : Addr} {ns : List Int} (h : SqL K H a (ns.map V.int)) : Dp K H (.ref a) (.list (ns.map PyData.int)) := .lst h (dpAll_ints ns)
theorem dp_intsT {a : Addr} {ns : List Int} (h : SqT K H a (ns.map V.int)) : Dp K H (.ref a) (.tuple (ns.map PyData.int)) := .tup h (dpAll_ints ns)
theorem eqvAll_ints : ∀ as bs : List Int, PyData.eqvAll (as.map PyData.int) (bs.map PyData.int) = decide (as = bs)
  | [], [] => by rw [List.map_nil]; unfold PyData.eqvAll; rfl
  | [], b :: bs => by rw [List.map_nil, List.map_cons]; unfold PyData.eqvAll; simp
  | a :: as, [] => by rw [List.map_nil, List.map_cons]; unfold PyData.eqvAll; simp
  | a :: as, b :: bs => by
    rw [List.map_cons, List.map_cons]; unfold PyData.eqvAll
    rw [eqvAll_ints as bs]
    unfold PyData.eqv
    by_cases h : a = b
    · subst h; by_cases h2 : as = bs
      · subst h2; simp
      · simp [h2]
    · simp [h]
theorem eqv_ints (as bs : List Int) : PyData.eqv (.list (as.map PyData.int)) (.list (bs.map PyData.int)) = decide (as = bs) := by
  unfold PyData.eqv; exact eqvAll_ints as bs
theorem eqv_intsT (as bs : List Int) : PyData.eqv (.tuple (as.map PyData.int)) (.tuple (bs.map PyData.int)) = decide (as = bs) := by
  unfold PyData.eqv; exact eqvAll_ints as bs
/-- laid: no dict, texts in order, at most so deep -/
def laid (n : Nat) (d : PyData) : Prop := d.canLay0 = true ∧ d.depth ≤ n
theorem laid_int {n : Nat} (i : Int) : laid n (.int i) := ⟨by simp [PyData.canLay0], by simp [PyData.depth]⟩
theorem laid_bool {n : Nat} (i : Bool) : laid n (.bool i) := ⟨by simp [PyData.canLay0], by simp [PyData.depth]⟩
theorem laid_none {n : Nat} : laid n .none := ⟨by simp [PyData.canLay0], by simp [PyData.depth]⟩
theorem laid_all {n : Nat} : ∀ ds : List PyData, (∀ d ∈ ds, laid n d) → PyData.canLayAll0 ds = true ∧ PyData.depthAll ds ≤ n
  | [], _ => ⟨by simp [PyData.canLayAll0], by simp [PyData.depthAll]⟩
  | d :: ds, h => by
    obtain ⟨h1, h2⟩ := h d List.mem_cons_self
    obtain ⟨h3, h4⟩ := laid_all ds fun x hx => h x (List.mem_cons_of_mem _ hx)
    exact ⟨by simp [PyData.canLayAll0, h1, h3], by simp only [PyData.depthAll]; omega⟩
theorem laid_list {n : Nat} {ds : List PyData} (h : ∀ d ∈ ds, laid n d) : laid (n + 1) (.list ds) := by
  obtain ⟨h1, h2⟩ := laid_all ds h
  exact ⟨by simp [PyData.canLay0, h1], by simp only [PyData.depth]; omega⟩
theorem laid_tup {n : Nat} {ds : List PyData} (h : ∀ d ∈ ds, laid n d) : laid (n + 1) (.tuple ds) := by
  obtain ⟨h1, h2⟩ := laid_all ds h
  exact ⟨by simp [PyData.canLay0, h1], by simp only [PyData.depth]; omega⟩
theorem laid_ints {n : Nat} (ns : List Int) : laid (n + 1) (.list (ns.map PyData.int)) := laid_list fun d hd => by
  obtain ⟨i, _, rfl⟩ := List.mem_map.mp hd
  exact laid_int i
theorem laid_intsT {n : Nat} (ns : List Int) : laid (n + 1) (.tuple (ns.map PyData.int)) := laid_tup fun d hd => by
  obtain ⟨i, _, rfl⟩ := List.mem_map.mp hd
  exact laid_int i
theorem laid_bools {n : Nat} (bs : List Bool) : laid (n + 1) (.list (bs.map PyData.bool)) := laid_list fun d hd => by
  obtain ⟨i, _, rfl⟩ := List.mem_map.mp hd
  exact laid_bool i
theorem laid_shaped {d : PyData} (h : laid 64 d) : SeqAt.shaped d = true := by
  obtain ⟨h1, h2⟩ := h
  unfold SeqAt.shaped
  rw [h1, decide_eq_true h2]; rfl
theorem k_eqD {Q : VK} {x y : V} {d e : PyData} (h1 : Dp K H x d) (h2 : Dp K H y e) (l1 : laid 64 d) (l2 : laid 64 e) (q : Q (.bl (PyData.eqv d e)) H) : rEqD K x y H Q :=
  ⟨d, e, h1, h2, laid_shaped l1, laid_shaped l2, q⟩
theorem k_neD {Q : VK} {x y : V} {d e : PyData} (h1 : Dp K H x d) (h2 : Dp K H y e) (l1 : laid 64 d) (l2 : laid 64 e) (q : Q (.bl (!PyData.eqv d e)) H) : rNeD K x y H Q :=
  ⟨d, e, h1, h2, laid_shaped l1, laid_shaped l2, q⟩
theorem k_eqL {Q : VK} {a b : Addr} {ns ms : List Int} (h1 : SqL K H a (ns.map V.int)) (h2 : SqL K H b (ms.map V.int)) (q : Q (.bl (decide (ns = ms))) H) : rEqD K (.ref a) (.ref b) H Q :=
  k_eqD (dp_ints h1) (dp_ints h2) (laid_ints ns) (laid_ints ms) (by rw [eqv_ints]; exact q)
theorem k_neL {Q : VK} {a b : Addr} {ns ms : List Int} (h1 : SqL K H a (ns.map V.int)) (h2 : SqL K H b (ms.map V.int)) (q : Q (.bl (!decide (ns = ms))) H) : rNeD K (.ref a) (.ref b) H Q :=
  k_neD (dp_ints h1) (dp_ints h2) (laid_ints ns) (laid_ints ms) (by rw [eqv_ints]; exact q)
end
/-- a row's tables: a number and a tuple of numbers -/
theorem eqv_row (n : Int) (as : List Int) : PyData.eqv (.tuple [.int n, .tuple (as.map PyData.int)]) (.tuple [.int n, .tuple (as.map PyData.int)]) = true := by
  unfold PyData.eqv PyData.eqvAll; unfold PyData.eqv PyData.eqvAll
  simp [eqv_intsT, PyData.eqvAll]
theorem dp_row {K : PySem.W.Frag} {H : Hp} {t a : Addr} {n : Int} {as : List Int} (h1 : SqT K H t [.int n, .ref a]) (h2 : SqT K H a (as.map V.int)) : Dp K H (.ref t) (.tuple [.int n, .tuple (as.map PyData.int)]) :=
  .tup h1 (.cons (.int n) (.cons (dp_intsT h2) .nil))
theorem laid_row (n : Int) (as : List Int) : laid 64 (.tuple [.int n, .tuple (as.map PyData.int)]) := laid_tup (n := 63) fun d hd => by
  simp only [List.mem_cons, List.not_mem_nil, or_false] at hd
  rcases hd with rfl | rfl
  · exact laid_int _
  · exact laid_intsT _
theorem k_eqRow {K : PySem.W.Frag} {H : Hp} {Q : VK} {t u a b : Addr} {n : Int} {as : List Int} (h1 : SqT K H t [.int n, .ref a]) (h2 : SqT K H a (as.map V.int)) (h3 : SqT K H u [.int n, .ref b]) (h4 : SqT K H b (as.map V.int)) (q : Q (.bl true) H) : rEqD K (.ref t) (.ref u) H Q :=
  k_eqD (dp_row h1 h2) (dp_row h3 h4) (laid_row n as) (laid_row n as) (by rw [eqv_row]; exact q)
theorem any_int (i : Int) : ∀ ns : List Int, ((ns.map PyData.int).any fun z => PyData.eqv z (.int i)) = decide (i ∈ ns)
  | [] => by simp
  | n :: ns => by
    rw [List.map_cons, List.any_cons, any_int i ns]
    unfold PyData.eqv
    by_cases h : n = i
    · subst h; simp
    · have h' : ¬ i = n := fun z => h z.symm
      simp [h, h']
theorem k_inL {K : PySem.W.Frag} {H : Hp} {Q : VK} {i : Int} {a : Addr} {ns : List Int} (h : SqL K H a (ns.map V.int)) (q : Q (.bl (decide (i ∈ ns))) H) : rInD K (.int i) (.ref a) H Q :=
  ⟨.int i, _, .int i, dp_ints h, laid_shaped (laid_int i), laid_shaped (laid_ints ns), by rw [any_int]; exact q⟩
theorem k_notInL {K : PySem.W.Frag} {H : Hp} {Q : VK} {i : Int} {a : Addr} {ns : List Int} (h : SqL K H a (ns.map V.int)) (q : Q (.bl (!decide (i ∈ ns))) H) : rNotInD K (.int i) (.ref a) H Q :=
  ⟨.int i, _, .int i, dp_ints h, laid_shaped (laid_int i), laid_shaped (laid_ints ns), by rw [any_int]; exact q⟩
section
variable {H : Hp} {K : PySem.W.Frag}
theorem eqvAll_bools : ∀ as bs : List Bool, PyData.eqvAll (as.map PyData.bool) (bs.map PyData.bool) = decide (as = bs)
  | [], [] => by rw [List.map_nil]; unfold PyData.eqvAll; rfl
  | [], b :: bs => by rw [List.map_nil, List.map_cons]; unfold PyData.eqvAll; simp
  | a :: as, [] => by rw [List.map_nil, List.map_cons]; unfold PyData.eqvAll; simp
  | a :: as, b :: bs => by
    rw [List.map_cons, List.map_cons]; unfold PyData.eqvAll
    rw [eqvAll_bools as bs]
    unfold PyData.eqv
    by_cases h : a = b
    · subst h; by_cases h2 : as = bs
      · subst h2; simp
      · simp [h2]
    · simp [h]
theorem eqv_bools (as bs : List Bool) : PyData.eqv (.list (as.map PyData.bool)) (.list (bs.map PyData.bool)) = decide (as = bs) := by
  unfold PyData.eqv; exact eqvAll_bools as bs
theorem dp_bools {a : Addr} {bs : List Bool} (h : SqL K H a (bs.map V.bl)) : Dp K H (.ref a) (.list (bs.map PyData.bool)) := .lst h (dpAll_bools bs)
theorem k_eqB {Q : VK} {a b : Addr} (ns ms : List Bool) (h1 : SqL K H a (ns.map V.bl)) (h2 : SqL K H b (ms.map V.bl)) (q : Q (.bl (decide (ns = ms))) H) : rEqD K (.ref a) (.ref b) H Q :=
  k_eqD (dp_bools h1) (dp_bools h2) (laid_bools ns) (laid_bools ms) (by rw [eqv_bools]; exact q)
end
theorem m_neB {H : Hp} {K : PySem.W.Frag} {Q : VK} {a b : Addr} (ns ms : List Bool) (h1 : SqL K H a (ns.map V.bl)) (h2 : SqL K H b (ms.map V.bl)) (q : Q (.bl (!decide (ns = ms))) H) : rNeD K (.ref a) (.ref b) H Q :=
  k_neD (dp_bools h1) (dp_bools h2) (laid_bools ns) (laid_bools ms) (by rw [eqv_bools]; exact q)
theorem room65 {k : Nat} {A : Around} (r : Room k A) : A.units + 65 < cLine := by have := r.un; omega
/-- list + list, whichever way they are known -/
def rCatK (K : PySem.W.Frag) : R2 := fun x y H Q => ∃ l b xs zs, x = .ref l ∧ y = .ref b ∧ SqL K H l xs ∧ SqL K H b zs ∧ xs.length + zs.length ≤ sizeLine ∧ ∀ p, H p = none → Q (.ref p) (upd H p (.lst (xs ++ zs)))
theorem op_catK {X : Cx} : OpR X (binaryOp .Add) (rCatK X.K) := by
  intro pins s σ H x y v u Q I rx ry h
  obtain ⟨l, b, xs, zs, rfl, rfl, hH, hB, hz, q⟩ := h
  cases rx
  cases ry
  obtain ⟨its, r, ⟨⟨cls, dd, data, sl⟩, n, ho, hc, hdd, hd⟩, hl⟩ := I.list hH
  obtain ⟨its2, r2, ⟨⟨cls2, dd2, data2, sl2⟩, n2, ho2, hc2, hdd2, hd2⟩, hl2⟩ := I.list hB
  simp only at hc hdd hd hc2 hdd2 hd2
  subst hc hdd hd hc2 hdd2 hd2
  have h1 := r.length
  have h2 := r2.length
  refine concat_meets ⟨_, ho, rfl⟩ ⟨_, ho2, rfl⟩ noFill_list_add seq_list_add PySem.F.slot_list_add PySem.F.entry_list_add (PySem.F.args_list_add_2 _ _) (list_addW l b its.toArray its2.toArray n n2 none none sl sl2 (by rw [List.size_toArray, List.size_toArray]; omega)) ⟨ho, ho2, ?_⟩
  have ea : its.toArray ++ its2.toArray = (its ++ its2).toArray := by simp
  rw [ea]
  exact ⟨.ref _, _, I.lnew (t' := s.toks) (r.append r2) (by rw [List.length_append]; omega), rfl, q _ I.fresh⟩
theorem k_catK {H : Hp} {K : PySem.W.Frag} {Q : VK} {l b : Addr} {xs zs : List V} (h1 : SqL K H l xs) (h2 : SqL K H b zs) (hn : xs.length + zs.length ≤ 1000000) (q : ∀ p, H p = none → Q (.ref p) (upd H p (.lst (xs ++ zs)))) : rCatK K (.ref l) (.ref b) H Q :=
  ⟨l, b, xs, zs, rfl, rfl, h1, h2, Nat.le_trans hn (by decide), q⟩
/-! ### len(set(xs)) -/
/-- how many unlike numbers -/
def unlike (ns : List Int) : Nat := (PyProof.Rows.firstMet (fun i => ns.getD i 0) ns.length).length
theorem unlike_le (ns : List Int) : unlike ns ≤ ns.length := PyProof.Rows.firstMet_length_le _ _
def tLenSet (K : PySem.W.Frag) (ta : TE) : TE := fun σ H Q => ta σ H fun x H1 => ∃ (l : Addr) (ns : List Int), x = .ref l ∧ SqL K H1 l (ns.map V.int) ∧ ns.length ≤ 4000 ∧ Q (.int (unlike ns : Nat)) H1
theorem intsAre_vals : ∀ {ns : List Int} {us : List Value}, Vals (ns.map V.int) us → PyProof.Rows.IntsAre us ns
  | [], _, .nil => .nil
  | n :: ns, _, .cons r t => by
    obtain ⟨k, rfl⟩ := r
    exact .cons n k (intsAre_vals t)
theorem pe_lenSet {X : Cx} {a : Expr} {ta : TE} {p p2 q pos : Pos} (hg : Gl X "len") (hm : X.mg "len" = none) (hg2 : Gl X "set") (hm2 : X.mg "set" = none) (ha : PE X a ta) (hc : X.calm = true := by rfl)
    (na : starEach [a] X.env = (false, eval a X.env) :: starEach [] X.env := by rfl) : PE X (.Call (.Name "len" p) [.Call (.Name "set" p2) [a] [] q] [] pos) (tLenSet X.K ta) := by
  refine ⟨fun pins s σ H Q I h => ?_⟩
  refine Call_ (ld_blt I hg hm boot_len ?_)
  refine PyProof.Rows.callWith_builtin1 (PyProof.Rows.args_cons ?_ rfl) rfl rfl
  refine Call_ (ld_blt I hg2 hm2 boot_set ?_)
  refine PyProof.Rows.callWith_type1 (PyProof.Rows.args_cons (thn (ha.run pins s σ H _ I h) fun v s1 ⟨x, H1, I1, r1, q1⟩ => PyProof.Rows.args_nil ?_) na) na rfl
  obtain ⟨l, ns, rfl, hq, hl, q1⟩ := q1
  cases r1
  obtain ⟨its, r, pl, hz⟩ := I1.list hq
  have hlen : its.toArray.size = ns.length := by rw [List.size_toArray, ← r.length, List.length_map]
  refine call_set_list (I1.ok.hd hc) pl.isList (by simpa using intsAre_vals r) (by rw [hlen]; unfold scanBound; omega) fun h' tk hS hk => ?_
  refine PyProof.Rows.args_nil ?_
  rw [hlen] at hS
  obtain ⟨o, es, ep, t, ho, hex, hd, _, _, _, hf, hn⟩ := hS
  have I2 : Inv X pins σ H1 { s1 with heap := h', toks := tk } := I1.kept fun b o e => hk b o (Heap.lt_size e) e
  have hu := unlike_le ns
  unfold unlike at hu q1
  exact call_len_set ho hex hd hf (by rw [hn] <;> omega) ⟨.int ((PyProof.Rows.firstMet (fun i => ns.getD i 0) ns.length).length : Nat), H1, I2.tok _, ⟨_, by rw [hn]⟩, q1⟩
section
variable {σ : L2.St} {H : Hp} {Q : VK} {K : PySem.W.Frag} {te : TE}
def LenSetK (K : PySem.W.Frag) (Q : VK) (x : V) (H : Hp) : Prop := ∃ (l : Addr) (ns : List Int), x = .ref l ∧ SqL K H l (ns.map V.int) ∧ ns.length ≤ 4000 ∧ Q (.int (unlike ns : Nat)) H
theorem m_lenSet (h : te σ H (LenSetK K Q)) : tLenSet K te σ H Q := h
theorem m_lenSetE {l : Addr} {ns : List Int} (hS : SqL K H l (ns.map V.int)) (hl : ns.length ≤ 4000) (q : Q (.int (unlike ns : Nat)) H) : LenSetK K Q (.ref l) H := ⟨l, ns, rfl, hS, hl, q⟩
end
/-! ### errors: raised, let through, caught -/
section
variable {X : Cx} {E : XK} {W : WX} {k j : Nat} {ps : List Str} {sp : Sp} {x : Str} {p pos : Pos} {e : Expr} {es : List Expr} {t : TA}
theorem passX (tk : Takes X (fun cls d _ H => E cls d H)) : Passes (L2.CX X.prog X.w) X E := passes_call tk fun _ _ _ _ h => h
/-- raise C('..') -/
def tRz (W : WX) (C : Addr) : TS := fun _ σ H => W (.ref C) none σ H
/-- what stands of the class x: it can be raised -/
structure ExF (K : PySem.W.Frag) (mg : Str → Option Value) (x : Str) : Prop where
  gl : mg x = some (.ref (He.ga K x))
  ex : PySem.W.excIn K (He.ga K x) He.veBase "ValueError.__new__" = true
  kp : PySem.W.keepIn K (.ref (He.ga K x)) = true
  sb : PySem.W.subIn K (.ref (He.ga K x)) (.type "BaseException") = some true
  ty : PySem.W.typeIn K (.ref (He.ga K x)) = some (.type "type")
theorem ps_rz {m : Str} {j : Nat} {p2 pos2 : Pos} (F : ExF X.K X.mg x) (tk : Takes X W) (hc : X.calm = true := by rfl) (hg : Gl X x := by rfl) (hdb : (x == ("__debug__" : Str)) = false := by decide) :
    PS X (.Raise (some (.Call (.Name x p) [.Constant (.str m) j p2] [] pos)) none pos2) (tRz W (He.ga X.K x)) :=
  ps_raise hc tk (pmk_own PySem.F.excBase_ValueError F.ex F.gl F.kp (raises_own F.sb F.ty) hg hdb)
theorem k_rz {D : Ends} {C : Addr} {σ : L2.St} {H : Hp} (h : W (.ref C) none σ H) : tRz W C D σ H := h
/-- a call within a try's body -/
theorem pe_callFS (F : Okf X.prog X.w X.K X.mg X.base (L2.CX X.prog X.w) k x ps sp) (hr : Room j X.A) (hk : k ≤ j) (hg : Gl X x) (tk : Takes X W)
    (ha : PA X (e :: es) t) (hdb : (x == ("__debug__" : Str)) = false := by decide) (he : starEach (e :: es) X.env = (false, eval e X.env) :: starEach es X.env := by rfl) (hpl : (backTo pos (starEach es X.env)).any (·.1) = false := by rfl) :
    PE X (.Call (.Name x p) (e :: es) [] pos) (tCallS sp (WE W) t) := by
  obtain ⟨fd, _, hb, ok⟩ := F.ex
  exact pe_callS ok (hr.mono hk) hg F.gl F.kp hb (fun σ => passAt tk σ) ha hdb he hpl
theorem m_callS {E : L2.St → XK} {σ : L2.St} {H : Hp} {Q : VK} (h : t σ H fun vs H1 => sp vs H1 Q (E σ)) : tCallS sp E t σ H Q := h
/-- try: .. except C as n | except C -/
def tTryAs (K : PySem.W.Frag) (c : Value) (i : Nat) (tb : WX → TS) (ts : Addr → Value → Option Addr → TS) (Wout : WX) : TS := fun D σ H => tb (wAs K c i ts Wout D) D σ H
def tTryOnly (K : PySem.W.Frag) (c : Value) (tb : WX → TS) (ts : Addr → Value → Option Addr → TS) (Wout : WX) : TS := fun D σ H => tb (wOnly K c ts Wout D) D σ H
section
variable {K : PySem.W.Frag} {c cls : Value} {d : Option Addr} {i : Nat} {tb : WX → TS} {ts : Addr → Value → Option Addr → TS} {Wout : WX} {σ : L2.St} {H : Hp} {rt : VK} {nx bk ct : L2.St → Hp → Prop}
theorem m_tryAs (h : tb (wAs K c i ts Wout (Ends.mk nx rt bk ct)) (Ends.mk nx rt bk ct) σ H) : tTryAs K c i tb ts Wout (Ends.mk nx rt bk ct) σ H := h
theorem m_tryOnly (h : tb (wOnly K c ts Wout (Ends.mk nx rt bk ct)) (Ends.mk nx rt bk ct) σ H) : tTryOnly K c tb ts Wout (Ends.mk nx rt bk ct) σ H := h
theorem m_caught (he : PySem.W.exmOne K cls c = some true) (h : ∀ a, H a = none → ts a cls d (Ends.mk (fun σ' H' => nx (σ'.set i none) H') rt (fun σ' H' => bk (σ'.set i none) H') (fun σ' H' => ct (σ'.set i none) H')) (σ.set i (some (.ref a))) H) :
    WE (wAs K c i ts Wout (Ends.mk nx rt bk ct)) σ cls d H := ⟨true, he, fun _ => h, fun z => Bool.noConfusion z⟩
theorem m_passed (he : PySem.W.exmOne K cls c = some false) (h : Wout cls d σ H) : WE (wAs K c i ts Wout (Ends.mk nx rt bk ct)) σ cls d H := ⟨false, he, fun z => Bool.noConfusion z, fun _ => h⟩
theorem m_caughtO (he : PySem.W.exmOne K cls c = some true) (h : ∀ a, H a = none → ts a cls d (Ends.mk nx rt bk ct) σ H) :
    WE (wOnly K c ts Wout (Ends.mk nx rt bk ct)) σ cls d H := ⟨true, he, fun _ => h, fun z => Bool.noConfusion z⟩
theorem m_passedO (he : PySem.W.exmOne K cls c = some false) (h : Wout cls d σ H) : WE (wOnly K c ts Wout (Ends.mk nx rt bk ct)) σ cls d H := ⟨false, he, fun z => Bool.noConfusion z, fun _ => h⟩
end
/-! ### several except clauses, each with a name -/
def endN (i : Nat) (D : Ends) : Ends := Ends.mk (fun τ G => D.nx (τ.set i none) G) D.rt (fun τ G => D.bk (τ.set i none) G) (fun τ G => D.ct (τ.set i none) G)
def wManyA (K : PySem.W.Frag) (Wout : WX) (D : Ends) : List (Value × Nat × (Addr → Value → Option Addr → TS)) → WX
  | [] => Wout
  | (c, i, ts) :: l => fun cls d τ G => ∃ b, PySem.W.exmOne K cls c = some b ∧ (b = true → ∀ x, G x = none → ts x cls d (endN i D) (τ.set i (some (.ref x))) G) ∧ (b = false → wManyA K Wout D l cls d τ G)
inductive HdsA (X : Cx) : List ExceptHandler → List (Value × Nat × (Addr → Value → Option Addr → TS)) → Prop
  | nil : HdsA X [] []
  | cons {y n : Str} {c : Value} {i : Nat} {ts : Addr → Value → Option Addr → TS} {st : Stmt} {sts : List Stmt} {q1 q2 : Pos} {hs : List ExceptHandler} {l : List (Value × Nat × (Addr → Value → Option Addr → TS))} (hi : X.N[i]? = some n) (hl : X.env.kindOf n = some .local) (hc : Names X y c)
      (hb : ∀ (x : Addr) (ob : Obj) (cls : Value) (d : Option Addr) (pn : List (Addr × Obj)), Zc cls d ob → (∃ vs, ob.data = .fields vs) → X.base.get? x = none → PSs (X.suite x ((x, ob) :: pn)) (st :: sts) (ts x cls d)) (r : HdsA X hs l) : HdsA X (.ExceptHandler (some (.Name y q1)) (some n) (st :: sts) q2 :: hs) ((c, i, ts) :: l)
theorem ps_tryManyA {X : Cx} {body : List Stmt} {h₀ : ExceptHandler} {hds : List ExceptHandler} {l : List (Value × Nat × (Addr → Value → Option Addr → TS))} {pos : Pos} {tb : WX → TS} {Wout : WX} (stk : X.stack = X.env :: X.outer) (lf : X.env.frame = some X.env.locals) (nd : X.N.Nodup) (tk : Takes X Wout)
    (hb : ∀ (W : WX) (pn : List (Addr × Obj)) (xe : Value → Shared → Prop), Takes (X.tr pn xe) W → PassesOwn (model X.prog X.w) X.A X.env xe → PSs (X.tr pn xe) body (tb W)) (hh : HdsA X (h₀ :: hds) l) : PS X (.Try body (h₀ :: hds) [] [] pos) (fun D τ G => tb (wManyA X.K Wout D l) D τ G) := by
  refine ⟨fun pins s τ G D I h => ?_⟩
  have ok0 := I.ok
  have fr0 : X.A.frames = some (X.env :: X.outer) := by rw [ok0.frames, stk]
  refine wpAny_Try_except (wpAny_mono ((hb (wManyA X.K Wout D l) (X.pn ++ pins) (fun e s₁ => wpAny (model X.prog X.w) X.A (noteFrame e X.env) (fun _ s₂ => wpAny (model X.prog X.w) X.A (setFlight e none) (fun _ s₃ => wpAny (model X.prog X.w) X.A (handleBy e X.env (h₀ :: hds)) (SP X pins D) X.xe s₃) X.xe s₂) X.xe s₁) (fun u s' xx => ?_) PassesOwn.looking).run [] s τ G D (I.toTry _) h) (fun f s1 hq => ?_) (fun e s1 he => he))
  · obtain ⟨x, B, si, pins2, τ1, G1, cls, d, rfl, j1, nb, up1, sk1, nx, eos, eag, wish⟩ := xx
    have j0 : Inv X pins τ1 G1 si := j1.ofTry ok0
    have sk2 : Sky B (X.env :: X.outer) x (Zc cls d) X.env.locals s'.heap := by rw [← stk]; exact sk1
    show wpAny (model X.prog X.w) X.A (noteFrame (.ref x) X.env) _ _ _; refine Sky.land Zc.steady fr0 lf sk2 fun h3 fl3 up3 => ?_
    have j3 : Inv X pins τ1 G1 { s' with heap := h3 } := j0.landed nb fl3.1 (up1.trans up3) eos eag
    obtain ⟨o3, vs3, ho3, hz3, hd3⟩ := fl3.there
    have nfr : x ∉ frs (X.env :: X.outer) := fun hm => by
      obtain ⟨_, o2, e2, hnf⟩ := fl3.2.2.1.mem hm; rw [ho3] at e2; cases e2; exact hnf _ hd3
    have nL : x ≠ X.env.locals := fun z => nfr (List.mem_filterMap.mpr ⟨X.env, List.mem_cons_self, by rw [lf, z]⟩)
    have nF : x ∉ X.fs := fun hm => by
      obtain ⟨e, he, q⟩ := List.mem_filterMap.mp hm; exact nfr (List.mem_filterMap.mpr ⟨e, List.mem_cons_of_mem _ he, q⟩)
    have suite3 := j3.suite ho3 hd3 nx nL nF
    have hbn : X.base.get? x = none := by
      cases e : X.base.get? x with
      | none => rfl
      | some ob =>
        have h1 := (j0.bs x ob e).1
        have h2 := nb x ob h1 (by rw [stk]; exact nfr)
        rw [fl3.2.1] at h2; cases h2
    have go : ∀ {hs' : List ExceptHandler} {l' : List (Value × Nat × (Addr → Value → Option Addr → TS))}, HdsA X hs' l' → wManyA X.K Wout D l' cls d τ1 G1 → wpAny (model X.prog X.w) X.A (handleBy (.ref x) X.env hs') (SP X pins D) X.xe { s' with heap := h3 } := by
      intro hs' l' hk
      induction hk with
      | nil =>
        intro wish
        refine wpAny_handleBy_nil ?_; obtain ⟨k1, k2, k3, oe, vs, tt, oT, ts', he, hz, hd, h1, hr⟩ := id fl3
        unfold PySem.passOn; refine wpAny_bind (wpAny_field he hd h1 ?_)
        rw [if_neg (show ¬ ((Value.ref tt == Value.none) = true) from by simp)]
        have fin : wpAny (model X.prog X.w) X.A (setFlight (.ref x) X.env.frame) (fun _ s4 => wpAny (model X.prog X.w) X.A (throw (.ref x) : Sem Flow) (SP X pins D) X.xe s4) X.xe { s' with heap := h3 } := by
          rw [lf]; refine HandSPX.setFlight_upZ fl3 fun h4 hh4 up4 => wpAny_throw (tk _ _ ?_)
          exact ⟨x, B, si, pins, τ1, G1, cls, d, rfl, j0, nb, (up1.trans up3).trans up4, .inr (.inr (by rw [stk]; exact hh4)), nx, eos, eag, wish⟩
        first | exact wpAny_bind (wpAny_pure (wpAny_bind fin)) | exact wpAny_bind fin
      | @cons y n c i ts st sts q1 q2 hs2 l2 hi hl hc hsu r ih =>
        intro wish
        obtain ⟨b, hb1, yes, no⟩ := wish
        refine wpAny_handleBy_cons (codeAny_handlers_test ?_) (by intro q; cases q); have lt : PySem.W.Looks (model X.prog X.w) h3 (typeOf (.ref x)) cls := fun A Q E s k q => wpAny_typeOf_ref (k _ _ ho3) (by rw [hz3.1]; exact q)
        have lm := PySem.W.exm_one (M := model X.prog X.w) (j3.kIn) lt hb1
        have test : ∀ {Q : Value → Shared → Prop} {E : Value → Shared → Prop}, Q c { s' with heap := h3 } → wpAny (model X.prog X.w) (X.A.mark (some (.ref x))) (eval (.Name y q1) X.env) Q E { s' with heap := h3 } := fun {Q E} q => by
          obtain ⟨hg, hdbg, hm | ⟨hm, hv, hnn⟩⟩ := hc
          · exact ld_glob (X := X.suite x ((x, o3) :: (X.pn ++ pins))) suite3 hg hm q hdbg
          · exact ld_blt (X := X.suite x ((x, o3) :: (X.pn ++ pins))) suite3 hg hm hv q hnn hdbg
        refine test (lm.here ?_)
        cases b with
        | true =>
          refine codeAny_handlers_suite_as (HandSPX.lands_againZ fl3 fun h4 fl4 up4 => ?_)
          have j4 : Inv X pins τ1 G1 { s' with heap := h4 } := j0.landed nb fl4.1 ((up1.trans up3).trans up4) eos eag
          obtain ⟨o4, vs4, ho4, hz4, hd4⟩ := fl4.there
          refine store_ok (X := X.suite x ((x, o4) :: (X.pn ++ pins))) (v := .ref x) (j4.suite ho4 hd4 nx nL nF) nd hi (.inl hl) rfl (fun s5 S5 => ?_) (.inr hl)
          refine wpAny_mono ((hsu x o4 cls d (X.pn ++ pins) hz4 ⟨_, hd4⟩ hbn).run [] s5 _ G1 _ S5 (yes rfl x nx)) (fun f s6 hq => ?_) (fun _ _ z => False.elim z)
          have fin : ∀ {τ6 : L2.St} {G6 : Hp} {Q : Shared → Prop}, Inv (X.suite x ((x, o4) :: (X.pn ++ pins))) [] τ6 G6 s6 → (∀ s7, Inv X pins (τ6.set i none) G6 s7 → Q s7) → wpAny (model X.prog X.w) X.A (do bindName X.env n .none; unbindBehindTheSuite X.env n q2) (fun _ s7 => Q s7) X.xe s6 := fun {τ6 G6 Q} S6 hq => gone_ok (S6.unsuite ok0) nd hi hl hq
          cases f with
          | next => obtain ⟨τ6, G6, S6, q6⟩ := hq; exact fin S6 fun s7 J7 => ⟨_, _, J7, q6⟩
          | brk => obtain ⟨τ6, G6, S6, q6⟩ := hq; exact fin S6 fun s7 J7 => ⟨_, _, J7, q6⟩
          | cont => obtain ⟨τ6, G6, S6, q6⟩ := hq; exact fin S6 fun s7 J7 => ⟨_, _, J7, q6⟩
          | ret u => obtain ⟨v6, τ6, G6, S6, r6, q6⟩ := hq; exact fin S6 fun s7 J7 => ⟨_, _, _, J7, r6, q6⟩
        | false => exact ih (no rfl)
    exact go hh wish
  · cases f with
    | next => obtain ⟨τ1, G1, j1, q⟩ := hq; exact wpAny_execs_nil ⟨τ1, G1, j1.ofTry ok0, q⟩
    | brk => obtain ⟨τ1, G1, j1, q⟩ := hq; exact ⟨τ1, G1, j1.ofTry ok0, q⟩
    | cont => obtain ⟨τ1, G1, j1, q⟩ := hq; exact ⟨τ1, G1, j1.ofTry ok0, q⟩
    | ret u => obtain ⟨v, τ1, G1, j1, r, q⟩ := hq; exact ⟨v, τ1, G1, j1.ofTry ok0, r, q⟩
def tTryM (K : PySem.W.Frag) (tb : WX → TS) (l : List (Value × Nat × (Addr → Value → Option Addr → TS))) (Wout : WX) : TS := fun D τ G => tb (wManyA K Wout D l) D τ G
section
variable {K : PySem.W.Frag} {c cls : Value} {d : Option Addr} {i : Nat} {tb : WX → TS} {ts : Addr → Value → Option Addr → TS} {Wout : WX} {σ : L2.St} {H : Hp} {rt : VK} {nx bk ct : L2.St → Hp → Prop} {l : List (Value × Nat × (Addr → Value → Option Addr → TS))}
theorem m_tryM (h : tb (wManyA K Wout (Ends.mk nx rt bk ct) l) (Ends.mk nx rt bk ct) σ H) : tTryM K tb l Wout (Ends.mk nx rt bk ct) σ H := h
theorem m_caughtM (he : PySem.W.exmOne K cls c = some true) (h : ∀ a, H a = none → ts a cls d (Ends.mk (fun σ' H' => nx (σ'.set i none) H') rt (fun σ' H' => bk (σ'.set i none) H') (fun σ' H' => ct (σ'.set i none) H')) (σ.set i (some (.ref a))) H) :
    WE (wManyA K Wout (Ends.mk nx rt bk ct) ((c, i, ts) :: l)) σ cls d H := ⟨true, he, fun _ => h, fun z => Bool.noConfusion z⟩
theorem m_nextM (he : PySem.W.exmOne K cls c = some false) (h : WE (wManyA K Wout (Ends.mk nx rt bk ct) l) σ cls d H) : WE (wManyA K Wout (Ends.mk nx rt bk ct) ((c, i, ts) :: l)) σ cls d H := ⟨false, he, fun z => Bool.noConfusion z, fun _ => h⟩
end
/-- isinstance(e, c), e the error that the suite holds -/
def rIsX (K : PySem.W.Frag) (cls : Value) (d : Option Addr) (a : Addr) : List V → Hp → VK → Prop := fun xs H Q => ∃ D, cls = .ref D ∧ d = none ∧ ExcC K D ∧ rIsE K D a xs H Q
theorem call_isX {a : Addr} {oe : Obj} {cls : Value} {d : Option Addr} {pn : List (Addr × Obj)} (hz : Zc cls d oe) (hf : ∃ vs, oe.data = .fields vs) : CallR (X.suite a ((a, oe) :: pn)) (.builtin "isinstance") (rIsX X.K cls d a) := by
  intro pins s σ H xs us Q I r h
  obtain ⟨D, rfl, rfl, C, h⟩ := h
  exact call_isE C hz hf pins s σ H xs us Q I r h
theorem k_isX {K : PySem.W.Frag} {D C a : Addr} {b : Bool} {H : Hp} {Q : VK} (h : ExcC K D) (e : PySem.W.kitOne K (.ref D) (.ref C) = some b) (q : Q (.bl b) H) : rIsX K (.ref D) none a [.ref a, .ref C] H Q :=
  ⟨D, rfl, rfl, h, .ref C, .ref C, b, rfl, fun _ r => r, e, q⟩
theorem k_isXty {K : PySem.W.Frag} {D a : Addr} {n : String} {b : Bool} {H : Hp} {Q : VK} (h : ExcC K D) (e : PySem.W.kitOne K (.ref D) (.type n) = some b) (q : Q (.bl b) H) : rIsX K (.ref D) none a [.ref a, .ty n] H Q :=
  ⟨D, rfl, rfl, h, .ty n, .type n, b, rfl, fun _ r => r, e, q⟩
end
/-- isinstance(e, (c1, c2, ..)), all of them own classes -/
def rIsXT (K : PySem.W.Frag) (cls : Value) (d : Option Addr) (a : Addr) : List V → Hp → VK → Prop := fun xs H Q => ∃ (D tp : Addr) (cs : List Addr) (b : Bool), cls = .ref D ∧ d = none ∧ ExcC K D ∧ xs = [.ref a, .ref tp] ∧ H tp = some (.tup (cs.map V.ref)) ∧ PySem.W.kitAny K (.ref D) (cs.map Value.ref) = some b ∧ Q (.bl b) H
theorem clsV_all : ∀ cs : List Addr, Paired ClsV (cs.map V.ref) (cs.map Value.ref)
  | [] => .nil
  | c :: cs => .cons (.own c) (clsV_all cs)
theorem call_isXT {X : Cx} {a : Addr} {oe : Obj} {cls : Value} {d : Option Addr} {pn : List (Addr × Obj)} (hz : Zc cls d oe) (hf : ∃ vs, oe.data = .fields vs) : CallR (X.suite a ((a, oe) :: pn)) (.builtin "isinstance") (rIsXT X.K cls d a) := by
  intro pins s σ H xs us Q I r h
  obtain ⟨D, tp, cs, b, rfl, rfl, C, rfl, hT, e, q⟩ := h
  obtain ⟨u1, u2, rfl, r1, r2⟩ := vals2 r
  cases (show u1 = Value.ref a from r1)
  cases (show u2 = Value.ref tp from r2)
  obtain ⟨hget, _⟩ := I.pin (a, oe) (List.mem_append.mpr (.inl List.mem_cons_self))
  obtain ⟨vs, hv⟩ := hf
  have J : PySem.W.InstAt s.heap a oe D none := by
    obtain ⟨oc, od, oda, osl⟩ := oe
    obtain ⟨h1, h2⟩ := hz
    dsimp only at h1 h2 hv
    subst h1 h2 hv
    exact ⟨hget, rfl, rfl, trivial⟩
  obtain ⟨_, its, rv, o, h1, h2, n, h3⟩ := (show ObjOk X.prog X.w H s.heap tp (.tup (cs.map V.ref)) from I.hok tp _ hT)
  have e3 := ClsV.all (clsV_all cs) rv
  subst e3
  obtain ⟨oc, od, dt, sl⟩ := o
  simp only at h2 h3
  subst h2 h3
  exact PySem.W.kia_tup (PySem.W.handS_kitx_exc C.hg C.hk C.hs C.hd C.ha C.hn C.ht C.hm) I.kIn J h1 e (fun z => nomatch z) fun tk => ⟨.bl b, H, I.kept (t' := tk) fun _ _ z => z, rfl, q⟩
theorem kitAny_no {K : PySem.W.Frag} {t : Value} : ∀ us : List Value, (∀ u ∈ us, PySem.W.kitOne K t u = some false) → PySem.W.kitAny K t us = some false
  | [], _ => rfl
  | u :: us, h => kitAny_cons (h u List.mem_cons_self) (fun _ => kitAny_no us fun x hx => h x (List.mem_cons_of_mem _ hx)) (fun z => Bool.noConfusion z)
theorem k_isXT {K : PySem.W.Frag} {D a tp : Addr} {b : Bool} {H : Hp} {Q : VK} (cs : List Addr) (hT : H tp = some (.tup (cs.map V.ref))) (h : ExcC K D) (e : PySem.W.kitAny K (.ref D) (cs.map Value.ref) = some b) (q : Q (.bl b) H) : rIsXT K (.ref D) none a [.ref a, .ref tp] H Q :=
  ⟨D, tp, cs, b, rfl, rfl, h, rfl, hT, e, q⟩
/-! ### the head's facts, with what is asked of errors -/
inductive Fx where
  | excC (x : Str)
  | insC (x : Str)
  | kit (x y : Str) (b : Bool)
  | kitT (x : Str) (t : String) (b : Bool)
  | exm (x y : Str) (b : Bool)
/-- an own class of which isinstance tells -/
structure InsC (K : PySem.W.Frag) (C : Addr) : Prop where
  cl : Cls K C
  ha : PySem.W.findIn K (.ref C) "__class__" = some (some (.builtin "object.__class__"))
  hn : PySem.W.specialIn K (.builtin "object.__class__") "__get__" = some (some (.builtin "getset_descriptor.__get__"))
  ht : PySem.W.takesIn K (.builtin "object.__class__") = some true
  hm : PySem.W.mroIn K C (.type "object") = some true
def Fx.ok (K : PySem.W.Frag) : Fx → Bool
  | .insC x => (He.Fa.cls x).ok K && (He.eqO (PySem.W.findIn K (.ref (He.ga K x)) "__class__") (some (some (.builtin "object.__class__"))) &&
      (He.eqO (PySem.W.specialIn K (.builtin "object.__class__") "__get__") (some (some (.builtin "getset_descriptor.__get__"))) && (decide (PySem.W.takesIn K (.builtin "object.__class__") = some true) && decide (PySem.W.mroIn K (He.ga K x) (.type "object") = some true))))
  | .excC x => He.eqO (PySem.W.findIn K (.ref (He.ga K x)) "__getattribute__") (some (some (.builtin "BaseException.__getattribute__"))) && (He.eqO (PySem.W.findIn K (.ref (He.ga K x)) "__getattr__") (some none) &&
      (decide (PySem.W.subIn K (.ref (He.ga K x)) (.type "BaseException") = some true) && (PySem.W.hasDictIn K (He.ga K x) && (He.eqO (PySem.W.findIn K (.ref (He.ga K x)) "__class__") (some (some (.builtin "object.__class__"))) &&
      (He.eqO (PySem.W.specialIn K (.builtin "object.__class__") "__get__") (some (some (.builtin "getset_descriptor.__get__"))) && (decide (PySem.W.takesIn K (.builtin "object.__class__") = some true) && decide (PySem.W.mroIn K (He.ga K x) (.type "object") = some true)))))))
  | .kit x y b => decide (PySem.W.kitOne K (.ref (He.ga K x)) (.ref (He.ga K y)) = some b)
  | .kitT x t b => decide (PySem.W.kitOne K (.ref (He.ga K x)) (.type t) = some b)
  | .exm x y b => decide (PySem.W.exmOne K (.ref (He.ga K x)) (.ref (He.ga K y)) = some b)
theorem Fx.excC_ok {K : PySem.W.Frag} {x : Str} (c : (Fx.excC x).ok K = true) : ExcC K (He.ga K x) := by
  obtain ⟨c1, c⟩ := He.ba c
  obtain ⟨c2, c⟩ := He.ba c
  obtain ⟨c3, c⟩ := He.ba c
  obtain ⟨c4, c⟩ := He.ba c
  obtain ⟨c5, c⟩ := He.ba c
  obtain ⟨c6, c⟩ := He.ba c
  obtain ⟨c7, c8⟩ := He.ba c
  exact ⟨He.eqO_ok c1, He.eqO_ok c2, of_decide_eq_true c3, c4, He.eqO_ok c5, He.eqO_ok c6, of_decide_eq_true c7, of_decide_eq_true c8⟩
theorem Fx.insC_ok {K : PySem.W.Frag} {x : Str} (c : (Fx.insC x).ok K = true) : InsC K (He.ga K x) := by
  obtain ⟨c1, c⟩ := He.ba c
  obtain ⟨c2, c⟩ := He.ba c
  obtain ⟨c3, c⟩ := He.ba c
  obtain ⟨c4, c5⟩ := He.ba c
  exact ⟨He.cls_ok c1, He.eqO_ok c2, He.eqO_ok c3, of_decide_eq_true c4, of_decide_eq_true c5⟩
theorem k_isOwn {K : PySem.W.Frag} {C D a d : Addr} {fs : List (Str × V)} {b : Bool} {H : Hp} {Q : VK} (i : InsC K C) (e : H a = some (.ins C d fs)) (k : PySem.W.kitOne K (.ref C) (.ref D) = some b) (q : Q (.bl b) H) : rIsi K [.ref a, .ref D] H Q :=
  ⟨.ref a, .ref D, .ref C, .ref D, b, rfl, .own D, .base (.ins e i.cl i.ha i.hn i.ht i.hm), k, q⟩
theorem Fx.kit_ok {K : PySem.W.Frag} {x y : Str} {b : Bool} (c : (Fx.kit x y b).ok K = true) : PySem.W.kitOne K (.ref (He.ga K x)) (.ref (He.ga K y)) = some b := of_decide_eq_true c
theorem Fx.kitT_ok {K : PySem.W.Frag} {x : Str} {t : String} {b : Bool} (c : (Fx.kitT x t b).ok K = true) : PySem.W.kitOne K (.ref (He.ga K x)) (.type t) = some b := of_decide_eq_true c
theorem Fx.exm_ok {K : PySem.W.Frag} {x y : Str} {b : Bool} (c : (Fx.exm x y b).ok K = true) : PySem.W.exmOne K (.ref (He.ga K x)) (.ref (He.ga K y)) = some b := of_decide_eq_true c
abbrev AlF : Type := He.AlD × Bool
def obsF (fa : List He.Fa) (fn : List He.DefD) (fx : List Fx) (K : PySem.W.Frag) : AlF := (He.obsD fa fn K, fx.all fun f => f.ok K)
def SaysF (fa : List He.Fa) (fn : List He.DefD) (fx : List Fx) (K : PySem.W.Frag) : Prop := obsF fa fn fx K = (He.valD fn, true)
def obsFG (n : Nat) (fa : List He.Fa) (fn : List He.DefD) (fx : List Fx) (g : Addr → Option Obj) : AlF := obsF fa fn fx (He.frG g (He.asD g n))
def hookF (n : Nat) (fa : List He.Fa) (fn : List He.DefD) (fx : List Fx) : PySem.W.Hook where
  α := AlF
  obs := fun s => obsFG n fa fn fx s.heap.get?
  val := fun _ => (He.valD fn, true)
  says := fun _ h => ∃ K : PySem.W.Frag, K.In h ∧ SaysF fa fn fx K
  of := fun _ _ e => ⟨_, He.frG_in, e⟩
  keeps := fun _ _ _ ⟨K, hK, c⟩ k => ⟨K, PySem.W.Frag.In.keeps hK k, c⟩
theorem obsFG_eq {n : Nat} {fa : List He.Fa} {fn : List He.DefD} {fx : List Fx} {g : Addr → Option Obj} {s : Shared} (h : ∀ a, g a = s.heap.get? a) : obsFG n fa fn fx g = (hookF n fa fn fx).obs s := by
  have e : g = s.heap.get? := funext h
  rw [e] <;> rfl
theorem SaysF.d {fa : List He.Fa} {fn : List He.DefD} {fx : List Fx} {K : PySem.W.Frag} (c : SaysF fa fn fx K) : He.SaysD fa fn K := congrArg (fun z : AlF => z.1) c
theorem SaysF.fx {fa : List He.Fa} {fn : List He.DefD} {fx : List Fx} {K : PySem.W.Frag} (c : SaysF fa fn fx K) (i : Nat) {f : Fx} (h : fx[i]? = some f := by rfl) : f.ok K = true := by
  have c1 : (fx.all fun f => f.ok K) = true := congrArg (fun z : AlF => z.2) c
  exact List.all_eq_true.mp c1 f (List.mem_of_getElem? h)
end Tw
/-! ### a caught exception handed to another def -/
namespace Tw
open PySem PySem.Spec PyProof.Rows L2
/-- the exception object at a, as it stands -/
def ExcO (a : Addr) (oe : Obj) : HO := .ext fun h => h.get? a = some oe
instance {a : Addr} {oe : Obj} : NT (ExcO a oe) := ⟨fun _ z => by unfold ExcO at z; cases z⟩
theorem excO_ok {P : Program} {w : World} {H : Hp} {h : Heap} {a : Addr} {oe : Obj} (e : h.get? a = some oe) : ObjOk P w H h a (ExcO a oe) :=
  ⟨e, ⟨oe, e⟩, fun _ _ q k => k oe q⟩
def tCallH (sp : Sp) (a : Addr) (cls : Value) (d : Option Addr) (t : TA) : TE := fun σ H Q => t σ H fun vs H1 => ∀ oe, Zc cls d oe → (∃ vs, oe.data = .fields vs) → H1 a = none → sp vs (upd H1 a (ExcO a oe)) (fun v H' => H' a = some (ExcO a oe) ∧ Q v (delH H' a)) E0
section
variable {P : Program} {w : World} {K : PySem.W.Frag} {mg : Str → Option Value} {base : Heap} {A : Around} {outer : List Env} {s s' : Shared} {H : Hp} {a : Addr} {oe : Obj} {Q : VK} {u : Value}
theorem env0_track (e0 : Env0 P w K mg base A outer s H) (hg : s.heap.get? a = some oe) (hn : H a = none) (hf : ∃ vs, oe.data = .fields vs) (hbn : base.get? a = none) : Env0 P w K mg base A outer s (upd H a (ExcO a oe)) := by
  refine ⟨e0.frames, e0.mod, fun b o e => ⟨(e0.bs b o e).1, ?_⟩, e0.bsz, e0.funs, fun b hb => ?_, e0.hok.laidN (fun _ _ q => q) hn (excO_ok hg), e0.bare⟩
  · rw [upd_ne (fun z => by rw [z, hbn] at e; cases e)]; exact (e0.bs b o e).2
  · rw [upd_ne (fun z => ?_)]
    · exact e0.frf b hb
    · subst z
      obtain ⟨vs, hv⟩ := hf
      obtain ⟨_, o2, e2, hnf⟩ := e0.funs.mem hb
      rw [hg] at e2; cases e2
      exact hnf _ hv
theorem ce_untrack (hg : s.heap.get? a = some oe) (hn : H a = none) (h : CE outer P w (upd H a (ExcO a oe)) s (fun v H' => H' a = some (ExcO a oe) ∧ Q v (delH H' a)) u s') (hfr : a ∉ frs outer) : CE outer P w H s Q u s' := by
  obtain ⟨v, H', os, bare, un, ok', r, q0, q⟩ := h
  have hne : ∀ {b}, b ≠ a → H b = none → (upd H a (ExcO a oe)) b = none := fun {b} n z => (upd_ne n).trans z
  refine ⟨v, delH H' a, os, bare, ⟨fun b o e n hb hx => ?_, fun b o e n hb hx => ?_, fun b o e n hx => ?_, un.there, fun b xs e => ?_, fun b o u e => ?_, fun b ps e => ?_⟩, fun b o e => ?_, r, q⟩
  · by_cases z : b = a
    · subst z
      rw [hg] at e; cases e
      exact (ok' b _ q0).1
    · exact un.keep b o e (hne z n) hb hx
  · have z : b ≠ a := fun z => hfr (z ▸ hb)
    exact un.slot b o e (hne z n) hb hx
  · by_cases z : b = a
    · rw [z]; exact delH_same
    · rw [delH_ne z]; exact un.free b o e (hne z n) hx
  · have z : b ≠ a := fun z => by rw [z, hn] at e; cases e
    rw [delH_ne z]; exact un.tups b xs (by rw [upd_ne z]; exact e)
  · have z : b ≠ a := fun z => by rw [z, hn] at e; cases e
    rw [delH_ne z]; exact un.frzs b o u (by rw [upd_ne z]; exact e)
  · have z : b ≠ a := fun z => by rw [z, hn] at e; cases e
    rw [delH_ne z]; exact un.tbls b ps (by rw [upd_ne z]; exact e)
  · have z : b ≠ a := fun z => by rw [z, delH_same] at e; cases e
    rw [delH_ne z] at e
    refine (ok' b o e).stay (fun _ _ _ q => q) (fun c q => ?_) fun c xs q => ?_
    · rw [delH_ne (fun y => by rw [y, q0] at q; cases q)]; exact q
    · rw [delH_ne (fun y => by rw [y, q0] at q; cases q)]; exact q
end
/-! a def that is called where an exception is handled, that neither raises nor walks -/
structure RoomN (k : Nat) (A : Around) : Prop where
  dp : A.depth + 3 * k + 5 < recursionLimit
  un : A.units + 16 * k + 200 < cLine
theorem RoomN.of {k : Nat} {A : Around} (r : Room k A) (v : Option Value) : RoomN k (A.mark v) := ⟨r.dp, r.un⟩
structure FnN (P : Program) (w : World) (K : PySem.W.Frag) (mg : Str → Option Value) (base : Heap) (k : Nat) (f : Addr) (fd : FuncData) (ps : List Str) (sp : Sp) : Prop where
  len : ∀ vs H Q E, sp vs H Q E → vs.length = ps.length
  run : ∀ (A : Around) (outer : List Env) (s : Shared) (H : Hp) (args : Args) (us : List Value) (vs : List V) (Q : VK), RoomN k A → Env0 P w K mg base A outer s H → BindsTo s fd args (ps.zip us) → Vals vs us → sp vs H Q E0 →
    codeAny (model P w) A (.call (.ref f) args) (CR CX0 outer P w H s Q E0) s
def cxN (P : Program) (w : World) (K : PySem.W.Frag) (mg : Str → Option Value) (base : Heap) (N : List Str) (qual : Str) (scope : Scope) (f : Addr) (cd : Value) (A : Around) (outer : List Env) (s : Shared) (H : Hp) : Cx :=
  { (cxOf CX0 P w K mg base N qual scope f cd A outer s H E0).nox with calm := false }
theorem FunD.okN {P : Program} {w : World} {K : PySem.W.Frag} {mg : Str → Option Value} {base : Heap} {x qual : Str} {params : Arguments} {body : List Stmt} {scope : Scope} {dvs : List V} {kws : List (Str × V)} {f : Addr} {fd : FuncData} {N ps : List Str} {k : Nat} {sp : Sp} (F : FunD K x qual params body scope dvs kws f fd) (S : FnScope N ps scope) (len : ∀ vs H Q E, sp vs H Q E → vs.length = ps.length)
    (hbody : ∀ (cdv : Value) (A : Around) (outer : List Env) (s : Shared) (H : Hp) (vs : List V) (Q : VK), RoomN k (A.deeper (envOfC qual scope s.heap.objs.size f cdv)) → sp vs H Q E0 →
      ∃ t, PSs (cxN P w K mg base N qual scope f cdv A outer s H) body t ∧ t { nx := fun _ H' => Q .non H', rt := Q } (start N vs) H) : FnN P w K mg base (k + 1) f fd ps sp := by
  obtain ⟨oc, od, dV, kV, doc, pm, an, cdv, ct, osl, rfl, lk, hcd, _, _⟩ := F.ex
  refine ⟨len, fun A outer s0 H args us vs Q hrm env0 hbd rv hspec => ?_⟩
  have hlen := len _ _ _ _ hspec
  have KXn : K.In s0.heap := env0.mod.kin.keeps fun b o e => (env0.bs b o e).1
  have limN : s0.heap.NoLimit := env0.mod.nolimit.keeps fun b o e => (env0.bs b o e).1
  have kinds : ∀ y ∈ ps.zip us, scope.names.lookup y.1 = some .local ∨ (scope.names.lookup y.1 = some .cell ∧ ((cellsFrom (s0.heap.objs.size + 1) scope.names []).lookup y.1).isSome = true) := fun ⟨n, v⟩ hy =>
    (S.par n (List.of_mem_zip hy).1).imp id fun q => ⟨q, PySem.W.cellsFrom_some _ _ _ (.inl q)⟩
  have dpt : A.depth < recursionLimit := by have := hrm.dp; omega
  refine codeAny_call_function dpt (KXn _ _ lk) rfl S.co S.gen rfl (PySem.W.codeRec_of KXn hcd) (hbd _ _ _ _ ?_)
  refine wpAny_newFunctionEnv_cells S.kind kinds fun env he s2 xin => ?_
  subst he
  refine ⟨limN.keeps xin.toInCall.keep, codeAny_func ?_⟩
  obtain ⟨t, ht, hq⟩ := hbody cdv A outer s0 H vs Q ⟨by have := hrm.dp; show A.depth + 1 + 3 * k + 5 < _; omega, by have := hrm.un; show A.units + 3 + 16 * k + 200 < _; omega⟩ hspec
  have J : Inv (cxOf CX0 P w K mg base N qual scope f cdv { A with handled := none } outer s0 H E0) [] (start N vs) H s2 := inv_start S rfl ⟨env0.frames, env0.mod, env0.bs, env0.bsz, env0.funs, env0.frf, env0.hok, env0.bare⟩ hlen rv xin
  have I : Inv (cxN P w K mg base N qual scope f cdv A outer s0 H) [] (start N vs) H s2 :=
    ⟨⟨J.ok.mod, J.ok.kind, J.ok.glob, J.ok.blt, J.ok.above, J.ok.inj, J.ok.has, J.ok.cab, (fun z => Bool.noConfusion (show false = true from z)), Around.frames_deeper env0.frames, J.ok.stk, J.ok.exf, J.ok.bs, J.ok.bsz, J.ok.noex, J.ok.exfs, J.ok.funs, J.ok.frf⟩, J.os, J.bare, J.base, J.loc, J.cell, J.free, J.freeC, J.pin, J.hok, J.len⟩
  refine wpAny_mono (ht.run [] s2 (start N vs) H _ I hq) (fun fl s' hs => ?_) fun e s' hs => False.elim hs
  cases fl with
  | ret u => obtain ⟨v, σ', H', J, r1, q⟩ := hs; exact ⟨v, H', J.os, J.bare, J.base, J.hok, r1, q⟩
  | next => obtain ⟨σ', H', J, q⟩ := hs; exact ⟨V.non, H', J.os, J.bare, J.base, J.hok, rfl, q⟩
  | brk => obtain ⟨_, _, _, q⟩ := hs; exact False.elim q
  | cont => obtain ⟨_, _, _, q⟩ := hs; exact False.elim q
structure Okn (P : Program) (w : World) (K : PySem.W.Frag) (mg : Str → Option Value) (base : Heap) (k : Nat) (x : Str) (ps : List Str) (sp : Sp) : Prop where
  ex : ∃ fd : FuncData, (∃ (oc : Value) (od : Option Addr) (osl : Array (Option Value)), K.lookup (He.ga K x) = some ⟨oc, od, .func fd, osl⟩) ∧ Binds K fd ps [] ∧ FnN P w K mg base k (He.ga K x) fd ps sp
  kp : PySem.W.keepIn K (.ref (He.ga K x)) = true
  gl : mg x = some (.ref (He.ga K x))
theorem pe_callH {X : Cx} {k j : Nat} {ps : List Str} {sp : Sp} {x : Str} {p pos : Pos} {e : Expr} {es : List Expr} {t : TA} {a : Addr} {oe : Obj} {cls : Value} {d : Option Addr} (hm : (a, oe) ∈ X.pn) (hz : Zc cls d oe) (hf : ∃ vs, oe.data = .fields vs) (hbn : X.base.get? a = none)
    (F : Okn X.prog X.w X.K X.mg X.base k x ps sp) (hr : RoomN j X.A) (hk : k ≤ j) (hg : Gl X x) (ha : PA X (e :: es) t)
    (hdb : (x == ("__debug__" : Str)) = false := by decide) (he : starEach (e :: es) X.env = (false, eval e X.env) :: starEach es X.env := by rfl) (hpl : (backTo pos (starEach es X.env)).any (·.1) = false := by rfl) :
    PE X (.Call (.Name x p) (e :: es) [] pos) (tCallH sp a cls d t) := by
  obtain ⟨fd, _, hb, ok⟩ := F.ex
  refine ⟨fun pins s σ H Q I h => ?_⟩
  refine wpAny_Call_Name_kw (ld_glob I hg F.gl ?_ hdb)
  refine PySem.W.callWith_K (h₀ := X.base) I.ok.mod.kin F.kp (thn (ha.run pos pins s σ H _ I h) fun us s1 ⟨vs, H1, I1, r, q⟩ => ⟨I1.kIn, ?_⟩) he hpl
  obtain ⟨hget, hn, nL, nF, nc⟩ := I1.pin (a, oe) (List.mem_append.mpr (.inl hm))
  have q' := q oe hz hf hn
  have hl : us.length = ps.length := by rw [← r.length]; exact ok.len _ _ _ _ q'
  have E1 := env0_track I1.env0 hget hn hf hbn
  have hfr : a ∉ frs X.stack := fun hb => by
    obtain ⟨vs, hv⟩ := hf
    obtain ⟨_, o2, e2, hnf⟩ := I1.stack.mem hb
    rw [hget] at e2; cases e2
    exact hnf _ hv
  have hB := hb s1 us I1.kIn (by rw [List.append_nil]; exact hl)
  rw [List.append_nil] at hB
  refine wpAny_call (codeAny_mono (ok.run X.A X.stack s1 _ ⟨us, []⟩ us vs _ ⟨by have := hr.dp; omega, by have := hr.un; omega⟩ E1 hB r q') fun r s' hq => ?_)
  cases r with
  | error e => exact False.elim hq
  | ok fl =>
    cases fl with
    | ret u => exact I1.after (ce_untrack hget hn hq hfr)
    | next => exact False.elim hq
    | brk => exact False.elim hq
    | cont => exact False.elim hq
/-- isinstance(e, c), isinstance(e, (c1, c2, ..)): e an exception that was handed on -/
def rIsH (K : PySem.W.Frag) : List V → Hp → VK → Prop := fun xs H Q => ∃ (a D : Addr) (oe : Obj) (c : V), xs = [.ref a, c] ∧ H a = some (ExcO a oe) ∧ Zc (.ref D) none oe ∧ (∃ vs, oe.data = .fields vs) ∧ ExcC K D ∧
  ((∃ (cv : Value) (b : Bool), (∀ u, RelV c u → u = cv) ∧ PySem.W.kitOne K (.ref D) cv = some b ∧ Q (.bl b) H) ∨
   (∃ (tp : Addr) (cs : List Addr) (b : Bool), c = .ref tp ∧ H tp = some (.tup (cs.map V.ref)) ∧ PySem.W.kitAny K (.ref D) (cs.map Value.ref) = some b ∧ Q (.bl b) H))
theorem call_isH {X : Cx} : CallR X (.builtin "isinstance") (rIsH X.K) := by
  intro pins s σ H xs us Q I r h
  obtain ⟨a, D, oe, c, rfl, hH, hz, hf, C, h⟩ := h
  obtain ⟨u1, u2, rfl, r1, r2⟩ := vals2 r
  cases (show u1 = Value.ref a from r1)
  obtain ⟨hget, _, _⟩ := (show ObjOk X.prog X.w H s.heap a (ExcO a oe) from I.hok a _ hH)
  obtain ⟨vs, hv⟩ := hf
  have J : PySem.W.InstAt s.heap a oe D none := by
    obtain ⟨oc, od, oda, osl⟩ := oe
    obtain ⟨h1, h2⟩ := hz
    dsimp only at h1 h2 hv
    subst h1 h2 hv
    exact ⟨hget, rfl, rfl, trivial⟩
  rcases h with ⟨cv, b, hcv, e, q⟩ | ⟨tp, cs, b, rfl, hT, e, q⟩
  · have ec := hcv _ r2
    subst ec
    exact PySem.W.kia_one (PySem.W.handS_kitx_exc C.hg C.hk C.hs C.hd C.ha C.hn C.ht C.hm) I.kIn J e (fun z => nomatch z) fun tk => ⟨.bl b, H, I.kept (t' := tk) fun _ _ z => z, rfl, q⟩
  · cases (show u2 = Value.ref tp from r2)
    obtain ⟨_, its, rv, o, h1, h2, n, h3⟩ := (show ObjOk X.prog X.w H s.heap tp (.tup (cs.map V.ref)) from I.hok tp _ hT)
    have e3 := ClsV.all (clsV_all cs) rv
    subst e3
    obtain ⟨oc, od, dt, sl⟩ := o
    simp only at h2 h3
    subst h2 h3
    exact PySem.W.kia_tup (PySem.W.handS_kitx_exc C.hg C.hk C.hs C.hd C.ha C.hn C.ht C.hm) I.kIn J h1 e (fun z => nomatch z) fun tk => ⟨.bl b, H, I.kept (t' := tk) fun _ _ z => z, rfl, q⟩
section
variable {K : PySem.W.Frag} {H : Hp} {Q : VK} {a D C tp : Addr} {b : Bool} {oe : Obj}
/-- an exception of the class D stands at a -/
def ExcAt (K : PySem.W.Frag) (H : Hp) (a D : Addr) : Prop := ExcC K D ∧ ∃ oe, H a = some (ExcO a oe) ∧ Zc (.ref D) none oe ∧ ∃ vs, oe.data = .fields vs
theorem ExcAt.same {H' : Hp} (h : ExcAt K H a D) (s : Same H H') : ExcAt K H' a D := let ⟨c, oe, e, z, f⟩ := h; ⟨c, oe, s.get e, z, f⟩
theorem k_isH (h : ExcAt K H a D) (e : PySem.W.kitOne K (.ref D) (.ref C) = some b) (q : Q (.bl b) H) : rIsH K [.ref a, .ref C] H Q :=
  let ⟨c, oe, h1, z, f⟩ := h; ⟨a, D, oe, _, rfl, h1, z, f, c, .inl ⟨.ref C, b, fun _ r => r, e, q⟩⟩
theorem k_isHty {n : String} (h : ExcAt K H a D) (e : PySem.W.kitOne K (.ref D) (.type n) = some b) (q : Q (.bl b) H) : rIsH K [.ref a, .ty n] H Q :=
  let ⟨c, oe, h1, z, f⟩ := h; ⟨a, D, oe, _, rfl, h1, z, f, c, .inl ⟨.type n, b, fun _ r => r, e, q⟩⟩
theorem k_isHT (cs : List Addr) (hT : H tp = some (.tup (cs.map V.ref))) (h : ExcAt K H a D) (e : PySem.W.kitAny K (.ref D) (cs.map Value.ref) = some b) (q : Q (.bl b) H) : rIsH K [.ref a, .ref tp] H Q :=
  let ⟨c, oe, h1, z, f⟩ := h; ⟨a, D, oe, _, rfl, h1, z, f, c, .inr ⟨tp, cs, b, rfl, hT, e, q⟩⟩
def CallHK (sp : Sp) (a : Addr) (cls : Value) (d : Option Addr) (Q : VK) (vs : List V) (H1 : Hp) : Prop := ∀ oe, Zc cls d oe → (∃ vs, oe.data = .fields vs) → H1 a = none → sp vs (upd H1 a (ExcO a oe)) (fun v H' => H' a = some (ExcO a oe) ∧ Q v (delH H' a)) E0
theorem m_callH {sp : Sp} {cls : Value} {d : Option Addr} {t : TA} {σ : L2.St} (h : t σ H (CallHK sp a cls d Q)) : tCallH sp a cls d t σ H Q := h
theorem delH_id (h : H a = none) : delH (upd H a (ExcO a oe)) a = H := delH_new h
/-- what stood with the exception stands without it -/
theorem same_del {H' : Hp} (s : L2.Same (upd H a (ExcO a oe)) H') (hn : H a = none) : Same H (delH H' a) := .of fun b o e => by
  have z : b ≠ a := fun z => by rw [z, hn] at e; cases e
  rw [delH_ne z]; exact s b o ((upd_ne z).trans e)
theorem all_new {p : Addr} {o : HO} (h : H p = none) : L2.Same H (upd H p o) := fun b x e => by rw [upd_ne (ne_of_none e h)]; exact e
theorem all_trans {H1 H2 : Hp} (a : L2.Same H H1) (b : L2.Same H1 H2) : L2.Same H H2 := fun c o e => b c o (a c o e)
end
end Tw
/-! ### one sign again and again -/
namespace Tw
open PySem PySem.Spec PyProof.Rows L2
def rRepS : R2 := fun x y H Q => ∃ (c : Nat) (k : Int), x = .str ⟨#[c]⟩ ∧ y = .int k ∧ 0 ≤ k ∧ k ≤ 100000 ∧ Q (.str ⟨(List.replicate k.toNat c).toArray⟩) H
theorem fold_one (c : Nat) : ∀ (n : Nat) (a : List Nat), (List.replicate n (#[c] : Array Nat)).foldl (· ++ ·) a.toArray = (a ++ List.replicate n c).toArray
  | 0, a => by simp
  | n + 1, a => by
    rw [List.replicate_succ, List.foldl_cons]
    have : a.toArray ++ #[c] = (a ++ [c]).toArray := by simp
    rw [this, fold_one c n (a ++ [c]), List.append_assoc]; rfl
theorem op_repS {X : Cx} : OpR X (binaryOp .Mult) rRepS := by
  intro pins s σ H x y v u Q I rx ry h
  obtain ⟨c, k, rfl, rfl, h0, h1, q⟩ := h
  obtain ⟨t, rfl⟩ := rx
  obtain ⟨t', rfl⟩ := ry
  have hl : (⟨#[c]⟩ : Str).length = 1 := rfl
  refine P.mul_str ?_ (fun h2 _ => ?_) (fun _ _ => ?_) ?_
  · rw [decide_eq_false (by omega), decide_eq_false (by omega)]; rfl
  · rw [hl]
    have : (1 : Int) ≤ (2 ^ 63 - 1) / k := (Int.le_ediv_iff_mul_le (by omega)).mpr (by omega)
    omega
  · rw [hl]
    unfold Builtin.Str.tooLong
    refine decide_eq_false ?_
    unfold sizeLine
    omega
  · have fin : (List.replicate k.toNat c).toArray.size ≤ sizeLine := by
      rw [List.size_toArray, List.length_replicate]; unfold sizeLine; omega
    by_cases c1 : k < 1
    · rw [if_pos c1]
      have : k.toNat = 0 := by omega
      rw [this] at q
      exact ⟨by decide, .str Str.empty, H, I.tok _, ⟨_, rfl⟩, q⟩
    · rw [if_neg c1]
      by_cases c2 : (k == 1 || (⟨#[c]⟩ : Str).length == 0) = true
      · rw [if_pos c2]
        have : k.toNat = 1 := by
          rw [hl] at c2
          have : k = 1 := by simpa using c2
          omega
        rw [this] at q
        exact ⟨.str ⟨#[c]⟩, H, I, ⟨_, rfl⟩, q⟩
      · rw [if_neg c2]
        have e := fold_one c k.toNat []
        rw [List.nil_append] at e
        have e2 : (⟨(List.replicate k.toNat (#[c] : Array Nat)).foldl (· ++ ·) #[]⟩ : Str) = ⟨(List.replicate k.toNat c).toArray⟩ := by
          congr 1
        show Made.post (Made.str _) _ s
        rw [e2]
        exact ⟨fin, .str ⟨(List.replicate k.toNat c).toArray⟩, H, I.tok _, ⟨_, rfl⟩, q⟩
theorem k_repS {H : Hp} {Q : VK} {c : Nat} {k : Int} (h : 0 ≤ k ∧ k ≤ 100000) (q : Q (.str ⟨(List.replicate k.toNat c).toArray⟩) H) : rRepS (.str ⟨#[c]⟩) (.int k) H Q := ⟨c, k, rfl, rfl, h.1, h.2, q⟩
end Tw
/-! ### len(set(a list of texts)) -/
namespace ST
open PySem PySem.Spec PyProof.Rows L2
section
variable {P : Program} {w : World} {A : Around} {E : Value → Shared → Prop} {s : Shared}
/-- the set of texts at a -/
abbrev SetX (P : Program) (w : World) (h : Heap) (a : Addr) (S : Str → Bool) (n : Nat) : Prop := h.SetOf (PySem.strKind P w) a S n
/-- how many of the first i are unlike -/
def Ct (xs : List Str) (i c : Nat) : Prop := c ≤ i ∧ (c = i ↔ (xs.take i).Nodup)
theorem ct_zero (xs : List Str) : Ct xs 0 0 := ⟨Nat.le_refl _, by simp⟩
theorem ct_next {xs : List Str} {i c : Nat} {z : Str} (h : Ct xs i c) (hz : xs[i]? = some z) : Ct xs (i + 1) (if decide (z ∈ xs.take i) = true then c else c + 1) := by
  have e : xs.take (i + 1) = xs.take i ++ [z] := by rw [List.take_add_one, hz]; rfl
  obtain ⟨h1, h2⟩ := h
  by_cases m : z ∈ xs.take i
  · rw [if_pos (decide_eq_true m)]
    refine ⟨by omega, ?_⟩
    rw [e]
    refine ⟨fun x => by omega, fun x => ?_⟩
    exact absurd rfl ((List.nodup_append.mp x).2.2 z m z (by simp))
  · rw [if_neg (by simpa using m)]
    refine ⟨by omega, ?_⟩
    rw [e]
    refine ⟨fun x => ?_, fun x => ?_⟩
    · refine List.nodup_append.mpr ⟨h2.mp (by omega), by simp, fun u hu v hv z' => ?_⟩
      rw [List.mem_singleton] at hv
      rw [z', hv] at hu
      exact m hu
    · have := h2.mpr (List.nodup_append.mp x).1
      omega
theorem set_update_txt {I : Addr} {fp wr : List Addr} {G : Array GenState → Array GenState → Prop} {n : Nat} {Pv : Nat → Value → Prop} {St : Nat → Shared → Prop} {R : Result → Shared → Prop}
    (W : WalksS P w A.in1 I fp wr G n Pv St) (S : Addr) (hSf : S ∉ fp) (ns : List Str) (hn : n = ns.length) (hb : ns.length + 1 < scanBound) (hval : ∀ i v, Pv i v → ∃ k t, ns[i]? = some k ∧ v = .str k t) :
    ∀ (k i : Nat) (s : Shared), n - i = k → i ≤ n → St i s → (∃ c, Ct ns i c ∧ SetX P w s.heap S (fun j => decide (j ∈ ns.take i)) c) →
      (∀ s' c, Moved (S :: wr) G s s' → Ct ns ns.length c → SetX P w s'.heap S (fun j => decide (j ∈ ns)) c → R (.ok (.ret .none)) s') →
      codeAny (model P w) A (.builtin "set.update.loop" ⟨[.ref S, .ref I], []⟩) R s := by
  have hSw : S ∉ wr := fun h => hSf (W.sub _ h)
  have hsub : ∀ b ∈ wr, b ∈ S :: wr := fun b hb => List.mem_cons_of_mem _ hb
  intro k
  induction k with
  | zero =>
    intro i s hk' hi hst ⟨c, hc, hS⟩ hR
    have hin : i = n := by omega
    subst hin
    refine codeAny_builtin F.entry_set_update_loop ?_
    rw [Around.under_plainId F.plain_set_update_loop _]
    show wpAny _ A.in1 (pyNext (.ref I) >>= _) _ _ s
    refine wpAny_bind (W.done s _ _ hst fun s' hm => ?_)
    show wpAny _ A.in1 (ret Value.none) _ _ s'
    have e : ns.take i = ns := List.take_of_length_le (by omega)
    rw [e] at hS
    rw [hn] at hc
    refine wpAny_pure (hR s' c (hm.mono hsub) hc ?_)
    obtain ⟨o, es, ep, t, ho, rest⟩ := hS
    exact ⟨o, es, ep, t, hm.heap S _ hSw ho, rest⟩
  | succ k ih =>
    intro i s hk' hi hst ⟨c, hc, hS⟩ hR
    have hlt : i < n := by omega
    refine codeAny_builtin F.entry_set_update_loop ?_
    rw [Around.under_plainId F.plain_set_update_loop _]
    show wpAny _ A.in1 (pyNext (.ref I) >>= _) _ _ s
    refine wpAny_bind (W.item i s _ _ hlt hst fun v s' hP hst' hm => ?_)
    obtain ⟨z, t, hz, rfl⟩ := hval i v hP
    have hS' : SetX P w s'.heap S (fun j => decide (j ∈ ns.take i)) c := by
      obtain ⟨o, es, ep, t, ho, rest⟩ := hS
      exact ⟨o, es, ep, t, hm.heap S _ hSw ho, rest⟩
    have hcU : c ≤ ns.length := by have := hc.1; omega
    show wpAny _ A.in1 (holding [Value.str z t] (setAdd S (.str z t)) >>= _) _ _ s'
    refine wpAny_bind (wpAny_holding ?_)
    unfold setAdd
    refine wpAny_holding ?_
    refine wpAny_bind ((PySem.strKind P w).pyHash (k := z) (strKind_is _ _ _ _) ?_)
    refine wpAny_setAddHashed_of (knd := PySem.strKind P w) (s := { s' with toks := s'.toks + 1 }) (strKind_is _ _ _ _) rfl hS' (by omega) fun h' hsb hS2 => ?_
    have hS3 : SetX P w h' S (fun j => decide (j ∈ ns.take (i + 1))) (if decide (z ∈ ns.take i) = true then c else c + 1) := SetOf_congr hS2 (fun j => by
      rw [List.take_add_one, hz]
      simp [List.mem_append]) rfl
    refine wpAny_pure ⟨plainId_quiet F.plain_set_update_loop _, ih (i + 1) _ (by omega) hlt (W.frame _ s' _ _ hst' (Nat.le_succ _) fun b hb o e => ?_) ⟨_, ct_next hc hz, hS3⟩ fun s'' c2 hm'' hc'' hS'' => ?_⟩
    · rw [hsb.2 b (fun h : b = S => hSf (by rw [← h]; exact hb))]; exact e
    · refine hR s'' c2 (Moved.trans W.gtrans ((hm.mono hsub).then_heap (Nat.le_succ _) fun b o hb e => ?_) hm'') hc'' hS''
      rw [hsb.2 b (fun h : b = S => hb (by rw [h]; exact List.mem_cons_self))]; exact e
set_option maxRecDepth 100000 in
set_option maxHeartbeats 3200000 in
theorem call_set_listT {l : Addr} {items : Array Value} (ns : List Str) {Q : Value → Shared → Prop} (hh : A.handled = none) (hl : s.heap.IsList l items) (hit : StrsAre items.toList ns) (hb : ns.length + 1 < scanBound)
    (h : ∀ (h' : Heap) (tk c : Nat), Ct ns ns.length c → SetX P w h' s.heap.objs.size (fun j => decide (j ∈ ns)) c → (∀ b o, s.heap.get? b = some o → h'.get? b = some o) → Q (.ref s.heap.objs.size) { s with heap := h', toks := tk }) :
    wpAny (model P w) A (call (.type "set") [.ref l]) Q E s := by
  have hisz : items.size = ns.length := by
    have q := StrsAre.len_eq hit
    rw [Array.length_toList] at q
    exact q
  obtain ⟨c, tl, hmro⟩ := F.called_set.mro
  have hmade := F.called_set.made
  have hsub := F.called_set.sub
  refine wpAny_call (codeAny_of_tree ?_)
  show wpAny _ _ (callAny (.type "set") _) _ _ _
  refine wpAny_pure ⟨Code.quiet_builtin _ (by decide +kernel), codeAny_builtin F.entry_type_call ?_⟩
  rw [Around.under_plain (weight_type_call_type "set" [.ref l] []) rfl]
  have h1 := F.called_set.notType
  have h2 := F.called_set.canCreate
  have hct := F.typeCall_set_1 (.ref l)
  repeat (any_goals (first | assumption | wp_step))

  refine codeAny_mono (code_set_led1 (.ref l) (E := E) (Q₁ := fun obj s₁ => obj = .ref s.heap.objs.size ∧ s₁ = { s with heap := s.heap.push { cls := .type "set", dict := none, data := .set #[] 0 (.fresh 0 0 (!w.params.followText "set-order")) } }) ⟨rfl, rfl⟩) fun r s₁ hr => ?_
  cases r with
  | error e => exact hr
  | ok fl =>
    cases fl with
    | ret obj =>
      obtain ⟨rfl, rfl⟩ := hr
      have hS : (s.heap.push { cls := .type "set", dict := none, data := .set #[] 0 (.fresh 0 0 (!w.params.followText "set-order")) }).get? s.heap.objs.size = some { cls := .type "set", dict := none, data := .set #[] 0 (.fresh 0 0 (!w.params.followText "set-order")) } := Heap.get?_push_size _ rfl
      have hT : Shared.TypeIs { s with heap := s.heap.push { cls := .type "set", dict := none, data := .set #[] 0 (.fresh 0 0 (!w.params.followText "set-order")) } } (.ref s.heap.objs.size) "set" := ⟨_, hS, rfl⟩
      have hli := F.called_set.init.lookup
      have hbi := F.called_set.init.bind (.ref s.heap.objs.size)
      repeat (any_goals (first | assumption | wp_step))

      refine codeAny_mono (codeAny_call_builtin (R := wants (fun r s₂ => r = .none ∧ ∃ h' tk c, s₂ = { s with heap := h', toks := tk } ∧ Ct ns ns.length c ∧ SetX P w h' s.heap.objs.size (fun j => decide (j ∈ ns)) c ∧
          (∀ b o, s.heap.get? b = some o → h'.get? b = some o)) E) F.called_set.init.plain F.entry_set_init (check_set_init_1 hT ?_)) fun r₂ s₂ hr₂ => ?_
      · obtain ⟨ol, hol, hcl, nl, hdl⟩ := hl
        obtain ⟨ocls, odict, odata, oslots⟩ := ol
        simp only at hcl hdl
        subst hcl; subst hdl
        have hol' : (s.heap.push { cls := .type "set", dict := none, data := .set #[] 0 (.fresh 0 0 (!w.params.followText "set-order")) }).get? l = some { cls := .type "list", dict := odict, data := .seq items nl, slots := oslots } := Heap.get?_push_of_some _ hol
        have hsls := F.sub_list_set
        have hslf := F.sub_list_frozenset
        have hne : (Value.type "list" == Value.type "dict") = false := by decide
        have hl1 : (s.heap.push { cls := .type "set", dict := none, data := .set #[] 0 (.fresh 0 0 (!w.params.followText "set-order")) }).IsList l items := ⟨_, hol', rfl, nl, rfl⟩
        unfold Builtin.«set.__init__» noKeywords Builtin.Frozenset.updateFrom
        generalize hPI : pyIter = PI
        wp_walk
        subst hPI

        refine wpAny_pyIter_list hl1 ?_
        refine wpAny_bind (wpAny_runValue ?_)
        have hlS : l < s.heap.objs.size := Heap.lt_size hol
        have hh3 : A.in1.in1.in1.handled = none := by simp [hh]
        have hz1 : (s.heap.push { cls := .type "set", dict := none, data := .set #[] 0 (.fresh 0 0 (!w.params.followText "set-order")) }).objs.size = s.heap.objs.size + 1 := Heap.size_push ..
        have hneI : l ≠ (s.heap.push { cls := .type "set", dict := none, data := .set #[] 0 (.fresh 0 0 (!w.params.followText "set-order")) }).objs.size := by
          rw [Heap.size_push]; exact Nat.ne_of_lt (Nat.lt_succ_of_lt hlS)
        have hSf : s.heap.objs.size ∉ [(s.heap.push { cls := .type "set", dict := none, data := .set #[] 0 (.fresh 0 0 (!w.params.followText "set-order")) }).objs.size, l] := by
          rw [Heap.size_push]; simp only [List.mem_cons, List.mem_singleton, List.not_mem_nil, or_false, not_or]
          exact ⟨Nat.ne_of_lt (Nat.lt_succ_self _), Nat.ne_of_gt hlS⟩
        have hval : ∀ (i : Nat) (v : Value), items[i]? = some v → ∃ k t, ns[i]? = some k ∧ v = .str k t := fun i v hv => by
          have hi : i < ns.length := by rw [← hisz]; exact (Array.getElem?_eq_some_iff.mp hv).1
          obtain ⟨t, e⟩ := SS.strs_at hit i v (by rw [Array.getElem?_toList]; exact hv)
          refine ⟨ns[i], t, List.getElem?_eq_getElem hi, ?_⟩
          rw [e, List.getD_eq_getElem?_getD, List.getElem?_eq_getElem hi] <;> rfl
        refine set_update_txt ((Walks.list hh3 _ l hneI items).toS) s.heap.objs.size
          hSf ns hisz hb hval (items.size - 0) 0 _ (by omega) (Nat.zero_le _)
          ⟨⟨_, Heap.get?_push_size _ rfl, rfl, rfl⟩, (hl1.push _)⟩ ?hS0 ?hR
        case hS0 =>
          have hget : ((s.heap.push { cls := .type "set", dict := none, data := .set #[] 0 (.fresh 0 0 (!w.params.followText "set-order")) }).push { cls := .type "list_iterator", data := .fields #[.ref l, .int 0 0] }).get? s.heap.objs.size
              = some { cls := .type "set", dict := none, data := .set #[] 0 (.fresh 0 0 (!w.params.followText "set-order")) } := Heap.get?_push_of_some _ hS
          exact ⟨0, ct_zero ns, PyProof.Rows.SetOf_congr ((PyProof.Rows.setObjOf_fresh (knd := PySem.strKind P w) _).setOf hget (by unfold scanBound; omega)) (fun _ => rfl) rfl⟩
        case hR =>
          intro s' c' hm hc' hS'
          obtain ⟨h', g2, d', tk', os'⟩ := s'
          have eg : g2 = s.gens := hm.gens
          have ed : d' = s.drawn := hm.drawn
          have eo : os' = s.os := hm.os
          subst eg; subst ed; subst eo
          show wpAny _ _ _ _ _ _
          refine wpAny_pure ?_
          show wpAny _ _ (ret Value.none) _ _ _
          refine wpAny_pure ⟨rfl, h', tk', c', rfl, hc', hS', fun b o e => ?_⟩
          have hb0 : b < s.heap.objs.size := Heap.lt_size e
          have hb1 : b ≠ s.heap.objs.size := Nat.ne_of_lt hb0
          have hb2 : b ≠ (s.heap.push { cls := .type "set", dict := none, data := .set #[] 0 (.fresh 0 0 (!w.params.followText "set-order")) }).objs.size := by
            rw [Heap.size_push]; exact Nat.ne_of_lt (Nat.lt_succ_of_lt hb0)
          exact hm.heap b o (by simp only [List.mem_cons, List.mem_singleton, List.not_mem_nil, or_false, not_or]; exact ⟨hb1, hb2⟩) (Heap.get?_push_of_some _ (Heap.get?_push_of_some _ e))

      · cases r₂ with
        | error e => exact hr₂
        | ok fl₂ =>
          cases fl₂ with
          | ret r =>
            obtain ⟨rfl, h', tk, c', rfl, hc', hS', hk'⟩ := hr₂
            repeat (any_goals (first | assumption | wp_step))
            exact h _ _ _ hc' hS' hk'
          | _ => exact hr₂.elim
    | _ => exact hr.elim
end
end ST
namespace Tw
open PySem PySem.Spec PyProof.Rows L2
theorem strsAre_vals : ∀ {ns : List Str} {us : List Value}, Vals (ns.map V.str) us → StrsAre us ns
  | [], _, .nil => .nil
  | n :: ns, _, .cons r t => by
    obtain ⟨k, rfl⟩ := r
    exact .cons n k (strsAre_vals t)
def LenSetT (K : PySem.W.Frag) (Q : VK) (x : V) (H : Hp) : Prop := ∃ (l : Addr) (ns : List Str), x = .ref l ∧ SqL K H l (ns.map V.str) ∧ ns.length ≤ 4000 ∧ ∀ c : Nat, ST.Ct ns ns.length c → Q (.int (c : Int)) H
def tLenSetT (K : PySem.W.Frag) (ta : TE) : TE := fun σ H Q => ta σ H (LenSetT K Q)
theorem m_lenSetT {K : PySem.W.Frag} {ta : TE} {σ : L2.St} {H : Hp} {Q : VK} (h : ta σ H (LenSetT K Q)) : tLenSetT K ta σ H Q := h
theorem m_lenSetTE {K : PySem.W.Frag} {H : Hp} {Q : VK} {l : Addr} {ns : List Str} (hS : SqL K H l (ns.map V.str)) (hl : ns.length ≤ 4000) (q : ∀ c : Nat, c ≤ ns.length → (c = ns.length ↔ ns.Nodup) → Q (.int (c : Int)) H) : LenSetT K Q (.ref l) H :=
  ⟨l, ns, rfl, hS, hl, fun c h => q c h.1 (by have := h.2; rwa [List.take_length] at this)⟩
theorem pe_lenSetT {X : Cx} {a : Expr} {ta : TE} {p p2 q pos : Pos} (hg : Gl X "len") (hm : X.mg "len" = none) (hg2 : Gl X "set") (hm2 : X.mg "set" = none) (ha : PE X a ta) (hc : X.calm = true := by rfl)
    (na : starEach [a] X.env = (false, eval a X.env) :: starEach [] X.env := by rfl) : PE X (.Call (.Name "len" p) [.Call (.Name "set" p2) [a] [] q] [] pos) (tLenSetT X.K ta) := by
  refine ⟨fun pins s σ H Q I h => ?_⟩
  refine Call_ (ld_blt I hg hm boot_len ?_)
  refine PyProof.Rows.callWith_builtin1 (PyProof.Rows.args_cons ?_ rfl) rfl rfl
  refine Call_ (ld_blt I hg2 hm2 boot_set ?_)
  refine PyProof.Rows.callWith_type1 (PyProof.Rows.args_cons (thn (ha.run pins s σ H _ I h) fun v s1 ⟨x, H1, I1, r1, q1⟩ => PyProof.Rows.args_nil ?_) na) na rfl
  obtain ⟨l, ns, rfl, hq, hl, q1⟩ := q1
  cases r1
  obtain ⟨its, r, pl, hz⟩ := I1.list hq
  refine ST.call_set_listT ns (I1.ok.hd hc) pl.isList (by simpa using strsAre_vals r) (by unfold scanBound; omega) fun h' tk c hct hS hk => ?_
  refine PyProof.Rows.args_nil ?_
  obtain ⟨o, es, ep, t, ho, hex, hd, _, _, _, hf, hn⟩ := hS
  have I2 : Inv X pins σ H1 { s1 with heap := h', toks := tk } := I1.kept fun b o e => hk b o e
  have hu := hct.1
  exact call_len_set ho hex hd hf (by rw [hn] <;> omega) ⟨.int (c : Nat), H1, I2.tok _, ⟨_, by rw [hn]⟩, q1 c hct⟩
/-! ### sorted(a list of texts), any number of them -/
def rSortedSA (K : PySem.W.Frag) : List V → Hp → VK → Prop := fun vs H Q => ∃ (a : Addr) (xs : List Str), vs = [V.ref a] ∧ SqL K H a (xs.map V.str) ∧
  ∀ (ys : List Str) (p : Addr), ys.Perm xs → sortedS ys = true → H p = none → Q (.ref p) (upd H p (.lst (ys.map V.str)))
theorem cr_sortedSA {X : Cx} : CallR X (.builtin "sorted") (rSortedSA X.K) := by
  intro pins s σ H vs us Q I r h
  obtain ⟨a, xs, rfl, hs, q⟩ := h
  obtain ⟨its, rv, hl, hz⟩ := I.list hs
  rw [Vals.ref1 r]
  have hlen0 := rv.length
  refine PyProof.Rows.sorted_strsAny hl.isList rv.strs (by rw [← hlen0]; exact hz) fun out ys h1 h2 h3 => ?_
  obtain ⟨ep, he'⟩ := PyProof.Rows.sortedAll_at s.heap its out
  have hlen : (ys.map V.str).length ≤ sizeLine := by rw [List.length_map, h2.length_eq]; rw [List.length_map] at hz; exact hz
  exact ⟨.ref _, upd H (s.heap.objs.size + 1) (.lst (ys.map V.str)), I.laid (t' := s.toks) (fun _ _ => PyProof.Rows.sortedAll_old) (Nat.le_succ _) ⟨hlen, out.toList, ep, vals_of_strs h1, he'⟩, rfl, q ys _ h2 h3 (I.hok.fresh (Nat.le_succ _))⟩
theorem k_sortedSA {K : PySem.W.Frag} {H : Hp} {Q : VK} {a : Addr} {xs : List Str} (h : SqL K H a (xs.map V.str)) (q : ∀ (ys : List Str) (p : Addr), ys.Perm xs → sortedS ys = true → H p = none → Q (.ref p) (upd H p (.lst (ys.map V.str)))) : rSortedSA K [.ref a] H Q := ⟨a, xs, rfl, h, q⟩
end Tw
/-! ### sorted(set(a list of ints)) -/
namespace SS
open PySem PySem.Spec PyProof.Rows L2
section
variable {P : Program} {w : World} {A : Around} {E : Value → Shared → Prop} {s : Shared}
theorem setR_few {h : Heap} {a : Addr} {S : Int → Bool} {n : Nat} (R : SetR w h a S n) {U : List Int} (hU : ∀ k, S k = true → k ∈ U) : n ≤ U.length := by
  obtain ⟨o, es, ep, t, ho, hex, hd, g, nd, hm, hb, hf, hn, _⟩ := R
  have hs : es.toList.map keyOf ⊆ U := fun k hk => hU k ((hm k).2 hk)
  have := List.Nodup.length_le_of_subset nd hs
  rw [List.length_map, Array.length_toList, hn] at this
  exact this
theorem set_update_few {I : Addr} {fp wr : List Addr} {G : Array GenState → Array GenState → Prop} {n : Nat} {Pv : Nat → Value → Prop} {St : Nat → Shared → Prop} {R : Result → Shared → Prop}
    (W : WalksS P w A.in1 I fp wr G n Pv St) (S : Addr) (hSf : S ∉ fp) (ns U : List Int) (hn : n = ns.length) (hb : U.length + 1 < scanBound) (hU : ∀ k ∈ ns, k ∈ U) (hval : ∀ i v, Pv i v → ∃ k t, ns[i]? = some k ∧ v = .int k t) :
    ∀ (k i : Nat) (s : Shared), n - i = k → i ≤ n → St i s → (∃ c, SetR w s.heap S (fun j => decide (j ∈ ns.take i)) c) →
      (∀ s' c, Moved (S :: wr) G s s' → SetR w s'.heap S (fun j => decide (j ∈ ns)) c → R (.ok (.ret .none)) s') →
      codeAny (model P w) A (.builtin "set.update.loop" ⟨[.ref S, .ref I], []⟩) R s := by
  have hSw : S ∉ wr := fun h => hSf (W.sub _ h)
  have hsub : ∀ b ∈ wr, b ∈ S :: wr := fun b hb => List.mem_cons_of_mem _ hb
  intro k
  induction k with
  | zero =>
    intro i s hk' hi hst ⟨c, hS⟩ hR
    have hin : i = n := by omega
    subst hin
    refine codeAny_builtin F.entry_set_update_loop ?_
    rw [Around.under_plainId F.plain_set_update_loop _]
    show wpAny _ A.in1 (pyNext (.ref I) >>= _) _ _ s
    refine wpAny_bind (W.done s _ _ hst fun s' hm => ?_)
    show wpAny _ A.in1 (ret Value.none) _ _ s'
    have e : ns.take i = ns := List.take_of_length_le (by omega)
    rw [e] at hS
    exact wpAny_pure (hR s' c (hm.mono hsub) (hS.at fun o e => hm.heap S o hSw e))
  | succ k ih =>
    intro i s hk' hi hst ⟨c, hS⟩ hR
    have hlt : i < n := by omega
    refine codeAny_builtin F.entry_set_update_loop ?_
    rw [Around.under_plainId F.plain_set_update_loop _]
    show wpAny _ A.in1 (pyNext (.ref I) >>= _) _ _ s
    refine wpAny_bind (W.item i s _ _ hlt hst fun v s' hP hst' hm => ?_)
    obtain ⟨z, t, hz, rfl⟩ := hval i v hP
    have hS' : SetR w s'.heap S (fun j => decide (j ∈ ns.take i)) c := hS.at fun o e => hm.heap S o hSw e
    have hcU : c ≤ U.length := setR_few hS' fun k hk => hU k (List.mem_of_mem_take (of_decide_eq_true hk))
    show wpAny _ A.in1 (holding [Value.int z t] (setAdd S (.int z t)) >>= _) _ _ s'
    refine wpAny_bind (wpAny_holding ?_)
    unfold setAdd
    refine wpAny_holding ?_
    refine wpAny_bind ((intKind P w).pyHash (k := z) (intKind_is _ _ _ _) ?_)
    refine setR_add_hashed (s := { s' with toks := s'.toks + 1 }) hS' (by omega) fun h' hsb hS2 => ?_
    have hS3 : SetR w h' S (fun j => decide (j ∈ ns.take (i + 1))) (if decide (z ∈ ns.take i) = true then c else c + 1) := hS2.congr fun j => by
      rw [List.take_add_one, hz]
      simp [List.mem_append]
    refine wpAny_pure ⟨plainId_quiet F.plain_set_update_loop _, ih (i + 1) _ (by omega) hlt (W.frame _ s' _ _ hst' (Nat.le_succ _) fun b hb o e => ?_) ⟨_, hS3⟩ fun s'' c2 hm'' hS'' => ?_⟩
    · rw [hsb.2 b (fun h : b = S => hSf (by rw [← h]; exact hb))]; exact e
    · refine hR s'' c2 (Moved.trans W.gtrans ((hm.mono hsub).then_heap (Nat.le_succ _) fun b o hb e => ?_) hm'') hS''
      rw [hsb.2 b (fun h : b = S => hb (by rw [h]; exact List.mem_cons_self))]; exact e
set_option maxRecDepth 100000 in
set_option maxHeartbeats 3200000 in
theorem call_set_listI {l : Addr} {items : Array Value} (ns U : List Int) {Q : Value → Shared → Prop} (hh : A.handled = none) (hl : s.heap.IsList l items) (hit : IntsAre items.toList ns) (hb : U.length + 1 < scanBound) (hU : ∀ k ∈ ns, k ∈ U)
    (h : ∀ (h' : Heap) (tk c : Nat), SetR w h' s.heap.objs.size (fun j => decide (j ∈ ns)) c → (∀ b o, s.heap.get? b = some o → h'.get? b = some o) → Q (.ref s.heap.objs.size) { s with heap := h', toks := tk }) :
    wpAny (model P w) A (call (.type "set") [.ref l]) Q E s := by
  have hisz : items.size = ns.length := by
    have q := IntsAre.length hit
    rw [Array.length_toList] at q
    exact q
  obtain ⟨c, tl, hmro⟩ := F.called_set.mro
  have hmade := F.called_set.made
  have hsub := F.called_set.sub
  refine wpAny_call (codeAny_of_tree ?_)
  show wpAny _ _ (callAny (.type "set") _) _ _ _
  refine wpAny_pure ⟨Code.quiet_builtin _ (by decide +kernel), codeAny_builtin F.entry_type_call ?_⟩
  rw [Around.under_plain (weight_type_call_type "set" [.ref l] []) rfl]
  have h1 := F.called_set.notType
  have h2 := F.called_set.canCreate
  have hct := F.typeCall_set_1 (.ref l)
  repeat (any_goals (first | assumption | wp_step))

  refine codeAny_mono (code_set_led1 (.ref l) (E := E) (Q₁ := fun obj s₁ => obj = .ref s.heap.objs.size ∧ s₁ = { s with heap := s.heap.push { cls := .type "set", dict := none, data := .set #[] 0 (.fresh 0 0 (!w.params.followText "set-order")) } }) ⟨rfl, rfl⟩) fun r s₁ hr => ?_
  cases r with
  | error e => exact hr
  | ok fl =>
    cases fl with
    | ret obj =>
      obtain ⟨rfl, rfl⟩ := hr
      have hS : (s.heap.push { cls := .type "set", dict := none, data := .set #[] 0 (.fresh 0 0 (!w.params.followText "set-order")) }).get? s.heap.objs.size = some { cls := .type "set", dict := none, data := .set #[] 0 (.fresh 0 0 (!w.params.followText "set-order")) } := Heap.get?_push_size _ rfl
      have hT : Shared.TypeIs { s with heap := s.heap.push { cls := .type "set", dict := none, data := .set #[] 0 (.fresh 0 0 (!w.params.followText "set-order")) } } (.ref s.heap.objs.size) "set" := ⟨_, hS, rfl⟩
      have hli := F.called_set.init.lookup
      have hbi := F.called_set.init.bind (.ref s.heap.objs.size)
      repeat (any_goals (first | assumption | wp_step))

      refine codeAny_mono (codeAny_call_builtin (R := wants (fun r s₂ => r = .none ∧ ∃ h' tk c, s₂ = { s with heap := h', toks := tk } ∧ SetR w h' s.heap.objs.size (fun j => decide (j ∈ ns)) c ∧
          (∀ b o, s.heap.get? b = some o → h'.get? b = some o)) E) F.called_set.init.plain F.entry_set_init (check_set_init_1 hT ?_)) fun r₂ s₂ hr₂ => ?_
      · obtain ⟨ol, hol, hcl, nl, hdl⟩ := hl
        obtain ⟨ocls, odict, odata, oslots⟩ := ol
        simp only at hcl hdl
        subst hcl; subst hdl
        have hol' : (s.heap.push { cls := .type "set", dict := none, data := .set #[] 0 (.fresh 0 0 (!w.params.followText "set-order")) }).get? l = some { cls := .type "list", dict := odict, data := .seq items nl, slots := oslots } := Heap.get?_push_of_some _ hol
        have hsls := F.sub_list_set
        have hslf := F.sub_list_frozenset
        have hne : (Value.type "list" == Value.type "dict") = false := by decide
        have hl1 : (s.heap.push { cls := .type "set", dict := none, data := .set #[] 0 (.fresh 0 0 (!w.params.followText "set-order")) }).IsList l items := ⟨_, hol', rfl, nl, rfl⟩
        unfold Builtin.«set.__init__» noKeywords Builtin.Frozenset.updateFrom
        generalize hPI : pyIter = PI
        wp_walk
        subst hPI

        refine wpAny_pyIter_list hl1 ?_
        refine wpAny_bind (wpAny_runValue ?_)
        have hlS : l < s.heap.objs.size := Heap.lt_size hol
        have hh3 : A.in1.in1.in1.handled = none := by simp [hh]
        have hz1 : (s.heap.push { cls := .type "set", dict := none, data := .set #[] 0 (.fresh 0 0 (!w.params.followText "set-order")) }).objs.size = s.heap.objs.size + 1 := Heap.size_push ..
        have hneI : l ≠ (s.heap.push { cls := .type "set", dict := none, data := .set #[] 0 (.fresh 0 0 (!w.params.followText "set-order")) }).objs.size := by
          rw [Heap.size_push]; exact Nat.ne_of_lt (Nat.lt_succ_of_lt hlS)
        have hSf : s.heap.objs.size ∉ [(s.heap.push { cls := .type "set", dict := none, data := .set #[] 0 (.fresh 0 0 (!w.params.followText "set-order")) }).objs.size, l] := by
          rw [Heap.size_push]; simp only [List.mem_cons, List.mem_singleton, List.not_mem_nil, or_false, not_or]
          exact ⟨Nat.ne_of_lt (Nat.lt_succ_self _), Nat.ne_of_gt hlS⟩
        have hval : ∀ (i : Nat) (v : Value), items[i]? = some v → ∃ k t, ns[i]? = some k ∧ v = .int k t := fun i v hv => by
          have hi : i < ns.length := by rw [← hisz]; exact (Array.getElem?_eq_some_iff.mp hv).1
          obtain ⟨t, e⟩ := PyProof.Rows.IntsAre.int_at hit i v (by rw [Array.getElem?_toList]; exact hv)
          refine ⟨ns[i], t, List.getElem?_eq_getElem hi, ?_⟩
          rw [e, List.getD_eq_getElem?_getD, List.getElem?_eq_getElem hi] <;> rfl
        refine set_update_few ((Walks.list hh3 _ l hneI items).toS) s.heap.objs.size
          hSf ns U hisz hb hU hval (items.size - 0) 0 _ (by omega) (Nat.zero_le _)
          ⟨⟨_, Heap.get?_push_size _ rfl, rfl, rfl⟩, (hl1.push _)⟩ ?hS0 ?hR
        case hS0 =>
          have hget : ((s.heap.push { cls := .type "set", dict := none, data := .set #[] 0 (.fresh 0 0 (!w.params.followText "set-order")) }).push { cls := .type "list_iterator", data := .fields #[.ref l, .int 0 0] }).get? s.heap.objs.size
              = some { cls := .type "set", dict := none, data := .set #[] 0 (.fresh 0 0 (!w.params.followText "set-order")) } := Heap.get?_push_of_some _ hS
          exact ⟨0, setR_new_at hget⟩
        case hR =>
          intro s' c' hm hS'
          obtain ⟨h', g2, d', tk', os'⟩ := s'
          have eg : g2 = s.gens := hm.gens
          have ed : d' = s.drawn := hm.drawn
          have eo : os' = s.os := hm.os
          subst eg; subst ed; subst eo
          show wpAny _ _ _ _ _ _
          refine wpAny_pure ?_
          show wpAny _ _ (ret Value.none) _ _ _
          refine wpAny_pure ⟨rfl, h', tk', c', rfl, hS', fun b o e => ?_⟩
          have hb0 : b < s.heap.objs.size := Heap.lt_size e
          have hb1 : b ≠ s.heap.objs.size := Nat.ne_of_lt hb0
          have hb2 : b ≠ (s.heap.push { cls := .type "set", dict := none, data := .set #[] 0 (.fresh 0 0 (!w.params.followText "set-order")) }).objs.size := by
            rw [Heap.size_push]; exact Nat.ne_of_lt (Nat.lt_succ_of_lt hb0)
          exact hm.heap b o (by simp only [List.mem_cons, List.mem_singleton, List.not_mem_nil, or_false, not_or]; exact ⟨hb1, hb2⟩) (Heap.get?_push_of_some _ (Heap.get?_push_of_some _ e))

      · cases r₂ with
        | error e => exact hr₂
        | ok fl₂ =>
          cases fl₂ with
          | ret r =>
            obtain ⟨rfl, h', tk, c', rfl, hS', hk'⟩ := hr₂
            repeat (any_goals (first | assumption | wp_step))
            exact h _ _ _ hS' hk'
          | _ => exact hr₂.elim
    | _ => exact hr.elim
theorem sorted_setU {a : Addr} {S : Int → Bool} {n : Nat} {Q : Value → Shared → Prop} (R : SetR w s.heap a S n) (hh : A.handled = none)
    (hQ : ∀ s' p (out : Array Value) (c : Nat) (ns : List Int), (∀ b o, s.heap.get? b = some o → s'.heap.get? b = some o) → s'.gens = s.gens → s'.os = s.os → s.heap.objs.size ≤ p →
      s'.heap.get? p = some (seqObj "list" out c) → IntsAre out.toList ns → ns.Pairwise (· < ·) → (∀ k, k ∈ ns ↔ S k = true) → ns.length = n → n < scanBound → Q (.ref p) s') :
    wpAny (model P w) A (call (.builtin "sorted") [.ref a]) Q E s := by
  obtain ⟨o, es, ep, t, ho, hex, hd, g, nd, hm, hb, hf, hn, hr, hl⟩ := R
  refine Calls.call_function_entry kind_sorted plain_sorted entry_sorted (args_sorted1 _) ?_
  unfold Builtin.«sorted»
  refine wpAny_bind (m := checkCount "sorted" 1 1 _) (wpAny_pure ?_)
  refine wpAny_bind (collect_set (A := A.in1) hh ⟨o, ho, hex.1, hd⟩ hf hb hr hl fun s1 vs k1 hz g1 o1 pm => ?_)
  have hvl : vs.length = n := by rw [pm.length_eq, List.length_map, Array.length_toList]; exact hn
  have hzl : vs.length ≤ sizeLine := by rw [hvl, sizeLine_eq]; unfold scanBound at hb; omega
  have hI : IntsAre vs (vs.map Builtin.Re.reRawOf) := ints_of vs fun v hv => by
    obtain ⟨e, he, q⟩ := List.mem_map.mp (pm.mem_iff.mp hv)
    obtain ⟨k, tk, h1, _⟩ := g e he
    exact ⟨k, tk, by rw [← q]; exact h1⟩
  have pk : (vs.map Builtin.Re.reRawOf).Perm (es.toList.map keyOf) := by
    have q := pm.map Builtin.Re.reRawOf
    rw [List.map_map] at q
    exact q
  refine wpAny_bind (wpAny_newList ?_ hzl)
  have hoL : (s1.heap.push (seqObj "list" vs.toArray 0)).get? s1.heap.objs.size = some (seqObj "list" vs.toArray 0) := Heap.get?_push_size _ rfl
  refine wpAny_bind (wpAny_holding (wpAny_call_entry slot_list_sort ⟨_, hoL, rfl⟩ entry_list_sort (SrtO.list_sort_ord SrtO.swo_int hoL hzl (fun h2 => SrtO.ints_sortable hI h2) fun out h1 h2 => ⟨_, rfl, ?_⟩) (args_list_sort _)))
  obtain ⟨a1, a2, a3⟩ := SrtO.ints_out hI h1 h2
  obtain ⟨c, hc⟩ := sortedHeap_at (vs := vs) (out := out.toArray) hoL
  have pn : (out.map SrtO.iv).Perm (es.toList.map keyOf) := a2.trans pk
  refine wpAny_pure ⟨_, rfl, hQ _ s1.heap.objs.size out.toArray c (out.map SrtO.iv) (fun b u e => ?_) g1 o1 hz hc (by rw [List.toList_toArray]; exact a1) (lt_of_le_nodup _ a3 (pn.nodup_iff.mpr nd)) (fun k => by rw [pn.mem_iff, ← hm k]) ?_ (by rw [← hn]; exact hb)⟩
  · have q := k1 b u e
    have hlt := Heap.lt_size q
    show (sortedHeap (s1.heap.push (seqObj "list" vs.toArray 0)) s1.heap.objs.size vs out.toArray).get? b = some u
    rw [sortedHeap_old (Nat.ne_of_lt hlt) (by rw [size_push']; exact Nat.lt_succ_of_lt hlt)]
    exact Heap.get?_push_of_some _ q
  · rw [pn.length_eq, List.length_map, Array.length_toList]; exact hn
end
end SS
namespace Tw
open PySem PySem.Spec PyProof.Rows L2
/-- sorted(set(xs)) -/
def SortSetK (K : PySem.W.Frag) (Q : VK) (x : V) (H : Hp) : Prop := ∃ (l : Addr) (ns U : List Int), x = .ref l ∧ SqL K H l (ns.map V.int) ∧ U.length ≤ 4090 ∧ (∀ k ∈ ns, k ∈ U) ∧ ∀ (ks : List Int) (p : Addr), ks.Pairwise (· < ·) → (∀ k, k ∈ ks ↔ k ∈ ns) → H p = none → Q (.ref p) (upd H p (.lst (ks.map V.int)))
def tSortSet (K : PySem.W.Frag) (ta : TE) : TE := fun σ H Q => ta σ H (SortSetK K Q)
theorem m_sortSet {K : PySem.W.Frag} {ta : TE} {σ : L2.St} {H : Hp} {Q : VK} (h : ta σ H (SortSetK K Q)) : tSortSet K ta σ H Q := h
theorem m_sortSetE {K : PySem.W.Frag} {H : Hp} {Q : VK} {l : Addr} {ns : List Int} (hS : SqL K H l (ns.map V.int)) (hn : ns.length ≤ 4090) (q : ∀ (ks : List Int) (p : Addr), ks.Pairwise (· < ·) → (∀ k, k ∈ ks ↔ k ∈ ns) → H p = none → Q (.ref p) (upd H p (.lst (ks.map V.int)))) : SortSetK K Q (.ref l) H := ⟨l, ns, ns, rfl, hS, hn, fun _ h => h, q⟩
theorem sort_step {X : Cx} {pins : List (Addr × Obj)} {σ : L2.St} {H : Hp} {s1 : Shared} {a : Addr} {S : Int → Bool} {c : Nat} {Q : VK} (I2 : Inv X pins σ H s1) (hh : X.A.handled = none) (hS : SetR X.w s1.heap a S c)
    (q1 : ∀ (ks : List Int) (p : Addr), ks.Pairwise (· < ·) → (∀ k, k ∈ ks ↔ S k = true) → H p = none → Q (.ref p) (upd H p (.lst (ks.map V.int)))) : wpAny (model X.prog X.w) X.A (call (.builtin "sorted") [.ref a]) (EP X pins σ Q) X.xe s1 := by
  refine SS.sorted_setU hS hh fun s' p out c ks k g o hp hg' hi hsrt hmem hlen hb => ?_
  have hzl : (ks.map V.int).length ≤ sizeLine := by rw [List.length_map, hlen, sizeLine_eq]; unfold scanBound at hb; omega
  have hn : H p = none := I2.hok.fresh hp
  have J : Inv X pins σ (upd H p (.lst (ks.map V.int))) { s1 with heap := s'.heap, gens := s'.gens, drawn := s'.drawn, toks := s'.toks } :=
    I2.call (ch := []) (Un.laid k hp hn) (I2.hok.laid k hp ⟨hzl, out.toList, c, vals_of_ints hi, hg'⟩) (by rw [g]; exact I2.bare) (fun _ z => nomatch z)
  have e : s' = { s1 with heap := s'.heap, gens := s'.gens, drawn := s'.drawn, toks := s'.toks } := by
    cases s'
    cases s1
    cases o
    rfl
  rw [e]
  exact ⟨.ref p, _, J, rfl, q1 ks p hsrt hmem hn⟩
theorem pe_sortSet {X : Cx} {a : Expr} {ta : TE} {p p2 q pos : Pos} (hg : Gl X "sorted") (hm : X.mg "sorted" = none) (hg2 : Gl X "set") (hm2 : X.mg "set" = none) (ha : PE X a ta) (hc : X.calm = true := by rfl)
    (na : starEach [a] X.env = (false, eval a X.env) :: starEach [] X.env := by rfl) : PE X (.Call (.Name "sorted" p) [.Call (.Name "set" p2) [a] [] q] [] pos) (tSortSet X.K ta) := by
  refine ⟨fun pins s σ H Q I h => ?_⟩
  refine Call_ (ld_blt I hg hm boot_sorted ?_)
  refine PyProof.Rows.callWith_builtin1 (PyProof.Rows.args_cons ?_ rfl) rfl rfl
  refine Call_ (ld_blt I hg2 hm2 boot_set ?_)
  refine PyProof.Rows.callWith_type1 (PyProof.Rows.args_cons (thn (ha.run pins s σ H _ I h) fun v s1 ⟨x, H1, I1, r1, q1⟩ => PyProof.Rows.args_nil ?_) na) na rfl
  obtain ⟨l, ns, U, rfl, hq, hU, hs, q1⟩ := q1
  cases r1
  obtain ⟨its, r, pl, hz⟩ := I1.list hq
  refine SS.call_set_listI ns U (I1.ok.hd hc) pl.isList (by simpa using intsAre_vals r) (by unfold scanBound; omega) hs fun h' tk c hS hk => ?_
  refine PyProof.Rows.args_nil ?_
  have I2 : Inv X pins σ H1 { s1 with heap := h', toks := tk } := I1.kept hk
  exact sort_step I2 (I1.ok.hd hc) hS fun ks p h1 h2 h3 => q1 ks p h1 (fun k => by rw [h2 k]; exact decide_eq_true_iff) h3
end Tw
/-! ### texts -/
namespace Tw
open PySem PySem.Spec PyProof.Rows L2
/-- a global text -/
theorem pe_gstr {X : Cx} {x z : Str} {pos : Pos} (h : ∃ t, X.mg x = some (.str z t)) (hg : Gl X x) (hd : (x == ("__debug__" : Str)) = false := by decide) : PE X (.Name x pos) (tC (.str z)) := by
  obtain ⟨t, h⟩ := h
  exact pe_glob hg h ⟨_, rfl⟩ hd
/-- t.find(c) -/
def rFindS : V → List V → Hp → VK → Prop := fun x xs H Q => ∃ a b : Str, x = .str a ∧ xs = [.str b] ∧ Q (.int (Txt.find a b)) H
theorem mt_findS {X : Cx} : MtR X "str.find" rFindS := mt_find
theorem pe_findS {X : Cx} {o e : Expr} {to te : TE} {apos pos : Pos} (ho : PE X o to) (he : PE X e te) (hs : starEach [e] X.env = [(false, eval e X.env)] := by rfl) (hbase : attributeBase o "find" X.env (eval o X.env) = eval o X.env := by rfl) (hline : (apos.endLine == pos.line) = true := by rfl) :
    PE X (.Call (.Attribute o "find" apos) [e] [] pos) (tM1 rFindS to te) := pe_m1 F.slot_str_find F.type_str_find mt_findS ho he hs hbase hline
theorem m_findS {σ : L2.St} {H : Hp} {Q : VK} {r : V → List V → Hp → VK → Prop} {to te : TE} (h : to σ H fun x H1 => (∃ a, x = .str a) ∧ te σ H1 fun y H2 => r x [y] H2 Q) : tM1 r to te σ H Q := h
theorem k_findS {H : Hp} {Q : VK} {a b : Str} (q : Q (.int (Txt.find a b)) H) : rFindS (.str a) [.str b] H Q := ⟨a, b, rfl, rfl, q⟩
def ItsK (R : It → Hp → Prop) (v : V) (H : Hp) : Prop := ∃ x, v = .str x ∧ R (Its x) H
theorem m_iStr {te : TE} {σ : L2.St} {H : Hp} {R : It → Hp → Prop} (h : te σ H (ItsK R)) : iStr te σ H R := h
theorem m_iStrE {x : Str} {H : Hp} {R : It → Hp → Prop} (h : R (Its x) H) : ItsK R (.str x) H := ⟨x, rfl, h⟩
theorem k_inS {H : Hp} {Q : VK} {c : Nat} {z : Str} (q : Q (.bl (decide (c ∈ z.cps.toList))) H) : rInS (.str ⟨#[c]⟩) (.str z) H Q := ⟨c, z, rfl, rfl, q⟩
theorem k_notInS {H : Hp} {Q : VK} {c : Nat} {z : Str} (q : Q (.bl (!decide (c ∈ z.cps.toList))) H) : rNotInS (.str ⟨#[c]⟩) (.str z) H Q := ⟨c, z, rfl, rfl, q⟩
/-- x < y of texts -/
def rLtS : R2 := fun x y H Q => ∃ i j : Str, x = .str i ∧ y = .str j ∧ Q (.bl (decide (i.cps.toList < j.cps.toList))) H
theorem op_ltS {X : Cx} : OpR X (compareOp .Lt) rLtS := op_lt_str
theorem k_ltS {H : Hp} {Q : VK} {a b : Str} (q : Q (.bl (decide (a.cps.toList < b.cps.toList))) H) : rLtS (.str a) (.str b) H Q := ⟨a, b, rfl, rfl, q⟩
/-- t.startswith(u) -/
def rStartS : V → List V → Hp → VK → Prop := fun x xs H Q => ∃ a b : Str, x = .str a ∧ xs = [.str b] ∧ Q (.bl (Txt.startswith a b)) H
theorem mt_startS {X : Cx} : MtR X "str.startswith" rStartS := mt_startswith
theorem pe_startS {X : Cx} {o e : Expr} {to te : TE} {apos pos : Pos} (ho : PE X o to) (he : PE X e te) (hs : starEach [e] X.env = [(false, eval e X.env)] := by rfl) (hbase : attributeBase o "startswith" X.env (eval o X.env) = eval o X.env := by rfl) (hline : (apos.endLine == pos.line) = true := by rfl) :
    PE X (.Call (.Attribute o "startswith" apos) [e] [] pos) (tM1 rStartS to te) := pe_m1 F.slot_str_startswith F.type_str_startswith mt_startS ho he hs hbase hline
theorem k_startS {H : Hp} {Q : VK} {a b : Str} (q : Q (.bl (Txt.startswith a b)) H) : rStartS (.str a) [.str b] H Q := ⟨a, b, rfl, rfl, q⟩
end Tw
/-! ### zip of two texts -/
namespace Tw
open PySem PySem.Spec PyProof.Rows L2 RZ
/-- the letters of two texts, side by side, each two in a new pair -/
def ItzS (x y : Str) : It :=
  ⟨fun i _ => i < x.cps.size ∧ i < y.cps.size,
    fun i H v H' => ∃ T c d, v = .ref T ∧ H T = none ∧ H' = upd H T (.tup [.str ⟨#[c]⟩, .str ⟨#[d]⟩]) ∧ x.cps[i]? = some c ∧ y.cps[i]? = some d,
    fun i _ => i ≤ x.cps.size ∧ i ≤ y.cps.size ∧ (i = x.cps.size ∨ i = y.cps.size)⟩
theorem turn_zipS {P : Program} {w : World} {K : PySem.W.Frag} {elts : List Expr} {kk : Nat} {tpos : Pos} {z TI TO i1 i2 : Addr} {x y : Str} {t u : Tok} (D : ZipSep2 z TI TO i1 i2 [i1] [i2]) :
    Turn P w K (.Tuple elts kk tpos) (ItzS x y) [z, TI, TO, i1, i2] z (fun i h => IsZip h z TI TO .none ∧ IsPair h TI (.ref i1) (.ref i2) ∧ (∃ a b, IsPair h TO a b) ∧ h.IsStrIter i1 (strIterType x) x t i ∧ h.IsStrIter i2 (strIterType y) y u i) where
  mem := by simp
  obj := fun i h st c hc => by
    obtain ⟨hz, hTI, ⟨a, b, hTO⟩, ⟨o1, e1, _, d1⟩, ⟨o2, e2, _, d2⟩⟩ := st
    have e' : c = z ∨ c = TI ∨ c = TO ∨ c = i1 ∨ c = i2 := by simpa using hc
    rcases e' with q | q | q | q | q
    · rw [q]; exact ⟨_, hz, fun v q => nomatch q⟩
    · rw [q]; exact ⟨_, hTI, fun v q => nomatch q⟩
    · rw [q]; exact ⟨_, hTO, fun v q => nomatch q⟩
    · rw [q]; exact ⟨o1, e1, fun v q => by rw [d1] at q; cases q⟩
    · rw [q]; exact ⟨o2, e2, fun v q => by rw [d2] at q; cases q⟩
  keep := fun i h h' st k => by
    obtain ⟨hz, hTI, ⟨a, b, hTO⟩, ⟨o1, e1, r1⟩, ⟨o2, e2, r2⟩⟩ := st
    exact ⟨k z (by simp) _ hz, k TI (by simp) _ hTI, ⟨a, b, k TO (by simp) _ hTO⟩, ⟨o1, k i1 (by simp) _ e1, r1⟩, ⟨o2, k i2 (by simp) _ e2, r2⟩⟩
  item := by
    intro X hP hw hK hc i pins s σ H E I hf st hg
    subst hP hw hK
    obtain ⟨hz, hTI, ⟨a0, b0, hTO⟩, h1, h2⟩ := st
    have hzl : z < s.heap.objs.size := Heap.lt_size hz
    have hh : X.A.in1.handled = none := by show X.A.handled = none; exact I.ok.hd hc
    refine wpAny_pyNext_zipD2_item D (Draws.text hh i1 x t) (Draws.text hh i2 y u) hz hTI hTO h1 h2 hg.1 hg.2 fun x1 x2 h' tk hx1 hx2 z' TO' h1' h2' hT hsz hk => ?_
    obtain ⟨c, tc, hcx, rfl⟩ := hx1
    obtain ⟨d, td, hdy, rfl⟩ := hx2
    refine ⟨_, rfl, wpAny_letOwnedTupleGo_zip (s := { s with heap := h', toks := tk }) z' fun h'' z'' sb => ?_⟩
    have hT2 : h''.get? s.heap.objs.size = some { cls := .type "tuple", data := .seq #[.str ⟨#[c]⟩ tc, .str ⟨#[d]⟩ td] } := (sb.2 _ (Nat.ne_of_gt hzl)).trans hT
    have new : ObjOk X.prog X.w (upd H s.heap.objs.size (.tup [.str ⟨#[c]⟩, .str ⟨#[d]⟩])) h'' s.heap.objs.size (.tup [.str ⟨#[c]⟩, .str ⟨#[d]⟩]) :=
      ⟨by show 2 ≤ sizeLine; decide, [.str ⟨#[c]⟩ tc, .str ⟨#[d]⟩ td], .cons ⟨_, rfl⟩ (.cons ⟨_, rfl⟩ .nil), ⟨_, hT2, rfl, _, rfl⟩⟩
    have I1 : Inv X pins σ (upd H s.heap.objs.size (.tup [.str ⟨#[c]⟩, .str ⟨#[d]⟩])) { s with heap := h'', toks := tk } :=
      I.turnedNew (t' := tk) (ch := [z, TI, TO, i1, i2]) (fun c o hb q => (sb.2 c (fun q' => hb (by simp [q']))).trans (hk c o (fun q' => hb (by simp [q'])) (fun q' => hb (by simp [q'])) (fun q' => hb (by simp [q'])) (fun q' => hb (by simp [q'])) q)) hf (Nat.le_refl _) new
    have k1 : ∀ (b : Addr) (o : Obj), b ≠ z → h'.get? b = some o → h''.get? b = some o := fun b o n e => (sb.2 b n).trans e
    obtain ⟨o1, e1, r1⟩ := h1'
    obtain ⟨o2, e2, r2⟩ := h2'
    refine ⟨.ref s.heap.objs.size, _, I1, rfl, ⟨_, c, d, rfl, I.hok.fresh (Nat.le_refl _), rfl, hcx, hdy⟩, ⟨z'', k1 TI _ D.TIz (hk _ _ D.TIz D.TITO D.TIi1 D.TIi2 hTI), ⟨_, _, k1 TO _ D.TOz TO'⟩, ⟨o1, k1 i1 _ (Ne.symm D.zi1) e1, r1⟩, ⟨o2, k1 i2 _ (Ne.symm D.zi2) e2, r2⟩⟩, fun c hcm => ?_⟩
    have hlt : c < s.heap.objs.size := by
      have e' : c = z ∨ c = TI ∨ c = TO ∨ c = i1 ∨ c = i2 := by simpa using hcm
      rcases e' with q | q | q | q | q
      · rw [q]; exact hzl
      · rw [q]; exact Heap.lt_size hTI
      · rw [q]; exact Heap.lt_size hTO
      · rw [q]; obtain ⟨_, e1, _⟩ := h1; exact Heap.lt_size e1
      · rw [q]; obtain ⟨_, e2, _⟩ := h2; exact Heap.lt_size e2
    rw [upd_ne (Nat.ne_of_lt hlt)]
    exact (hf c hcm).1
  done := by
    intro X hP hw hK hc i pins s σ H E I hf st hg
    subst hP hw hK
    obtain ⟨hz, hTI, ⟨a0, b0, hTO⟩, h1, h2⟩ := st
    have hh : X.A.in1.handled = none := by show X.A.handled = none; exact I.ok.hd hc
    exact wpAny_pyNext_zipD2_end D (Draws.text hh i1 x t) (Draws.text hh i2 y u) hz hTI hTO h1 h2 hg.1 hg.2.1 hg.2.2 fun h' tk hk => ⟨rfl, I.turnedL (t' := tk) (ch := [z, TI, TO, i1, i2]) (fun c o hb q =>
      hk c o (fun q' => hb (by simp [q'])) (fun q' => hb (by simp [q'])) (fun q' => hb (by simp [q'])) (fun q' => hb (by simp [q'])) q) hf⟩
  self := fun A i s Q E st h => wpAny_pyIter_zip st.1 h
def ZipSK (R : It → Hp → Prop) (vs : List V) (H : Hp) : Prop := ∃ x y : Str, vs = [.str x, .str y] ∧ R (ItzS x y) H
def iZipS (ta : TA) : TI := fun σ H R => ta σ H (ZipSK R)
theorem m_zipS {ta : TA} {σ : L2.St} {H : Hp} {R : It → Hp → Prop} (h : ta σ H (ZipSK R)) : iZipS ta σ H R := h
theorem m_zipSE {x y : Str} {R : It → Hp → Prop} {H : Hp} (h : R (ItzS x y) H) : ZipSK R [.str x, .str y] H := ⟨x, y, rfl, h⟩
theorem pi_zipS {X : Cx} {e e2 : Expr} {ta : TA} {p pos tpos : Pos} {elts : List Expr} {kk : Nat} (hg : Gl X "zip") (hm : X.mg "zip" = none) (ha : PA X [e, e2] ta)
    (hs : starEach [e, e2] X.env = (false, eval e X.env) :: starEach [e2] X.env := by rfl) (hpl : (backTo pos (starEach [e2] X.env)).any (·.1) = false := by rfl) :
    PI X (.Tuple elts kk tpos) (.Call (.Name "zip" p) [e, e2] [] pos) (iZipS ta) := by
  refine ⟨fun pins s σ H R I h => ?_⟩
  refine Call_ (ld_blt I hg hm PyProof.Rows.boot_zip (PyProof.Rows.callWith_type1 (thn (ha.run pos pins s σ H _ I h) fun us s1 ⟨vs, H1, I1, r1, q1⟩ => ?_) hs hpl))
  obtain ⟨x, y, ex, q⟩ := q1
  subst ex
  cases r1 with
  | cons r rr =>
    cases rr with
    | cons r' rr =>
      cases rr
      obtain ⟨t, rfl⟩ := r
      obtain ⟨u, rfl⟩ := r'
      have fresh5 : ∀ c, c ∈ [s1.heap.objs.size + 4, s1.heap.objs.size + 2, s1.heap.objs.size + 3, s1.heap.objs.size, s1.heap.objs.size + 1] → FpOk X pins H1 c := fun c hcm => by
        have e' : c = s1.heap.objs.size + 4 ∨ c = s1.heap.objs.size + 2 ∨ c = s1.heap.objs.size + 3 ∨ c = s1.heap.objs.size ∨ c = s1.heap.objs.size + 1 := by simpa using hcm
        have hle : s1.heap.objs.size ≤ c := by
          rcases e' with z | z | z | z | z <;> rw [z] <;> omega
        exact I1.fpOk hle (I1.hok.fresh hle)
      refine zip_begins2 (begins_text x t) (begins_text y u) trivial trivial fun h' hz hTI hTO h1 h2 hsz hk => wpAny_pyIter_zip hz ?_
      have I2 : Inv X pins σ H1 { s1 with heap := h' } := I1.kept (t' := s1.toks) hk
      have D : ZipSep2 (s1.heap.objs.size + 4) (s1.heap.objs.size + 2) (s1.heap.objs.size + 3) s1.heap.objs.size (s1.heap.objs.size + 1) [s1.heap.objs.size] [s1.heap.objs.size + 1] := by
        constructor <;> simp
      exact ⟨s1.heap.objs.size + 4, [s1.heap.objs.size + 4, s1.heap.objs.size + 2, s1.heap.objs.size + 3, s1.heap.objs.size, s1.heap.objs.size + 1], _, _, H1, rfl, I2, turn_zipS (t := t) (u := u) D, ⟨hz, hTI, ⟨_, _, hTO⟩, ⟨_, h1, rfl, rfl⟩, ⟨_, h2, rfl, rfl⟩⟩, fresh5, q⟩
theorem walk_zipS {x y : Str} : Walk (ItzS x y) (min x.cps.size y.cps.size) (fun _ => True) (fun i H v H' => ∃ T c d, v = .ref T ∧ H T = none ∧ H' = upd H T (.tup [.str ⟨#[c]⟩, .str ⟨#[d]⟩]) ∧ x.cps[i]? = some c ∧ y.cps[i]? = some d) :=
  ⟨fun i _ hi _ => ⟨by omega, by omega⟩, fun _ _ => ⟨by omega, by omega, by omega⟩, fun _ _ _ _ _ _ y => y⟩
end Tw
open PySem PySem.Spec PyProof.Rows L2 Tw
set_option hygiene false in
local macro_rules | `(tactic| walk_at "s1") => `(tactic| first
  | with_reducible refine m_seq ?_
  | with_reducible refine k_asg ?_
  | with_reducible refine m_asg ?_
  | ((with_reducible refine' k_var ?kv ?_); case kv => walk_at "look")
  | with_reducible refine k_c ?_
  | with_reducible refine k_op ?_
  | with_reducible refine k_I0 ?_
  | ((with_reducible refine k_I ?kv ?_); case kv => walk_at "cond")
  | with_reducible refine k_and1 ?_
  | with_reducible refine k_eqI ?_
  | with_reducible refine k_neI ?_
  | ((with_reducible refine k_eq ?kv ?_); case kv => exact rfl)
  | ((with_reducible refine k_ne ?kv ?_); case kv => exact rfl)
  | with_reducible refine k_isN ?_
  | with_reducible refine k_notN ?_
  | with_reducible refine k_nx ?_
  | with_reducible refine k_rt ?_
  | with_reducible refine m_next ?_
  | with_reducible refine m_bk ?_
  | with_reducible refine m_ct ?_
  | with_reducible refine k_if ?_
  | with_reducible refine k_test ?_
  | with_reducible refine k_tB ?_
  | with_reducible refine k_bl ?_
  | with_reducible refine k_chain ?_
  | with_reducible refine k_chainE ?_
  | with_reducible refine k_not ?_
  | with_reducible refine k_and ?_
  | with_reducible refine k_or ?_
  | with_reducible refine k_andV ?_
  | with_reducible refine k_orV ?_
  | with_reducible refine k_notV ?_
  | with_reducible refine k_ifE ?_
  | with_reducible refine k_ret ?_
  | with_reducible refine k_retN ?_
  | with_reducible refine k_drop ?_
  | with_reducible refine k_cons ?_
  | with_reducible refine k_nil ?_
  | with_reducible refine m_call ?_
  | with_reducible refine m_callS ?_
  | with_reducible refine k_rz ?_
  | with_reducible refine m_tryAs ?_
  | with_reducible refine m_tryOnly ?_
  | with_reducible refine m_tryM ?_
  | with_reducible refine k_cb ?_
  | with_reducible refine k_tup ?_
  | with_reducible refine k_lst ?_
  | ((with_reducible refine' k_aug ?kv ?_); case kv => exact rfl)
  | with_reducible refine k_ipI ?_
  | with_reducible refine k_un ?_
  | with_reducible refine k_U ?_
  | with_reducible refine k_sl ?_
  | with_reducible refine k_part ?_
  | with_reducible refine k_noPart ?_
  | with_reducible refine k_partE ?_
  | with_reducible refine k_bm ?_
  | with_reducible refine k_bm0 ?_
  | with_reducible refine k_isInt ?_
  | with_reducible refine k_isBool ?_
  | with_reducible refine k_min2 ?_
  | with_reducible refine k_max2 ?_
  | with_reducible refine m_gName ?_
  | with_reducible refine m_for ?_
  | with_reducible refine m_rng1 ?_
  | ((with_reducible refine m_rng1n ?kv ?_); case kv => walk_at "arith")
  | ((with_reducible refine m_rng1e ?kv ?_); case kv => walk_at "arith")
  | with_reducible refine m_rng2 ?_
  | ((with_reducible refine m_rng2e ?kv ?_); case kv => walk_at "arith")
  | with_reducible refine m_iL ?_
  | with_reducible refine m_iT ?_
  | with_reducible refine m_lc ?_
  | ((with_reducible refine k_disp ?kv ?_); case kv => (first | decide | (simp only [List.length_cons, List.length_nil]; omega)))
  | with_reducible refine m_rev ?_
  | with_reducible refine m_revL ?_
  | with_reducible refine m_enum ?_
  | with_reducible refine m_zip ?_
  | with_reducible refine m_rng3 ?_
  | with_reducible refine m_gCons ?_
  | with_reducible refine m_gNil ?_
  | with_reducible refine m_gSub ?_
  | with_reducible refine m_par ?_
  | with_reducible refine m_parE ?_
  | with_reducible refine m_wbody ?_
  | with_reducible refine m_lenSet ?_
  | with_reducible refine m_minD ?_
  | with_reducible refine m_maxD ?_
  | with_reducible refine m_iStr ?_
  | with_reducible refine m_zipS ?_
  | with_reducible refine m_findS ?_
  | with_reducible refine m_lenSetT ?_
  | with_reducible refine m_lockS ?_
  | ((with_reducible refine' m_callV ?kv ?kf ?_); (case kv => walk_at "look"); (case kf => walk_at "isfn"))
  | with_reducible refine k_yes ?_
  | with_reducible refine k_T ?_
  | with_reducible refine k_F ?_
  | with_reducible refine k_nT ?_
  | with_reducible refine k_nF ?_)
local macro_rules | `(tactic| walk_at "cond") => `(tactic| first | exact ⟨by decide, by decide⟩ | omega | decide | exact ⟨by omega, by omega⟩ | exact ⟨by omega, by omega, by decide⟩ | exact Or.inr (by omega) | exact Or.inr (by decide) | exact Or.inl (by omega) | exact Or.inl (by decide) | assumption)
local macro_rules | `(tactic| walk_at "st") => `(tactic| repeat (walk_at "s1"))
local macro_rules | `(tactic| walk_at "look") => `(tactic| first | exact rfl | (simp only [List.getElem?_set, List.getElem?_cons_zero, List.getElem?_cons_succ]; exact rfl))
local macro_rules | `(tactic| walk_at "if") => `(tactic| first | with_reducible apply k_dec | with_reducible apply k_ndec)
local macro_rules | `(tactic| walk_at "arith") => `(tactic| first | decide | omega | (simp only [List.length_map, List.length_take, List.length_drop, List.length_append, List.length_cons, List.length_nil] at *; first | omega | (split <;> omega) | (split <;> split <;> omega)))
local macro_rules | `(tactic| walk_at "isfn") => `(tactic| assumption)
set_option hygiene false in
local macro_rules | `(tactic| walk_at "tlen") => `(tactic| first | omega | (simp only [List.length_append, List.length_take, List.length_drop, List.length_cons, List.length_nil, List.length_map]; omega))
set_option hygiene false in
local macro_rules | `(tactic| walk_at "tltr") => `(tactic| (repeat (first | assumption | apply ltr_app | apply ltr_take | apply ltr_drop | exact ltr_nil)))
set_option hygiene false in
local macro_rules | `(tactic| walk_at "tstep") => `(tactic| first
  | with_reducible refine k_modP (by omega) fun r hr0 hr1 => ?_
  | walk_at "s1"
  | with_reducible refine k_lenVT (by walk_at "tlen") ?_
  | with_reducible refine k_addVT (by walk_at "tlen") ?_
  | with_reducible refine k_slTakeI (by omega) (by walk_at "tlen") ?_
  | with_reducible refine k_slDropI (by omega) (by walk_at "tlen") ?_
  | (refine ⟨_, _, _, _, rfl, by omega, by omega, by omega, by omega, by omega, fun t ht hl => ?_⟩)
  | (with_reducible refine k_I (show (0 : Int) < _ by omega) ?_)
  | (walk_at "if" <;> intro _))
namespace Tw
structure KFx (K : PySem.W.Frag) : Prop where
  ec_NoBit : ExcC K (He.ga K "NoBit")
  kt_NoBit : PySem.W.kitOne K (.ref (He.ga K "NoBit")) (.type "ValueError") = some true
  k_NoBit_NoBit : PySem.W.kitOne K (.ref (He.ga K "NoBit")) (.ref (He.ga K "NoBit")) = some true
  e_NoBit_NoBit : PySem.W.exmOne K (.ref (He.ga K "NoBit")) (.ref (He.ga K "NoBit")) = some true
  k_NoBit_NoNode : PySem.W.kitOne K (.ref (He.ga K "NoBit")) (.ref (He.ga K "NoNode")) = some false
  e_NoBit_NoNode : PySem.W.exmOne K (.ref (He.ga K "NoBit")) (.ref (He.ga K "NoNode")) = some false
  k_NoBit_NoOctets : PySem.W.kitOne K (.ref (He.ga K "NoBit")) (.ref (He.ga K "NoOctets")) = some false
  e_NoBit_NoOctets : PySem.W.exmOne K (.ref (He.ga K "NoBit")) (.ref (He.ga K "NoOctets")) = some false
  k_NoBit_NoPlace : PySem.W.kitOne K (.ref (He.ga K "NoBit")) (.ref (He.ga K "NoPlace")) = some false
  e_NoBit_NoPlace : PySem.W.exmOne K (.ref (He.ga K "NoBit")) (.ref (He.ga K "NoPlace")) = some false
  k_NoBit_NoSign : PySem.W.kitOne K (.ref (He.ga K "NoBit")) (.ref (He.ga K "NoSign")) = some false
  e_NoBit_NoSign : PySem.W.exmOne K (.ref (He.ga K "NoBit")) (.ref (He.ga K "NoSign")) = some false
  k_NoBit_NoTree : PySem.W.kitOne K (.ref (He.ga K "NoBit")) (.ref (He.ga K "NoTree")) = some false
  e_NoBit_NoTree : PySem.W.exmOne K (.ref (He.ga K "NoBit")) (.ref (He.ga K "NoTree")) = some false
  k_NoBit_NoWord : PySem.W.kitOne K (.ref (He.ga K "NoBit")) (.ref (He.ga K "NoWord")) = some false
  e_NoBit_NoWord : PySem.W.exmOne K (.ref (He.ga K "NoBit")) (.ref (He.ga K "NoWord")) = some false
  k_NoBit_TooMany : PySem.W.kitOne K (.ref (He.ga K "NoBit")) (.ref (He.ga K "TooMany")) = some false
  e_NoBit_TooMany : PySem.W.exmOne K (.ref (He.ga K "NoBit")) (.ref (He.ga K "TooMany")) = some false
  k_NoBit_Twice : PySem.W.kitOne K (.ref (He.ga K "NoBit")) (.ref (He.ga K "Twice")) = some false
  e_NoBit_Twice : PySem.W.exmOne K (.ref (He.ga K "NoBit")) (.ref (He.ga K "Twice")) = some false
  k_NoBit_WoodError : PySem.W.kitOne K (.ref (He.ga K "NoBit")) (.ref (He.ga K "WoodError")) = some true
  e_NoBit_WoodError : PySem.W.exmOne K (.ref (He.ga K "NoBit")) (.ref (He.ga K "WoodError")) = some true
  ec_NoNode : ExcC K (He.ga K "NoNode")
  kt_NoNode : PySem.W.kitOne K (.ref (He.ga K "NoNode")) (.type "ValueError") = some true
  k_NoNode_NoBit : PySem.W.kitOne K (.ref (He.ga K "NoNode")) (.ref (He.ga K "NoBit")) = some false
  e_NoNode_NoBit : PySem.W.exmOne K (.ref (He.ga K "NoNode")) (.ref (He.ga K "NoBit")) = some false
  k_NoNode_NoNode : PySem.W.kitOne K (.ref (He.ga K "NoNode")) (.ref (He.ga K "NoNode")) = some true
  e_NoNode_NoNode : PySem.W.exmOne K (.ref (He.ga K "NoNode")) (.ref (He.ga K "NoNode")) = some true
  k_NoNode_NoOctets : PySem.W.kitOne K (.ref (He.ga K "NoNode")) (.ref (He.ga K "NoOctets")) = some false
  e_NoNode_NoOctets : PySem.W.exmOne K (.ref (He.ga K "NoNode")) (.ref (He.ga K "NoOctets")) = some false
  k_NoNode_NoPlace : PySem.W.kitOne K (.ref (He.ga K "NoNode")) (.ref (He.ga K "NoPlace")) = some false
  e_NoNode_NoPlace : PySem.W.exmOne K (.ref (He.ga K "NoNode")) (.ref (He.ga K "NoPlace")) = some false
  k_NoNode_NoSign : PySem.W.kitOne K (.ref (He.ga K "NoNode")) (.ref (He.ga K "NoSign")) = some false
  e_NoNode_NoSign : PySem.W.exmOne K (.ref (He.ga K "NoNode")) (.ref (He.ga K "NoSign")) = some false
  k_NoNode_NoTree : PySem.W.kitOne K (.ref (He.ga K "NoNode")) (.ref (He.ga K "NoTree")) = some false
  e_NoNode_NoTree : PySem.W.exmOne K (.ref (He.ga K "NoNode")) (.ref (He.ga K "NoTree")) = some false
  k_NoNode_NoWord : PySem.W.kitOne K (.ref (He.ga K "NoNode")) (.ref (He.ga K "NoWord")) = some false
  e_NoNode_NoWord : PySem.W.exmOne K (.ref (He.ga K "NoNode")) (.ref (He.ga K "NoWord")) = some false
  k_NoNode_TooMany : PySem.W.kitOne K (.ref (He.ga K "NoNode")) (.ref (He.ga K "TooMany")) = some false
  e_NoNode_TooMany : PySem.W.exmOne K (.ref (He.ga K "NoNode")) (.ref (He.ga K "TooMany")) = some false
  k_NoNode_Twice : PySem.W.kitOne K (.ref (He.ga K "NoNode")) (.ref (He.ga K "Twice")) = some false
  e_NoNode_Twice : PySem.W.exmOne K (.ref (He.ga K "NoNode")) (.ref (He.ga K "Twice")) = some false
  k_NoNode_WoodError : PySem.W.kitOne K (.ref (He.ga K "NoNode")) (.ref (He.ga K "WoodError")) = some true
  e_NoNode_WoodError : PySem.W.exmOne K (.ref (He.ga K "NoNode")) (.ref (He.ga K "WoodError")) = some true
  ec_NoOctets : ExcC K (He.ga K "NoOctets")
  kt_NoOctets : PySem.W.kitOne K (.ref (He.ga K "NoOctets")) (.type "ValueError") = some true
  k_NoOctets_NoBit : PySem.W.kitOne K (.ref (He.ga K "NoOctets")) (.ref (He.ga K "NoBit")) = some false
  e_NoOctets_NoBit : PySem.W.exmOne K (.ref (He.ga K "NoOctets")) (.ref (He.ga K "NoBit")) = some false
  k_NoOctets_NoNode : PySem.W.kitOne K (.ref (He.ga K "NoOctets")) (.ref (He.ga K "NoNode")) = some false
  e_NoOctets_NoNode : PySem.W.exmOne K (.ref (He.ga K "NoOctets")) (.ref (He.ga K "NoNode")) = some false
  k_NoOctets_NoOctets : PySem.W.kitOne K (.ref (He.ga K "NoOctets")) (.ref (He.ga K "NoOctets")) = some true
  e_NoOctets_NoOctets : PySem.W.exmOne K (.ref (He.ga K "NoOctets")) (.ref (He.ga K "NoOctets")) = some true
  k_NoOctets_NoPlace : PySem.W.kitOne K (.ref (He.ga K "NoOctets")) (.ref (He.ga K "NoPlace")) = some false
  e_NoOctets_NoPlace : PySem.W.exmOne K (.ref (He.ga K "NoOctets")) (.ref (He.ga K "NoPlace")) = some false
  k_NoOctets_NoSign : PySem.W.kitOne K (.ref (He.ga K "NoOctets")) (.ref (He.ga K "NoSign")) = some false
  e_NoOctets_NoSign : PySem.W.exmOne K (.ref (He.ga K "NoOctets")) (.ref (He.ga K "NoSign")) = some false
  k_NoOctets_NoTree : PySem.W.kitOne K (.ref (He.ga K "NoOctets")) (.ref (He.ga K "NoTree")) = some false
  e_NoOctets_NoTree : PySem.W.exmOne K (.ref (He.ga K "NoOctets")) (.ref (He.ga K "NoTree")) = some false
  k_NoOctets_NoWord : PySem.W.kitOne K (.ref (He.ga K "NoOctets")) (.ref (He.ga K "NoWord")) = some false
  e_NoOctets_NoWord : PySem.W.exmOne K (.ref (He.ga K "NoOctets")) (.ref (He.ga K "NoWord")) = some false
  k_NoOctets_TooMany : PySem.W.kitOne K (.ref (He.ga K "NoOctets")) (.ref (He.ga K "TooMany")) = some false
  e_NoOctets_TooMany : PySem.W.exmOne K (.ref (He.ga K "NoOctets")) (.ref (He.ga K "TooMany")) = some false
  k_NoOctets_Twice : PySem.W.kitOne K (.ref (He.ga K "NoOctets")) (.ref (He.ga K "Twice")) = some false
  e_NoOctets_Twice : PySem.W.exmOne K (.ref (He.ga K "NoOctets")) (.ref (He.ga K "Twice")) = some false
  k_NoOctets_WoodError : PySem.W.kitOne K (.ref (He.ga K "NoOctets")) (.ref (He.ga K "WoodError")) = some true
  e_NoOctets_WoodError : PySem.W.exmOne K (.ref (He.ga K "NoOctets")) (.ref (He.ga K "WoodError")) = some true
  ec_NoPlace : ExcC K (He.ga K "NoPlace")
  kt_NoPlace : PySem.W.kitOne K (.ref (He.ga K "NoPlace")) (.type "ValueError") = some true
  k_NoPlace_NoBit : PySem.W.kitOne K (.ref (He.ga K "NoPlace")) (.ref (He.ga K "NoBit")) = some false
  e_NoPlace_NoBit : PySem.W.exmOne K (.ref (He.ga K "NoPlace")) (.ref (He.ga K "NoBit")) = some false
  k_NoPlace_NoNode : PySem.W.kitOne K (.ref (He.ga K "NoPlace")) (.ref (He.ga K "NoNode")) = some false
  e_NoPlace_NoNode : PySem.W.exmOne K (.ref (He.ga K "NoPlace")) (.ref (He.ga K "NoNode")) = some false
  k_NoPlace_NoOctets : PySem.W.kitOne K (.ref (He.ga K "NoPlace")) (.ref (He.ga K "NoOctets")) = some false
  e_NoPlace_NoOctets : PySem.W.exmOne K (.ref (He.ga K "NoPlace")) (.ref (He.ga K "NoOctets")) = some false
  k_NoPlace_NoPlace : PySem.W.kitOne K (.ref (He.ga K "NoPlace")) (.ref (He.ga K "NoPlace")) = some true
  e_NoPlace_NoPlace : PySem.W.exmOne K (.ref (He.ga K "NoPlace")) (.ref (He.ga K "NoPlace")) = some true
  k_NoPlace_NoSign : PySem.W.kitOne K (.ref (He.ga K "NoPlace")) (.ref (He.ga K "NoSign")) = some false
  e_NoPlace_NoSign : PySem.W.exmOne K (.ref (He.ga K "NoPlace")) (.ref (He.ga K "NoSign")) = some false
  k_NoPlace_NoTree : PySem.W.kitOne K (.ref (He.ga K "NoPlace")) (.ref (He.ga K "NoTree")) = some false
  e_NoPlace_NoTree : PySem.W.exmOne K (.ref (He.ga K "NoPlace")) (.ref (He.ga K "NoTree")) = some false
  k_NoPlace_NoWord : PySem.W.kitOne K (.ref (He.ga K "NoPlace")) (.ref (He.ga K "NoWord")) = some false
  e_NoPlace_NoWord : PySem.W.exmOne K (.ref (He.ga K "NoPlace")) (.ref (He.ga K "NoWord")) = some false
  k_NoPlace_TooMany : PySem.W.kitOne K (.ref (He.ga K "NoPlace")) (.ref (He.ga K "TooMany")) = some false
  e_NoPlace_TooMany : PySem.W.exmOne K (.ref (He.ga K "NoPlace")) (.ref (He.ga K "TooMany")) = some false
  k_NoPlace_Twice : PySem.W.kitOne K (.ref (He.ga K "NoPlace")) (.ref (He.ga K "Twice")) = some false
  e_NoPlace_Twice : PySem.W.exmOne K (.ref (He.ga K "NoPlace")) (.ref (He.ga K "Twice")) = some false
  k_NoPlace_WoodError : PySem.W.kitOne K (.ref (He.ga K "NoPlace")) (.ref (He.ga K "WoodError")) = some true
  e_NoPlace_WoodError : PySem.W.exmOne K (.ref (He.ga K "NoPlace")) (.ref (He.ga K "WoodError")) = some true
  ec_NoSign : ExcC K (He.ga K "NoSign")
  kt_NoSign : PySem.W.kitOne K (.ref (He.ga K "NoSign")) (.type "ValueError") = some true
  k_NoSign_NoBit : PySem.W.kitOne K (.ref (He.ga K "NoSign")) (.ref (He.ga K "NoBit")) = some false
  e_NoSign_NoBit : PySem.W.exmOne K (.ref (He.ga K "NoSign")) (.ref (He.ga K "NoBit")) = some false
  k_NoSign_NoNode : PySem.W.kitOne K (.ref (He.ga K "NoSign")) (.ref (He.ga K "NoNode")) = some false
  e_NoSign_NoNode : PySem.W.exmOne K (.ref (He.ga K "NoSign")) (.ref (He.ga K "NoNode")) = some false
  k_NoSign_NoOctets : PySem.W.kitOne K (.ref (He.ga K "NoSign")) (.ref (He.ga K "NoOctets")) = some false
  e_NoSign_NoOctets : PySem.W.exmOne K (.ref (He.ga K "NoSign")) (.ref (He.ga K "NoOctets")) = some false
  k_NoSign_NoPlace : PySem.W.kitOne K (.ref (He.ga K "NoSign")) (.ref (He.ga K "NoPlace")) = some false
  e_NoSign_NoPlace : PySem.W.exmOne K (.ref (He.ga K "NoSign")) (.ref (He.ga K "NoPlace")) = some false
  k_NoSign_NoSign : PySem.W.kitOne K (.ref (He.ga K "NoSign")) (.ref (He.ga K "NoSign")) = some true
  e_NoSign_NoSign : PySem.W.exmOne K (.ref (He.ga K "NoSign")) (.ref (He.ga K "NoSign")) = some true
  k_NoSign_NoTree : PySem.W.kitOne K (.ref (He.ga K "NoSign")) (.ref (He.ga K "NoTree")) = some false
  e_NoSign_NoTree : PySem.W.exmOne K (.ref (He.ga K "NoSign")) (.ref (He.ga K "NoTree")) = some false
  k_NoSign_NoWord : PySem.W.kitOne K (.ref (He.ga K "NoSign")) (.ref (He.ga K "NoWord")) = some false
  e_NoSign_NoWord : PySem.W.exmOne K (.ref (He.ga K "NoSign")) (.ref (He.ga K "NoWord")) = some false
  k_NoSign_TooMany : PySem.W.kitOne K (.ref (He.ga K "NoSign")) (.ref (He.ga K "TooMany")) = some false
  e_NoSign_TooMany : PySem.W.exmOne K (.ref (He.ga K "NoSign")) (.ref (He.ga K "TooMany")) = some false
  k_NoSign_Twice : PySem.W.kitOne K (.ref (He.ga K "NoSign")) (.ref (He.ga K "Twice")) = some false
  e_NoSign_Twice : PySem.W.exmOne K (.ref (He.ga K "NoSign")) (.ref (He.ga K "Twice")) = some false
  k_NoSign_WoodError : PySem.W.kitOne K (.ref (He.ga K "NoSign")) (.ref (He.ga K "WoodError")) = some true
  e_NoSign_WoodError : PySem.W.exmOne K (.ref (He.ga K "NoSign")) (.ref (He.ga K "WoodError")) = some true
  ec_NoTree : ExcC K (He.ga K "NoTree")
  kt_NoTree : PySem.W.kitOne K (.ref (He.ga K "NoTree")) (.type "ValueError") = some true
  k_NoTree_NoBit : PySem.W.kitOne K (.ref (He.ga K "NoTree")) (.ref (He.ga K "NoBit")) = some false
  e_NoTree_NoBit : PySem.W.exmOne K (.ref (He.ga K "NoTree")) (.ref (He.ga K "NoBit")) = some false
  k_NoTree_NoNode : PySem.W.kitOne K (.ref (He.ga K "NoTree")) (.ref (He.ga K "NoNode")) = some false
  e_NoTree_NoNode : PySem.W.exmOne K (.ref (He.ga K "NoTree")) (.ref (He.ga K "NoNode")) = some false
  k_NoTree_NoOctets : PySem.W.kitOne K (.ref (He.ga K "NoTree")) (.ref (He.ga K "NoOctets")) = some false
  e_NoTree_NoOctets : PySem.W.exmOne K (.ref (He.ga K "NoTree")) (.ref (He.ga K "NoOctets")) = some false
  k_NoTree_NoPlace : PySem.W.kitOne K (.ref (He.ga K "NoTree")) (.ref (He.ga K "NoPlace")) = some false
  e_NoTree_NoPlace : PySem.W.exmOne K (.ref (He.ga K "NoTree")) (.ref (He.ga K "NoPlace")) = some false
  k_NoTree_NoSign : PySem.W.kitOne K (.ref (He.ga K "NoTree")) (.ref (He.ga K "NoSign")) = some false
  e_NoTree_NoSign : PySem.W.exmOne K (.ref (He.ga K "NoTree")) (.ref (He.ga K "NoSign")) = some false
  k_NoTree_NoTree : PySem.W.kitOne K (.ref (He.ga K "NoTree")) (.ref (He.ga K "NoTree")) = some true
  e_NoTree_NoTree : PySem.W.exmOne K (.ref (He.ga K "NoTree")) (.ref (He.ga K "NoTree")) = some true
  k_NoTree_NoWord : PySem.W.kitOne K (.ref (He.ga K "NoTree")) (.ref (He.ga K "NoWord")) = some false
  e_NoTree_NoWord : PySem.W.exmOne K (.ref (He.ga K "NoTree")) (.ref (He.ga K "NoWord")) = some false
  k_NoTree_TooMany : PySem.W.kitOne K (.ref (He.ga K "NoTree")) (.ref (He.ga K "TooMany")) = some false
  e_NoTree_TooMany : PySem.W.exmOne K (.ref (He.ga K "NoTree")) (.ref (He.ga K "TooMany")) = some false
  k_NoTree_Twice : PySem.W.kitOne K (.ref (He.ga K "NoTree")) (.ref (He.ga K "Twice")) = some false
  e_NoTree_Twice : PySem.W.exmOne K (.ref (He.ga K "NoTree")) (.ref (He.ga K "Twice")) = some false
  k_NoTree_WoodError : PySem.W.kitOne K (.ref (He.ga K "NoTree")) (.ref (He.ga K "WoodError")) = some true
  e_NoTree_WoodError : PySem.W.exmOne K (.ref (He.ga K "NoTree")) (.ref (He.ga K "WoodError")) = some true
  ec_NoWord : ExcC K (He.ga K "NoWord")
  kt_NoWord : PySem.W.kitOne K (.ref (He.ga K "NoWord")) (.type "ValueError") = some true
  k_NoWord_NoBit : PySem.W.kitOne K (.ref (He.ga K "NoWord")) (.ref (He.ga K "NoBit")) = some false
  e_NoWord_NoBit : PySem.W.exmOne K (.ref (He.ga K "NoWord")) (.ref (He.ga K "NoBit")) = some false
  k_NoWord_NoNode : PySem.W.kitOne K (.ref (He.ga K "NoWord")) (.ref (He.ga K "NoNode")) = some false
  e_NoWord_NoNode : PySem.W.exmOne K (.ref (He.ga K "NoWord")) (.ref (He.ga K "NoNode")) = some false
  k_NoWord_NoOctets : PySem.W.kitOne K (.ref (He.ga K "NoWord")) (.ref (He.ga K "NoOctets")) = some false
  e_NoWord_NoOctets : PySem.W.exmOne K (.ref (He.ga K "NoWord")) (.ref (He.ga K "NoOctets")) = some false
  k_NoWord_NoPlace : PySem.W.kitOne K (.ref (He.ga K "NoWord")) (.ref (He.ga K "NoPlace")) = some false
  e_NoWord_NoPlace : PySem.W.exmOne K (.ref (He.ga K "NoWord")) (.ref (He.ga K "NoPlace")) = some false
  k_NoWord_NoSign : PySem.W.kitOne K (.ref (He.ga K "NoWord")) (.ref (He.ga K "NoSign")) = some false
  e_NoWord_NoSign : PySem.W.exmOne K (.ref (He.ga K "NoWord")) (.ref (He.ga K "NoSign")) = some false
  k_NoWord_NoTree : PySem.W.kitOne K (.ref (He.ga K "NoWord")) (.ref (He.ga K "NoTree")) = some false
  e_NoWord_NoTree : PySem.W.exmOne K (.ref (He.ga K "NoWord")) (.ref (He.ga K "NoTree")) = some false
  k_NoWord_NoWord : PySem.W.kitOne K (.ref (He.ga K "NoWord")) (.ref (He.ga K "NoWord")) = some true
  e_NoWord_NoWord : PySem.W.exmOne K (.ref (He.ga K "NoWord")) (.ref (He.ga K "NoWord")) = some true
  k_NoWord_TooMany : PySem.W.kitOne K (.ref (He.ga K "NoWord")) (.ref (He.ga K "TooMany")) = some false
  e_NoWord_TooMany : PySem.W.exmOne K (.ref (He.ga K "NoWord")) (.ref (He.ga K "TooMany")) = some false
  k_NoWord_Twice : PySem.W.kitOne K (.ref (He.ga K "NoWord")) (.ref (He.ga K "Twice")) = some false
  e_NoWord_Twice : PySem.W.exmOne K (.ref (He.ga K "NoWord")) (.ref (He.ga K "Twice")) = some false
  k_NoWord_WoodError : PySem.W.kitOne K (.ref (He.ga K "NoWord")) (.ref (He.ga K "WoodError")) = some true
  e_NoWord_WoodError : PySem.W.exmOne K (.ref (He.ga K "NoWord")) (.ref (He.ga K "WoodError")) = some true
  ec_TooMany : ExcC K (He.ga K "TooMany")
  kt_TooMany : PySem.W.kitOne K (.ref (He.ga K "TooMany")) (.type "ValueError") = some true
  k_TooMany_NoBit : PySem.W.kitOne K (.ref (He.ga K "TooMany")) (.ref (He.ga K "NoBit")) = some false
  e_TooMany_NoBit : PySem.W.exmOne K (.ref (He.ga K "TooMany")) (.ref (He.ga K "NoBit")) = some false
  k_TooMany_NoNode : PySem.W.kitOne K (.ref (He.ga K "TooMany")) (.ref (He.ga K "NoNode")) = some false
  e_TooMany_NoNode : PySem.W.exmOne K (.ref (He.ga K "TooMany")) (.ref (He.ga K "NoNode")) = some false
  k_TooMany_NoOctets : PySem.W.kitOne K (.ref (He.ga K "TooMany")) (.ref (He.ga K "NoOctets")) = some false
  e_TooMany_NoOctets : PySem.W.exmOne K (.ref (He.ga K "TooMany")) (.ref (He.ga K "NoOctets")) = some false
  k_TooMany_NoPlace : PySem.W.kitOne K (.ref (He.ga K "TooMany")) (.ref (He.ga K "NoPlace")) = some false
  e_TooMany_NoPlace : PySem.W.exmOne K (.ref (He.ga K "TooMany")) (.ref (He.ga K "NoPlace")) = some false
  k_TooMany_NoSign : PySem.W.kitOne K (.ref (He.ga K "TooMany")) (.ref (He.ga K "NoSign")) = some false
  e_TooMany_NoSign : PySem.W.exmOne K (.ref (He.ga K "TooMany")) (.ref (He.ga K "NoSign")) = some false
  k_TooMany_NoTree : PySem.W.kitOne K (.ref (He.ga K "TooMany")) (.ref (He.ga K "NoTree")) = some false
  e_TooMany_NoTree : PySem.W.exmOne K (.ref (He.ga K "TooMany")) (.ref (He.ga K "NoTree")) = some false
  k_TooMany_NoWord : PySem.W.kitOne K (.ref (He.ga K "TooMany")) (.ref (He.ga K "NoWord")) = some false
  e_TooMany_NoWord : PySem.W.exmOne K (.ref (He.ga K "TooMany")) (.ref (He.ga K "NoWord")) = some false
  k_TooMany_TooMany : PySem.W.kitOne K (.ref (He.ga K "TooMany")) (.ref (He.ga K "TooMany")) = some true
  e_TooMany_TooMany : PySem.W.exmOne K (.ref (He.ga K "TooMany")) (.ref (He.ga K "TooMany")) = some true
  k_TooMany_Twice : PySem.W.kitOne K (.ref (He.ga K "TooMany")) (.ref (He.ga K "Twice")) = some false
  e_TooMany_Twice : PySem.W.exmOne K (.ref (He.ga K "TooMany")) (.ref (He.ga K "Twice")) = some false
  k_TooMany_WoodError : PySem.W.kitOne K (.ref (He.ga K "TooMany")) (.ref (He.ga K "WoodError")) = some true
  e_TooMany_WoodError : PySem.W.exmOne K (.ref (He.ga K "TooMany")) (.ref (He.ga K "WoodError")) = some true
  ec_Twice : ExcC K (He.ga K "Twice")
  kt_Twice : PySem.W.kitOne K (.ref (He.ga K "Twice")) (.type "ValueError") = some true
  k_Twice_NoBit : PySem.W.kitOne K (.ref (He.ga K "Twice")) (.ref (He.ga K "NoBit")) = some false
  e_Twice_NoBit : PySem.W.exmOne K (.ref (He.ga K "Twice")) (.ref (He.ga K "NoBit")) = some false
  k_Twice_NoNode : PySem.W.kitOne K (.ref (He.ga K "Twice")) (.ref (He.ga K "NoNode")) = some false
  e_Twice_NoNode : PySem.W.exmOne K (.ref (He.ga K "Twice")) (.ref (He.ga K "NoNode")) = some false
  k_Twice_NoOctets : PySem.W.kitOne K (.ref (He.ga K "Twice")) (.ref (He.ga K "NoOctets")) = some false
  e_Twice_NoOctets : PySem.W.exmOne K (.ref (He.ga K "Twice")) (.ref (He.ga K "NoOctets")) = some false
  k_Twice_NoPlace : PySem.W.kitOne K (.ref (He.ga K "Twice")) (.ref (He.ga K "NoPlace")) = some false
  e_Twice_NoPlace : PySem.W.exmOne K (.ref (He.ga K "Twice")) (.ref (He.ga K "NoPlace")) = some false
  k_Twice_NoSign : PySem.W.kitOne K (.ref (He.ga K "Twice")) (.ref (He.ga K "NoSign")) = some false
  e_Twice_NoSign : PySem.W.exmOne K (.ref (He.ga K "Twice")) (.ref (He.ga K "NoSign")) = some false
  k_Twice_NoTree : PySem.W.kitOne K (.ref (He.ga K "Twice")) (.ref (He.ga K "NoTree")) = some false
  e_Twice_NoTree : PySem.W.exmOne K (.ref (He.ga K "Twice")) (.ref (He.ga K "NoTree")) = some false
  k_Twice_NoWord : PySem.W.kitOne K (.ref (He.ga K "Twice")) (.ref (He.ga K "NoWord")) = some false
  e_Twice_NoWord : PySem.W.exmOne K (.ref (He.ga K "Twice")) (.ref (He.ga K "NoWord")) = some false
  k_Twice_TooMany : PySem.W.kitOne K (.ref (He.ga K "Twice")) (.ref (He.ga K "TooMany")) = some false
  e_Twice_TooMany : PySem.W.exmOne K (.ref (He.ga K "Twice")) (.ref (He.ga K "TooMany")) = some false
  k_Twice_Twice : PySem.W.kitOne K (.ref (He.ga K "Twice")) (.ref (He.ga K "Twice")) = some true
  e_Twice_Twice : PySem.W.exmOne K (.ref (He.ga K "Twice")) (.ref (He.ga K "Twice")) = some true
  k_Twice_WoodError : PySem.W.kitOne K (.ref (He.ga K "Twice")) (.ref (He.ga K "WoodError")) = some true
  e_Twice_WoodError : PySem.W.exmOne K (.ref (He.ga K "Twice")) (.ref (He.ga K "WoodError")) = some true
  ec_WoodError : ExcC K (He.ga K "WoodError")
  kt_WoodError : PySem.W.kitOne K (.ref (He.ga K "WoodError")) (.type "ValueError") = some true
  k_WoodError_NoBit : PySem.W.kitOne K (.ref (He.ga K "WoodError")) (.ref (He.ga K "NoBit")) = some false
  e_WoodError_NoBit : PySem.W.exmOne K (.ref (He.ga K "WoodError")) (.ref (He.ga K "NoBit")) = some false
  k_WoodError_NoNode : PySem.W.kitOne K (.ref (He.ga K "WoodError")) (.ref (He.ga K "NoNode")) = some false
  e_WoodError_NoNode : PySem.W.exmOne K (.ref (He.ga K "WoodError")) (.ref (He.ga K "NoNode")) = some false
  k_WoodError_NoOctets : PySem.W.kitOne K (.ref (He.ga K "WoodError")) (.ref (He.ga K "NoOctets")) = some false
  e_WoodError_NoOctets : PySem.W.exmOne K (.ref (He.ga K "WoodError")) (.ref (He.ga K "NoOctets")) = some false
  k_WoodError_NoPlace : PySem.W.kitOne K (.ref (He.ga K "WoodError")) (.ref (He.ga K "NoPlace")) = some false
  e_WoodError_NoPlace : PySem.W.exmOne K (.ref (He.ga K "WoodError")) (.ref (He.ga K "NoPlace")) = some false
  k_WoodError_NoSign : PySem.W.kitOne K (.ref (He.ga K "WoodError")) (.ref (He.ga K "NoSign")) = some false
  e_WoodError_NoSign : PySem.W.exmOne K (.ref (He.ga K "WoodError")) (.ref (He.ga K "NoSign")) = some false
  k_WoodError_NoTree : PySem.W.kitOne K (.ref (He.ga K "WoodError")) (.ref (He.ga K "NoTree")) = some false
  e_WoodError_NoTree : PySem.W.exmOne K (.ref (He.ga K "WoodError")) (.ref (He.ga K "NoTree")) = some false
  k_WoodError_NoWord : PySem.W.kitOne K (.ref (He.ga K "WoodError")) (.ref (He.ga K "NoWord")) = some false
  e_WoodError_NoWord : PySem.W.exmOne K (.ref (He.ga K "WoodError")) (.ref (He.ga K "NoWord")) = some false
  k_WoodError_TooMany : PySem.W.kitOne K (.ref (He.ga K "WoodError")) (.ref (He.ga K "TooMany")) = some false
  e_WoodError_TooMany : PySem.W.exmOne K (.ref (He.ga K "WoodError")) (.ref (He.ga K "TooMany")) = some false
  k_WoodError_Twice : PySem.W.kitOne K (.ref (He.ga K "WoodError")) (.ref (He.ga K "Twice")) = some false
  e_WoodError_Twice : PySem.W.exmOne K (.ref (He.ga K "WoodError")) (.ref (He.ga K "Twice")) = some false
  k_WoodError_WoodError : PySem.W.kitOne K (.ref (He.ga K "WoodError")) (.ref (He.ga K "WoodError")) = some true
  e_WoodError_WoodError : PySem.W.exmOne K (.ref (He.ga K "WoodError")) (.ref (He.ga K "WoodError")) = some true

/-- a text of small letters, at most forty -/
def lettersS : Str := "abcdefghijklmnopqrstuvwxyz"
def IsW (x : Str) : Prop := (∀ c ∈ x.cps.toList, c ∈ lettersS.cps.toList) ∧ x.length ≤ 40
/-- is_word(text) -/
def sp_is_word (_ : PySem.W.Frag) : Sp := fun vs H Q _ => ∃ x : Str, vs = [.str x] ∧ x.length ≤ 1000 ∧ ∀ b : Bool, (b = true ↔ IsW x) → Q (.bl b) H
theorem len_is_word (K : PySem.W.Frag) : ∀ vs H Q E, sp_is_word K vs H Q E → vs.length = 1 := by
  rintro vs H Q E ⟨x, rfl, _⟩; rfl
def t_is_word (K : PySem.W.Frag) : TS :=
  (tSeq (tFor (iStr (tVar 0)) (gName 1)
  (tIfS (tTest (tOp rNotInS (tVar 1) (tC (.str "abcdefghijklmnopqrstuvwxyz"))))
  (tRet (tC (.bl false)))
  tNext))
  (tRet (tOp rLe (tCB rLenStr (tCons (tVar 0) tNil)) (tC (.int 40)))))
abbrev n_is_word : List Str := ["text", "letter"]

theorem rd_is_word (K : PySem.W.Frag) (vs : List V) (H : Hp) (Q : VK) (E : XK) (h : sp_is_word K vs H Q E) : t_is_word K { nx := fun _ H' => Q .non H', rt := Q } (start n_is_word vs) H := by
  obtain ⟨x, rfl, hl, q⟩ := h
  unfold t_is_word
  walk_at "st"
  refine m_iStrE ?_
  refine loop_walk walk_str (fun i σ H' => H' = H ∧ (∀ c ∈ x.cps.toList.take i, c ∈ lettersS.cps.toList) ∧ ∃ y, σ = [some (.str x), y]) ⟨rfl, by simp, none, rfl⟩ (fun _ _ _ _ => trivial) ?_ ?_
  · rintro i v σ H1 H2 hi ⟨rfl, hc, y, rfl⟩ ⟨rfl, c, hx, rfl⟩
    have hx2 : x.cps.toList[i]? = some c := by rw [Array.getElem?_toList]; exact hx
    walk_at "st"
    refine k_notInS (z := lettersS) ?_
    by_cases m : c ∈ lettersS.cps.toList
    · rw [decide_eq_true m]
      walk_at "st"
      refine ⟨rfl, fun d hd => ?_, _, rfl⟩
      rw [List.take_add_one, hx2] at hd
      rcases List.mem_append.mp hd with z | z
      · exact hc d z
      · rw [show d = c by simpa using z]; exact m
    · rw [decide_eq_false m]
      walk_at "st"
      exact q false ⟨fun z => (by cases z), fun z => absurd (z.1 c (List.mem_of_getElem? hx2)) m⟩
  · rintro σ H1 ⟨rfl, hc, y, rfl⟩
    walk_at "st"
    refine ⟨x, rfl, Nat.le_trans hl (by decide), ?_⟩
    walk_at "st"
    rw [List.take_of_length_le (by rw [Array.length_toList]; exact Nat.le_refl _)] at hc
    refine q _ ?_
    rw [decide_eq_true_iff]
    exact ⟨fun z => ⟨hc, by omega⟩, fun z => by have := z.2; omega⟩

/-- how many items two lists begin with alike -/
def shrL : List Nat → List Nat → Nat
  | a :: as, b :: bs => if a = b then shrL as bs + 1 else 0
  | _, _ => 0
theorem shrL_at : ∀ (as bs : List Nat) (n : Nat), n ≤ as.length → n ≤ bs.length → as.take n = bs.take n → (n = as.length ∨ n = bs.length ∨ as[n]? ≠ bs[n]?) → shrL as bs = n
  | [], bs, n, h1, _, _, _ => by cases bs <;> simp_all [shrL]
  | a :: as, [], n, _, h2, _, _ => by simp_all [shrL]
  | a :: as, b :: bs, 0, _, _, _, h => by
    unfold shrL
    rw [if_neg]
    intro e
    simp [e] at h
  | a :: as, b :: bs, n + 1, h1, h2, h3, h => by
    rw [List.take_succ_cons, List.take_succ_cons] at h3
    obtain ⟨e1, e2⟩ := List.cons.inj h3
    unfold shrL
    rw [if_pos e1, shrL_at as bs n (by simpa using h1) (by simpa using h2) e2 (by simpa using h)]
/-- shared_letters(one, other) -/
def sp_shared_letters (_ : PySem.W.Frag) : Sp := fun vs H Q _ => ∃ x y : Str, vs = [.str x, .str y] ∧ ∀ H', Same H H' → Q (.int ((shrL x.cps.toList y.cps.toList : Nat) : Int)) H'
theorem len_shared_letters (K : PySem.W.Frag) : ∀ vs H Q E, sp_shared_letters K vs H Q E → vs.length = 2 := by
  rintro vs H Q E ⟨x, y, rfl, _⟩; rfl
def t_shared_letters (K : PySem.W.Frag) : TS :=
  (tSeq (tAsg (tC (.int 0)) (gName 2))
  (tSeq (tFor (iZipS (tCons (tVar 0) (tCons (tVar 1) tNil))) (gTup K 2 (gCons (gName 3) (gCons (gName 4) gNil)))
  (tSeq (tIfS (tTest (tOp rNe (tVar 3) (tVar 4)))
  tBreak
  tNext)
  (tAug 2 (tC (.int 1)) (ipI fun i j => i + j))))
  (tRet (tVar 2))))
abbrev n_shared_letters : List Str := ["one", "other", "many", "here", "there"]

theorem rd_shared_letters (K : PySem.W.Frag) (vs : List V) (H : Hp) (Q : VK) (E : XK) (h : sp_shared_letters K vs H Q E) : t_shared_letters K { nx := fun _ H' => Q .non H', rt := Q } (start n_shared_letters vs) H := by
  obtain ⟨x, y, rfl, q⟩ := h
  unfold t_shared_letters
  walk_at "st"
  refine m_zipSE ?_
  refine loop_walk walk_zipS (fun i σ H' => Same H H' ∧ x.cps.toList.take i = y.cps.toList.take i ∧ ∃ v3 v4, σ = [some (.str x), some (.str y), some (.int (i : Int)), v3, v4]) ⟨Same.refl _, by simp, none, none, rfl⟩ (fun _ _ _ _ => trivial) ?_ ?_
  · rintro i v σ H1 H2 hi ⟨s, hc, v3, v4, rfl⟩ ⟨T, c, d, rfl, hT, rfl, hx, hy⟩
    have sT := s.trans (same_new (o := .tup [.str ⟨#[c]⟩, .str ⟨#[d]⟩]) hT)
    refine m_gTup (.of upd_same) rfl ?_
    generalize upd H1 T (.tup [.str ⟨#[c]⟩, .str ⟨#[d]⟩]) = H2 at sT ⊢
    walk_at "st"
    have hx2 : x.cps.toList[i]? = some c := by rw [Array.getElem?_toList]; exact hx
    have hy2 : y.cps.toList[i]? = some d := by rw [Array.getElem?_toList]; exact hy
    by_cases e : c = d
    · subst e
      rw [decide_eq_true rfl]
      walk_at "st"
      refine ⟨sT, ?_, _, _, rfl⟩
      rw [List.take_add_one, List.take_add_one, hx2, hy2, hc]
    · rw [decide_eq_false (by intro z; injection z with z; injection z with z; injection z with z; injection z with z; exact e z)]
      walk_at "st"
      have e : shrL x.cps.toList y.cps.toList = i := shrL_at _ _ _ (by rw [Array.length_toList]; omega) (by rw [Array.length_toList]; omega) hc (.inr (.inr (by rw [hx2, hy2]; intro z; exact e (Option.some.inj z))))
      rw [← e]
      exact q _ sT
  · rintro σ H1 ⟨s, hc, v3, v4, rfl⟩
    walk_at "st"
    have e : shrL x.cps.toList y.cps.toList = min x.cps.size y.cps.size := shrL_at _ _ _ (by rw [Array.length_toList]; omega) (by rw [Array.length_toList]; omega) hc (by rw [Array.length_toList, Array.length_toList]; omega)
    rw [← e]
    exact q H1 s

/-- each depth behind the first is one of its place; a is the depth ahead -/
def DeepT (a : Int) : List Int → Prop
  | [] => True
  | d :: ds => 1 ≤ d ∧ d ≤ a + 1 ∧ DeepT d ds
/-- the depths of a tree -/
def Deep : List Int → Prop
  | [] => False
  | d :: ds => d = 0 ∧ DeepT 0 ds
/-- the last of a and what follows -/
def lastD (a : Int) : List Int → Int
  | [] => a
  | d :: ds => lastD d ds
theorem lastD_snoc (a : Int) : ∀ (ds : List Int) (x : Int), lastD a (ds ++ [x]) = x
  | [], _ => rfl
  | d :: ds, x => lastD_snoc d ds x
theorem deepT_snoc : ∀ {a : Int} {ds : List Int} {x : Int}, DeepT a ds → 1 ≤ x → x ≤ lastD a ds + 1 → DeepT a (ds ++ [x])
  | _, [], _, _, h1, h2 => ⟨h1, h2, trivial⟩
  | _, _ :: _, _, ⟨a1, a2, a3⟩, h1, h2 => ⟨a1, a2, deepT_snoc a3 h1 h2⟩
theorem lastD_nonneg : ∀ {a : Int} {ds : List Int}, 0 ≤ a → DeepT a ds → 0 ≤ lastD a ds
  | _, [], h, _ => h
  | _, d :: ds, _, ⟨a1, _, a3⟩ => (lastD_nonneg (a := d) (ds := ds) (by omega) a3 : 0 ≤ lastD d ds)
theorem lastD_get : ∀ (a : Int) (ds : List Int), (a :: ds)[ds.length]? = some (lastD a ds)
  | _, [] => rfl
  | a, d :: ds => by
    rw [show (d :: ds).length = ds.length + 1 from rfl, List.getElem?_cons_succ]
    exact lastD_get d ds
theorem deepT_get : ∀ {ds : List Int} {a : Int}, DeepT a ds → ∀ {i : Nat} {x y : Int}, (a :: ds)[i]? = some x → ds[i]? = some y → 1 ≤ y ∧ y ≤ x + 1
  | [], _, _, _, _, _, _, h => by simp at h
  | d :: ds, a, ⟨a1, a2, a3⟩, 0, x, y, h1, h2 => by
    simp only [List.getElem?_cons_zero, Option.some.injEq] at h1 h2
    subst h1 h2; exact ⟨a1, a2⟩
  | d :: ds, a, ⟨a1, a2, a3⟩, i + 1, x, y, h1, h2 => by
    rw [List.getElem?_cons_succ] at h1 h2
    exact deepT_get a3 h1 h2
theorem Deep.cons {ds : List Int} (h : Deep ds) : ∃ r, ds = 0 :: r ∧ DeepT 0 r := by
  cases ds with
  | nil => exact h.elim
  | cons d r => obtain ⟨rfl, h⟩ := h; exact ⟨r, rfl, h⟩
/-- the brackets behind the one of a node of depth a -/
def brkT (a : Int) : List Int → List Int
  | [] => List.replicate (a + 1).toNat 0
  | d :: ds => List.replicate (a + 1 - d).toNat 0 ++ 1 :: brkT d ds
/-- the brackets of depths -/
def brk : List Int → List Int
  | [] => []
  | d :: ds => 1 :: brkT d ds
theorem brkT_len : ∀ {a : Int} {ds : List Int}, 0 ≤ a → DeepT a ds → ((brkT a ds).length : Int) = a + 1 + 2 * ds.length
  | a, [], h, _ => by simp only [brkT, List.length_replicate, List.length_nil]; omega
  | a, d :: ds, h, ⟨a1, a2, a3⟩ => by
    have := brkT_len (by omega) a3
    simp only [brkT, List.length_append, List.length_replicate, List.length_cons]; omega
theorem brk_len {ds : List Int} (h : Deep ds) : (brk ds).length = 2 * ds.length := by
  obtain ⟨r, rfl, h2⟩ := h.cons
  have := brkT_len (by decide) h2
  simp only [brk, List.length_cons]; omega
theorem at_lastD (r : List Int) : atI (((0 : Int) :: r).map V.int) (-1) = some (.int (lastD 0 r)) := by
  unfold atI ixN
  rw [List.length_map, List.length_cons, if_neg (by decide), if_pos (by omega)]
  show ((((0 : Int) :: r).map V.int))[_]? = _
  rw [show (-1 + ((r.length + 1 : Nat) : Int)).toNat = r.length by omega]
  exact mapint (lastD_get 0 r)
/-- 1 + k % n, k = 0, 1, .. -/
theorem deepT_saw {n : Int} (hn : 0 < n) : ∀ m : Nat, DeepT 0 ((List.range m).map fun k : Nat => 1 + (k : Int) % n) ∧ (0 < m → lastD 0 ((List.range m).map fun k : Nat => 1 + (k : Int) % n) = 1 + ((m : Int) - 1) % n)
  | 0 => ⟨trivial, fun h => by omega⟩
  | m + 1 => by
    obtain ⟨h1, h2⟩ := deepT_saw hn m
    rw [List.range_succ, List.map_append]
    refine ⟨deepT_snoc h1 (by have := Int.emod_nonneg (m : Int) (show n ≠ 0 by omega); show 1 ≤ 1 + (m : Int) % n; omega) ?_, fun _ => ?_⟩
    · show 1 + (m : Int) % n ≤ _
      rcases Nat.eq_zero_or_pos m with rfl | hm
      · simp [lastD]
      · rw [h2 hm]
        have e := Int.emod_add_mul_ediv ((m : Int) - 1) n
        have p := Int.emod_nonneg ((m : Int) - 1) (show n ≠ 0 by omega)
        have l := Int.emod_lt_of_pos ((m : Int) - 1) hn
        have e2 : (m : Int) = (((m : Int) - 1) % n + 1) + n * (((m : Int) - 1) / n) := by omega
        have e3 : (m : Int) % n = (((m : Int) - 1) % n + 1) % n := by
          have := Int.add_mul_emod_self_left ((((m : Int) - 1) % n + 1)) n (((m : Int) - 1) / n)
          rw [← e2] at this; exact this
        rw [e3]
        by_cases h : ((m : Int) - 1) % n + 1 < n
        · rw [Int.emod_eq_of_lt (by omega) h]; omega
        · rw [show ((m : Int) - 1) % n + 1 = n by omega, Int.emod_self]; omega
    · show lastD 0 (_ ++ [1 + (m : Int) % n]) = _
      rw [lastD_snoc]
      congr 2; omega

/-! ### bits of a number -/
/-- the bit k of b -/
def bit (b : Int) (k : Nat) : Int := b / 2 ^ k % 2
theorem bit_cases (b : Int) (k : Nat) : bit b k = 0 ∨ bit b k = 1 := by unfold bit; omega
/-- the ones among the first n bits -/
def onesIn (b : Int) : Nat → Int
  | 0 => 0
  | n + 1 => onesIn b n + bit b n
theorem onesIn_mono1 (b : Int) (n : Nat) : onesIn b n ≤ onesIn b (n + 1) ∧ onesIn b (n + 1) ≤ onesIn b n + 1 := by
  show onesIn b n ≤ onesIn b n + bit b n ∧ onesIn b n + bit b n ≤ _
  have := bit_cases b n; omega
theorem onesIn_mono (b : Int) (n m : Nat) (h : n ≤ m) : onesIn b n ≤ onesIn b m := by
  induction m with
  | zero => have : n = 0 := by omega
            subst this; exact Int.le_refl _
  | succ m ih =>
    rcases Nat.lt_or_ge m n with q | q
    · have : n = m + 1 := by omega
      subst this; exact Int.le_refl _
    · have := ih q; have := onesIn_mono1 b m; omega
theorem onesIn_range (b : Int) (n : Nat) : 0 ≤ onesIn b n ∧ onesIn b n ≤ n := by
  induction n with
  | zero => exact ⟨Int.le_refl _, Int.le_refl _⟩
  | succ n ih => have := onesIn_mono1 b n; omega
theorem sum_range_succ (f : Nat → Int) (n : Nat) : ((List.range (n + 1)).map f).sum = ((List.range n).map f).sum + f n := by
  rw [List.range_succ, List.map_append, List.sum_append]; simp
theorem onesIn_sum (b : Int) (n : Nat) : ((List.range n).map fun k => bit b k).sum = onesIn b n := by
  induction n with
  | zero => rfl
  | succ n ih => rw [sum_range_succ, ih]; rfl
theorem halve (b : Int) (k : Nat) : b / 2 ^ k / 2 = b / 2 ^ (k + 1) := by
  rw [Int.pow_succ, Int.ediv_ediv_of_nonneg]
  exact Int.le_of_lt (Int.pow_pos (by decide))

/-! ### rows and blocks -/
/-- all items are bits -/
def Bits (bs : List Int) : Prop := ∀ b ∈ bs, b = 0 ∨ b = 1
/-- the block of some bits (the first one counting 1) -/
def blk : List Int → Int
  | [] => 0
  | b :: bs => b + 2 * blk bs
/-- the row of bits bs as blocks, so many -/
def blksN (bs : List Int) : Nat → List Int
  | 0 => []
  | n + 1 => blk (bs.take 32) :: blksN (bs.drop 32) n
/-- the blocks of a row -/
def blks (bs : List Int) : List Int := blksN bs ((bs.length + 31) / 32)
theorem blksN_len (bs : List Int) (n : Nat) : (blksN bs n).length = n := by
  induction n generalizing bs with
  | zero => rfl
  | succ n ih => show (blksN (bs.drop 32) n).length + 1 = n + 1; rw [ih]
theorem blks_len (bs : List Int) : (blks bs).length = (bs.length + 31) / 32 := blksN_len _ _
theorem blksN_get (bs : List Int) (n j : Nat) (h : j < n) : (blksN bs n)[j]? = some (blk ((bs.drop (32 * j)).take 32)) := by
  induction n generalizing bs j with
  | zero => omega
  | succ n ih =>
    cases j with
    | zero => rfl
    | succ j =>
      show (blksN (bs.drop 32) n)[j]? = _
      rw [ih (bs.drop 32) j (by omega), List.drop_drop, show 32 + 32 * j = 32 * (j + 1) by omega]
theorem blks_get (bs : List Int) (j : Nat) (h : j < (bs.length + 31) / 32) : (blks bs)[j]? = some (blk ((bs.drop (32 * j)).take 32)) := blksN_get _ _ _ h
theorem blk_range : ∀ bs : List Int, Bits bs → 0 ≤ blk bs ∧ blk bs < 2 ^ bs.length
  | [], _ => ⟨Int.le_refl _, by decide⟩
  | b :: bs, h => by
    obtain ⟨h1, h2⟩ := blk_range bs fun x hx => h x (List.mem_cons_of_mem _ hx)
    have h3 := h b List.mem_cons_self
    have e : (2 : Int) ^ (bs.length + 1) = 2 ^ bs.length * 2 := Int.pow_succ ..
    show 0 ≤ b + 2 * blk bs ∧ b + 2 * blk bs < 2 ^ (bs.length + 1)
    omega
/-- a bit of a block -/
theorem bit_blk : ∀ (bs : List Int) (k : Nat), Bits bs → bit (blk bs) k = bs.getD k 0
  | [], k, _ => by
    show (0 : Int) / 2 ^ k % 2 = _
    rw [Int.zero_ediv]; rfl
  | b :: bs, 0, h => by
    have h3 := h b List.mem_cons_self
    show (b + 2 * blk bs) / 2 ^ 0 % 2 = b
    simp; omega
  | b :: bs, k + 1, h => by
    have h3 := h b List.mem_cons_self
    have ih := bit_blk bs k fun x hx => h x (List.mem_cons_of_mem _ hx)
    show (b + 2 * blk bs) / 2 ^ (k + 1) % 2 = (b :: bs).getD (k + 1) 0
    rw [List.getD_cons_succ, ← ih]
    show _ = blk bs / 2 ^ k % 2
    have e : (b + 2 * blk bs) / 2 = blk bs := by omega
    rw [show (2 : Int) ^ (k + 1) = 2 * 2 ^ k by rw [Int.pow_succ, Int.mul_comm], ← Int.ediv_ediv_of_nonneg (by decide), e]
theorem Bits.sub {bs cs : List Int} (h : Bits bs) (s : ∀ x ∈ cs, x ∈ bs) : Bits cs := fun x hx => h x (s x hx)
theorem Bits.take {bs : List Int} (h : Bits bs) (n : Nat) : Bits (bs.take n) := h.sub fun _ hx => List.mem_of_mem_take hx
theorem Bits.drop {bs : List Int} (h : Bits bs) (n : Nat) : Bits (bs.drop n) := h.sub fun _ hx => List.mem_of_mem_drop hx
/-- a row's blocks: each below 2 ^ 32 -/
theorem blks_range {bs : List Int} (h : Bits bs) {j : Nat} {b : Int} (e : (blks bs)[j]? = some b) : 0 ≤ b ∧ b < 4294967296 := by
  have hj : j < (bs.length + 31) / 32 := by
    have := (List.getElem?_eq_some_iff.mp e).1
    rw [blks_len] at this; exact this
  rw [blks_get bs j hj] at e
  obtain rfl := Option.some.inj e
  obtain ⟨h1, h2⟩ := blk_range _ ((h.drop (32 * j)).take 32)
  refine ⟨h1, Int.lt_of_lt_of_le h2 ?_⟩
  have : ((bs.drop (32 * j)).take 32).length ≤ 32 := by rw [List.length_take]; omega
  show (2 : Int) ^ _ ≤ 2 ^ 32
  exact_mod_cast Nat.pow_le_pow_right (show 0 < 2 by decide) this
/-- bit k of block j is bit 32 * j + k of the row -/
theorem bit_blks {bs : List Int} (h : Bits bs) {j : Nat} {b : Int} (e : (blks bs)[j]? = some b) {k : Nat} (hk : k < 32) : bit b k = bs.getD (32 * j + k) 0 := by
  have hj : j < (bs.length + 31) / 32 := by
    have := (List.getElem?_eq_some_iff.mp e).1
    rw [blks_len] at this; exact this
  rw [blks_get bs j hj] at e
  obtain rfl := Option.some.inj e
  rw [bit_blk _ _ ((h.drop (32 * j)).take 32), List.getD_eq_getElem?_getD, List.getD_eq_getElem?_getD, List.getElem?_take, if_pos hk, List.getElem?_drop]
/-- blocks are alike where their bits are -/
theorem blk_ext {x y : Int} (hx : 0 ≤ x ∧ x < 4294967296) (hy : 0 ≤ y ∧ y < 4294967296) (h : ∀ k, k < 32 → bit x k = bit y k) : x = y := by
  have key : ∀ n : Nat, n ≤ 32 → x / 2 ^ (32 - n) = y / 2 ^ (32 - n) := by
    intro n
    induction n with
    | zero =>
      intro _
      rw [Int.ediv_eq_zero_of_lt hx.1 (by exact hx.2), Int.ediv_eq_zero_of_lt hy.1 (by exact hy.2)]
    | succ n ih =>
      intro hn
      have h1 := ih (by omega)
      have h2 := h (32 - (n + 1)) (by omega)
      unfold bit at h2
      have e : 32 - n = (32 - (n + 1)) + 1 := by omega
      rw [e, ← halve, ← halve] at h1
      omega
  have := key 32 (Nat.le_refl _)
  rw [Nat.sub_self, Int.pow_zero, Int.ediv_one, Int.ediv_one] at this
  exact this

/-! ### words, and the texts of a store's nodes (pure) -/
theorem llt_nil_cons (x : Nat) (xs : List Nat) : ([] : List Nat) < x :: xs := by simp
theorem llt_cons {x y : Nat} {xs ys : List Nat} : x :: xs < y :: ys ↔ x < y ∨ (x = y ∧ xs < ys) := List.cons_lt_cons_iff
theorem llt_irr (a : List Nat) : ¬ a < a := List.lt_irrefl a
theorem llt_trans {a b c : List Nat} (h : a < b) (k : b < c) : a < c := List.lt_trans h k
theorem llt_tri (a b : List Nat) : a < b ∨ a = b ∨ b < a := by
  by_cases h : a < b
  · exact .inl h
  · by_cases k : b < a
    · exact .inr (.inr k)
    · exact .inr (.inl (List.le_antisymm (List.not_lt.mp k) (List.not_lt.mp h)))
theorem pre_lt : ∀ {a b : List Nat}, a <+: b → a ≠ b → a < b
  | [], [], _, h => absurd rfl h
  | [], y :: ys, _, _ => llt_nil_cons y ys
  | x :: xs, [], h, _ => by simp at h
  | x :: xs, y :: ys, h, n => by
    obtain ⟨e, h2⟩ := List.cons_prefix_cons.mp h
    subst e
    exact llt_cons.mpr (.inr ⟨rfl, pre_lt h2 fun z => n (by rw [z])⟩)
theorem pre_not_lt {a b : List Nat} (h : a <+: b) : ¬ b < a := fun z => by
  by_cases e : a = b
  · rw [e] at z; exact llt_irr _ z
  · exact llt_irr _ (llt_trans z (pre_lt h e))
theorem shrL_le1 : ∀ a b : List Nat, shrL a b ≤ a.length
  | [], b => by cases b <;> simp [shrL]
  | x :: xs, [] => by simp [shrL]
  | x :: xs, y :: ys => by
    unfold shrL
    split
    · have := shrL_le1 xs ys; simp only [List.length_cons]; omega
    · exact Nat.zero_le _
theorem shrL_le2 : ∀ a b : List Nat, shrL a b ≤ b.length
  | [], b => by cases b <;> simp [shrL]
  | x :: xs, [] => by simp [shrL]
  | x :: xs, y :: ys => by
    unfold shrL
    split
    · have := shrL_le2 xs ys; simp only [List.length_cons]; omega
    · exact Nat.zero_le _
/-- a common beginning is no longer than shrL -/
theorem shrL_ge : ∀ {x a b : List Nat}, x <+: a → x <+: b → x.length ≤ shrL a b
  | [], _, _, _, _ => Nat.zero_le _
  | c :: x, [], _, h, _ => by simp at h
  | c :: x, _ :: _, [], _, h => by simp at h
  | c :: x, d :: a, e :: b, h, k => by
    obtain ⟨e1, h2⟩ := List.cons_prefix_cons.mp h
    obtain ⟨e2, k2⟩ := List.cons_prefix_cons.mp k
    subst e1 e2
    unfold shrL
    rw [if_pos rfl]
    have := shrL_ge h2 k2
    simp only [List.length_cons]; omega
theorem shrL_take : ∀ a b : List Nat, a.take (shrL a b) = b.take (shrL a b)
  | [], b => by cases b <;> simp [shrL]
  | x :: xs, [] => by simp [shrL]
  | x :: xs, y :: ys => by
    unfold shrL
    split
    · next h => rw [List.take_succ_cons, List.take_succ_cons, h, shrL_take xs ys]
    · simp
/-- a prefix of b that is no longer than what a and b share is one of a -/
theorem pre_shr {x a b : List Nat} (h : x <+: b) (k : x.length ≤ shrL a b) : x <+: a := by
  have e : x = b.take x.length := (List.prefix_iff_eq_take.mp h)
  have e2 : b.take x.length = a.take x.length := by
    have z := congrArg (List.take x.length) (shrL_take a b)
    rw [List.take_take, List.take_take, Nat.min_eq_left k] at z
    exact z.symm
  rw [e, e2]; exact List.take_prefix _ _
theorem shrL_lt : ∀ {a b : List Nat}, a < b → shrL a b < b.length
  | [], [], h => absurd h (llt_irr _)
  | [], y :: ys, _ => by simp [shrL]
  | x :: xs, [], h => by simp at h
  | x :: xs, y :: ys, h => by
    unfold shrL
    rcases llt_cons.mp h with z | ⟨e, z⟩
    · rw [if_neg (by omega)]; simp
    · rw [if_pos e]
      have := shrL_lt z
      simp only [List.length_cons]; omega
theorem shrL_take_lt : ∀ {a b : List Nat}, a < b → ∀ {k : Nat}, shrL a b ≤ k → k < b.length → a < b.take (k + 1)
  | [], [], h, _, _, _ => absurd h (llt_irr _)
  | [], y :: ys, _, k, _, _ => by rw [List.take_succ_cons]; exact llt_nil_cons _ _
  | x :: xs, [], h, _, _, _ => by simp at h
  | x :: xs, y :: ys, h, k, h1, h2 => by
    rw [List.take_succ_cons]
    rcases llt_cons.mp h with z | ⟨e, z⟩
    · exact llt_cons.mpr (.inl z)
    · unfold shrL at h1
      rw [if_pos e] at h1
      obtain ⟨j, rfl⟩ : ∃ j, k = j + 1 := ⟨k - 1, by omega⟩
      exact llt_cons.mpr (.inr ⟨e, shrL_take_lt z (by omega) (by simpa using h2)⟩)
/-- the nodes that a word brings, the word ahead being a -/
def newN (a w : List Nat) : List (List Nat) := (List.range (w.length - shrL a w)).map fun k => w.take (shrL a w + k + 1)
def nodesF : List Nat → List (List Nat) → List (List Nat)
  | _, [] => []
  | a, w :: ws => newN a w ++ nodesF w ws
/-- the texts of a store's nodes, of its sorted words -/
def nodesL (ws : List (List Nat)) : List (List Nat) := [] :: nodesF [] ws
theorem mem_newN {a w x : List Nat} : x ∈ newN a w ↔ x <+: w ∧ shrL a w < x.length := by
  unfold newN
  rw [List.mem_map]
  constructor
  · rintro ⟨k, hk, rfl⟩
    rw [List.mem_range] at hk
    exact ⟨List.take_prefix _ _, by rw [List.length_take]; omega⟩
  · rintro ⟨h, k⟩
    refine ⟨x.length - shrL a w - 1, ?_, ?_⟩
    · have := h.length_le
      rw [List.mem_range]; omega
    · rw [show shrL a w + (x.length - shrL a w - 1) + 1 = x.length by omega]
      exact (List.prefix_iff_eq_take.mp h).symm
theorem newN_gt {a w x : List Nat} (h : a < w) (hx : x ∈ newN a w) : a < x := by
  obtain ⟨h1, h2⟩ := mem_newN.mp hx
  have e := List.prefix_iff_eq_take.mp h1
  have := h1.length_le
  rw [e, show x.length = (x.length - 1) + 1 by omega]
  exact shrL_take_lt h (by omega) (by omega)
theorem newN_sorted (a w : List Nat) : (newN a w).Pairwise (· < ·) := by
  unfold newN
  rw [List.pairwise_map]
  refine List.Pairwise.imp_of_mem (R := (· < ·)) (fun {i j} hi hj hij => ?_) (List.pairwise_lt_range)
  rw [List.mem_range] at hi hj
  refine pre_lt ?_ fun z => ?_
  · rw [List.prefix_iff_eq_take, List.length_take, List.take_take]
    congr 1; omega
  · have := congrArg List.length z
    rw [List.length_take, List.length_take] at this
    omega
theorem nodesF_gt : ∀ {ws : List (List Nat)} {a : List Nat}, (a :: ws).Pairwise (· < ·) → ∀ x ∈ nodesF a ws, a < x
  | [], _, _, _, hx => by simp [nodesF] at hx
  | w :: ws, a, h, x, hx => by
    obtain ⟨h1, h2⟩ := List.pairwise_cons.mp h
    have haw := h1 w List.mem_cons_self
    rcases List.mem_append.mp (show x ∈ newN a w ++ nodesF w ws from hx) with z | z
    · exact newN_gt haw z
    · exact llt_trans haw (nodesF_gt h2 x z)
theorem nodesF_sorted : ∀ {ws : List (List Nat)} {a : List Nat}, (a :: ws).Pairwise (· < ·) → (nodesF a ws).Pairwise (· < ·)
  | [], _, _ => .nil
  | w :: ws, a, h => by
    obtain ⟨h1, h2⟩ := List.pairwise_cons.mp h
    refine List.pairwise_append.mpr ⟨newN_sorted a w, nodesF_sorted h2, fun x hx y hy => ?_⟩
    have hy2 := nodesF_gt h2 y hy
    have hx2 := (mem_newN.mp hx).1
    by_cases e : x = w
    · rw [e]; exact hy2
    · exact llt_trans (pre_lt hx2 e) hy2
theorem mem_nodesF : ∀ {ws : List (List Nat)} {a : List Nat}, (a :: ws).Pairwise (· < ·) → ∀ {x : List Nat}, x ∈ nodesF a ws ↔ (∃ w ∈ ws, x <+: w) ∧ ¬ x <+: a
  | [], _, _, x => by simp [nodesF]
  | w :: ws, a, h, x => by
    have hgt := nodesF_gt h
    obtain ⟨h1, h2⟩ := List.pairwise_cons.mp h
    have ih := @mem_nodesF ws w h2 x
    constructor
    · intro hx
      refine ⟨?_, fun z => pre_not_lt z (hgt x hx)⟩
      rcases List.mem_append.mp (show x ∈ newN a w ++ nodesF w ws from hx) with z | z
      · exact ⟨w, List.mem_cons_self, (mem_newN.mp z).1⟩
      · obtain ⟨⟨w', hw', p⟩, _⟩ := ih.mp z
        exact ⟨w', List.mem_cons_of_mem _ hw', p⟩
    · rintro ⟨⟨w', hw', p⟩, n⟩
      refine List.mem_append.mpr ?_
      by_cases q : x <+: w
      · exact .inl (mem_newN.mpr ⟨q, Nat.lt_of_not_le fun z => n (pre_shr q z)⟩)
      · rcases List.mem_cons.mp hw' with e | e
        · rw [e] at p; exact absurd p q
        · exact .inr (ih.mpr ⟨⟨w', e, p⟩, q⟩)
/-- sorted words: each once -/
def SrtW (ws : List (List Nat)) : Prop := ws.Pairwise (· < ·)
theorem srt_cases {ws : List (List Nat)} (h : SrtW ws) : ([] :: ws).Pairwise (· < ·) ∨ ∃ r, ws = [] :: r ∧ ([] :: r).Pairwise (· < ·) := by
  cases ws with
  | nil => exact .inl (List.pairwise_singleton _ _)
  | cons w r =>
    cases w with
    | nil => exact .inr ⟨r, rfl, h⟩
    | cons c w =>
      refine .inl (List.pairwise_cons.mpr ⟨fun x hx => ?_, h⟩)
      rcases List.mem_cons.mp hx with e | e
      · rw [e]; exact llt_nil_cons _ _
      · exact llt_trans (llt_nil_cons c w) ((List.pairwise_cons.mp h).1 x e)
theorem nodesF_nil (r : List (List Nat)) : nodesF [] ([] :: r) = nodesF [] r := by
  show newN [] [] ++ nodesF [] r = _
  rfl
theorem nodesL_sorted {ws : List (List Nat)} (h : SrtW ws) : SrtW (nodesL ws) := by
  unfold nodesL
  rcases srt_cases h with z | ⟨r, rfl, z⟩
  · exact List.pairwise_cons.mpr ⟨nodesF_gt z, nodesF_sorted z⟩
  · rw [nodesF_nil]; exact List.pairwise_cons.mpr ⟨nodesF_gt z, nodesF_sorted z⟩
theorem mem_nodesL {ws : List (List Nat)} (h : SrtW ws) {x : List Nat} : x ∈ nodesL ws ↔ x = [] ∨ ∃ w ∈ ws, x <+: w := by
  unfold nodesL
  rw [List.mem_cons]
  have key : ∀ r : List (List Nat), ([] :: r).Pairwise (· < ·) → (x = [] ∨ x ∈ nodesF [] r ↔ x = [] ∨ ∃ w ∈ r, x <+: w) := fun r z => by
    rw [mem_nodesF z, List.prefix_nil]
    constructor
    · rintro (e | ⟨e, _⟩)
      · exact .inl e
      · exact .inr e
    · rintro (e | e)
      · exact .inl e
      · by_cases q : x = []
        · exact .inl q
        · exact .inr ⟨e, q⟩
  rcases srt_cases h with z | ⟨r, rfl, z⟩
  · exact key ws z
  · rw [nodesF_nil, key r z]
    constructor
    · rintro (e | ⟨w, hw, p⟩)
      · exact .inl e
      · exact .inr ⟨w, List.mem_cons_of_mem _ hw, p⟩
    · rintro (e | ⟨w, hw, p⟩)
      · exact .inl e
      · rcases List.mem_cons.mp hw with e | e
        · rw [e, List.prefix_nil] at p; exact .inl p
        · exact .inr ⟨w, e, p⟩
theorem srt_uniq : ∀ {xs ys : List (List Nat)}, SrtW xs → SrtW ys → (∀ z, z ∈ xs ↔ z ∈ ys) → xs = ys
  | [], [], _, _, _ => rfl
  | [], y :: ys, _, _, h => absurd ((h y).mpr List.mem_cons_self) (by simp)
  | x :: xs, [], _, _, h => absurd ((h x).mp List.mem_cons_self) (by simp)
  | x :: xs, y :: ys, hx, hy, h => by
    obtain ⟨x1, x2⟩ := List.pairwise_cons.mp hx
    obtain ⟨y1, y2⟩ := List.pairwise_cons.mp hy
    have e : x = y := by
      rcases List.mem_cons.mp ((h x).mp List.mem_cons_self) with e | e
      · exact e
      · rcases List.mem_cons.mp ((h y).mpr List.mem_cons_self) with e2 | e2
        · exact e2.symm
        · exact absurd (llt_trans (x1 y e2) (y1 x e)) (llt_irr _)
    subst e
    rw [srt_uniq x2 y2 fun z => ?_]
    constructor
    · intro hz
      rcases List.mem_cons.mp ((h z).mp (List.mem_cons_of_mem _ hz)) with e | e
      · subst e; exact absurd (x1 z hz) (llt_irr _)
      · exact e
    · intro hz
      rcases List.mem_cons.mp ((h z).mpr (List.mem_cons_of_mem _ hz)) with e | e
      · subst e; exact absurd (y1 z hz) (llt_irr _)
      · exact e
theorem srt_nodup {xs : List (List Nat)} (h : SrtW xs) : xs.Nodup := List.Pairwise.imp (fun {a b} (z : a < b) e => by rw [e] at z; exact llt_irr _ z) h
/-! the loop's steps -/
theorem nodesF_snoc : ∀ (ws : List (List Nat)) (a w : List Nat), nodesF a (ws ++ [w]) = nodesF a ws ++ newN (ws.getLast?.getD a) w
  | [], a, w => by simp [nodesF]
  | v :: ws, a, w => by
    show newN a v ++ nodesF v (ws ++ [w]) = newN a v ++ nodesF v ws ++ _
    rw [nodesF_snoc ws v w, List.append_assoc]
    congr 3
    rw [List.getLast?_cons]; rfl
/-- the word ahead -/
def lastW (ws : List (List Nat)) : List Nat := ws.getLast?.getD []
theorem lastW_snoc (ws : List (List Nat)) (w : List Nat) : lastW (ws ++ [w]) = w := by
  unfold lastW; rw [List.getLast?_concat]; rfl
theorem nodesL_snoc (ws : List (List Nat)) (w : List Nat) : nodesL (ws ++ [w]) = nodesL ws ++ newN (lastW ws) w := by
  unfold nodesL lastW
  rw [nodesF_snoc]; rfl
theorem deepT_app : ∀ {xs ys : List Int} {a : Int}, DeepT a xs → DeepT (lastD a xs) ys → DeepT a (xs ++ ys)
  | [], _, _, _, h => h
  | _ :: _, _, _, ⟨a1, a2, a3⟩, h => ⟨a1, a2, deepT_app a3 h⟩
theorem lastD_app : ∀ (xs ys : List Int) (a : Int), lastD a (xs ++ ys) = lastD (lastD a xs) ys
  | [], _, _ => rfl
  | x :: xs, ys, _ => lastD_app xs ys x
/-- the depths of texts -/
def dpsL (ts : List (List Nat)) : List Int := ts.map fun t => (t.length : Int)
theorem rng_deep (s a : Nat) (hs : s ≤ a) : ∀ n : Nat, DeepT (a : Int) ((List.range n).map fun k => ((s + k + 1 : Nat) : Int)) ∧ lastD (a : Int) ((List.range n).map fun k => ((s + k + 1 : Nat) : Int)) = (if n = 0 then (a : Int) else ((s + n : Nat) : Int))
  | 0 => ⟨trivial, rfl⟩
  | n + 1 => by
    obtain ⟨h1, h2⟩ := rng_deep s a hs n
    rw [List.range_succ, List.map_append]
    refine ⟨deepT_snoc h1 (by show (1 : Int) ≤ ((s + n + 1 : Nat) : Int); omega) ?_, ?_⟩
    · rw [h2]; show ((s + n + 1 : Nat) : Int) ≤ _; split <;> omega
    · rw [show List.map (fun k => ((s + k + 1 : Nat) : Int)) [n] = [((s + n + 1 : Nat) : Int)] from rfl, lastD_snoc, if_neg (by omega)]; omega
theorem newN_dps (a w : List Nat) : dpsL (newN a w) = (List.range (w.length - shrL a w)).map fun k => ((shrL a w + k + 1 : Nat) : Int) := by
  unfold dpsL newN
  rw [List.map_map]
  refine List.map_congr_left fun k hk => ?_
  rw [List.mem_range] at hk
  show ((w.take (shrL a w + k + 1)).length : Int) = _
  rw [List.length_take]; omega
theorem nodesF_deep : ∀ {ws : List (List Nat)} {a : List Nat}, (a :: ws).Pairwise (· < ·) → DeepT (a.length : Int) (dpsL (nodesF a ws))
  | [], _, _ => trivial
  | w :: ws, a, h => by
    obtain ⟨h1, h2⟩ := List.pairwise_cons.mp h
    have hl := shrL_lt (h1 w List.mem_cons_self)
    obtain ⟨d1, d2⟩ := rng_deep (shrL a w) a.length (shrL_le1 a w) (w.length - shrL a w)
    rw [if_neg (by omega), show shrL a w + (w.length - shrL a w) = w.length by omega] at d2
    unfold dpsL nodesF
    rw [List.map_append]
    have e := newN_dps a w
    unfold dpsL at e
    rw [e]
    refine deepT_app d1 ?_
    rw [d2]
    exact nodesF_deep h2
theorem nodesL_deep {ws : List (List Nat)} (h : SrtW ws) : Deep (dpsL (nodesL ws)) := by
  refine ⟨rfl, ?_⟩
  show DeepT 0 (dpsL (nodesF [] ws))
  rcases srt_cases h with z | ⟨r, rfl, z⟩
  · exact nodesF_deep z
  · rw [nodesF_nil]; exact nodesF_deep z
theorem nodesF_len : ∀ (ws : List (List Nat)) (a : List Nat), (nodesF a ws).length ≤ (ws.map List.length).sum
  | [], _ => Nat.le_refl _
  | w :: ws, a => by
    have := nodesF_len ws w
    unfold nodesF newN
    rw [List.length_append, List.length_map, List.length_range, List.map_cons, List.sum_cons]
    omega
theorem nodesL_len (ws : List (List Nat)) : (nodesL ws).length ≤ (ws.map List.length).sum + 1 := by
  have := nodesF_len ws []
  unfold nodesL
  rw [List.length_cons]; omega
/-- the last node behind a word is the word -/
theorem nodesL_last {ws : List (List Nat)} {w : List Nat} (h : SrtW (ws ++ [w])) : ∃ r, nodesL (ws ++ [w]) = r ++ [w] := by
  rw [nodesL_snoc]
  by_cases e : w = []
  · subst e
    have hw : ws = [] := by
      cases ws with
      | nil => rfl
      | cons v ws =>
        have := (List.pairwise_append.mp h).2.2 v List.mem_cons_self [] List.mem_cons_self
        simp at this
    subst hw
    exact ⟨[], rfl⟩
  · have hl : shrL (lastW ws) w < w.length := by
      cases ws.eq_nil_or_concat with
      | inl z =>
        subst z
        show shrL [] w < w.length
        refine shrL_lt ?_
        cases w with
        | nil => exact absurd rfl e
        | cons c w => exact llt_nil_cons _ _
      | inr z =>
        obtain ⟨r, v, rfl⟩ := z
        rw [List.concat_eq_append] at h ⊢
        rw [lastW_snoc]
        exact shrL_lt ((List.pairwise_append.mp h).2.2 v (by simp) w List.mem_cons_self)
    refine ⟨nodesL ws ++ (List.range (w.length - shrL (lastW ws) w - 1)).map fun k => w.take (shrL (lastW ws) w + k + 1), ?_⟩
    unfold newN
    obtain ⟨m, hm⟩ : ∃ m, w.length - shrL (lastW ws) w = m + 1 := ⟨w.length - shrL (lastW ws) w - 1, by omega⟩
    rw [hm, Nat.add_sub_cancel, List.range_succ, List.map_append, List.append_assoc]
    congr 2
    show [w.take (shrL (lastW ws) w + m + 1)] = [w]
    rw [List.take_of_length_le (by omega)]
/-- which of the texts are words -/
def endsL (ts ws : List (List Nat)) : List Int := ts.map fun t => if t ∈ ws then 1 else 0
/-- the last letters -/
def lastL (t : List Nat) : Int := (t.getLastD 97 : Int) - 97
def letsL (ts : List (List Nat)) : List Int := ts.tail.map lastL
theorem endsL_step {ws : List (List Nat)} {w : List Nat} (h : SrtW (ws ++ [w])) : (endsL (nodesL ws) ws ++ List.replicate (newN (lastW ws) w).length 0).set ((endsL (nodesL ws) ws ++ List.replicate (newN (lastW ws) w).length 0).length - 1) 1 = endsL (nodesL (ws ++ [w])) (ws ++ [w]) ∧ 0 < (endsL (nodesL ws) ws ++ List.replicate (newN (lastW ws) w).length 0).length := by
  have hws : SrtW ws := (List.pairwise_append.mp h).1
  have hs := nodesL_sorted h
  have e0 : endsL (nodesL ws) ws ++ List.replicate (newN (lastW ws) w).length 0 = endsL (nodesL (ws ++ [w])) ws := by
    rw [nodesL_snoc]
    unfold endsL
    rw [List.map_append]
    congr 1
    symm
    refine List.eq_replicate_iff.mpr ⟨by rw [List.length_map], fun b hb => ?_⟩
    obtain ⟨t, ht, rfl⟩ := List.mem_map.mp hb
    refine if_neg fun z => ?_
    rw [nodesL_snoc] at hs
    have h1 := (List.pairwise_append.mp hs).2.2 t ((mem_nodesL hws).mpr (.inr ⟨t, z, List.prefix_refl t⟩)) t ht
    exact llt_irr _ h1
  rw [e0]
  obtain ⟨r, er⟩ := nodesL_last h
  rw [er] at hs ⊢
  have hr : ∀ t ∈ r, t ≠ w := fun t ht e => by
    have := (List.pairwise_append.mp hs).2.2 t ht w (by simp)
    rw [e] at this
    exact llt_irr _ this
  unfold endsL
  rw [List.map_append, List.map_append]
  refine ⟨?_, by simp⟩
  have e1 : List.map (fun t => if t ∈ ws then (1 : Int) else 0) r = List.map (fun t => if t ∈ ws ++ [w] then (1 : Int) else 0) r := List.map_congr_left fun t ht => by
    have : t ∈ ws ++ [w] ↔ t ∈ ws := by
      rw [List.mem_append, List.mem_singleton]
      exact ⟨fun z => z.elim id fun e => absurd e (hr t ht), .inl⟩
    by_cases c : t ∈ ws
    · rw [if_pos c, if_pos (this.mpr c)]
    · rw [if_neg c, if_neg fun z => c (this.mp z)]
  rw [List.length_append, List.length_map, List.length_map, List.length_singleton, Nat.add_sub_cancel, List.set_append_right _ _ (by rw [List.length_map]; exact Nat.le_refl _), List.length_map, Nat.sub_self, ← e1]
  congr 1
  show [(1 : Int)] = [if w ∈ ws ++ [w] then 1 else 0]
  rw [if_pos (by simp)]
theorem newN_lets (a w : List Nat) : (newN a w).map lastL = (List.range (w.length - shrL a w)).map fun k => ((w.getD (shrL a w + k) 97 : Nat) : Int) - 97 := by
  unfold newN
  rw [List.map_map]
  refine List.map_congr_left fun k hk => ?_
  rw [List.mem_range] at hk
  show lastL (w.take (shrL a w + k + 1)) = _
  unfold lastL
  have hk2 : shrL a w + k < w.length := by omega
  rw [show shrL a w + k + 1 = (shrL a w + k) + 1 from rfl, List.take_add_one, List.getElem?_eq_getElem hk2, Option.toList_some, List.getLastD_concat, List.getD_eq_getElem?_getD, List.getElem?_eq_getElem (show shrL a w + k < w.length by omega)]
  simp
theorem letsL_snoc (ws : List (List Nat)) (w : List Nat) : letsL (nodesL (ws ++ [w])) = letsL (nodesL ws) ++ (newN (lastW ws) w).map lastL := by
  rw [nodesL_snoc]
  unfold letsL nodesL
  rw [List.cons_append, List.tail_cons, List.tail_cons, List.map_append]
theorem dpsL_snoc (ws : List (List Nat)) (w : List Nat) : dpsL (nodesL (ws ++ [w])) = dpsL (nodesL ws) ++ dpsL (newN (lastW ws) w) := by
  rw [nodesL_snoc]
  unfold dpsL
  rw [List.map_append]
theorem newN_len (a w : List Nat) : (newN a w).length = w.length - shrL a w := by unfold newN; rw [List.length_map, List.length_range]
theorem endsL_len (ts ws : List (List Nat)) : (endsL ts ws).length = ts.length := by unfold endsL; rw [List.length_map]
theorem dpsL_len (ts : List (List Nat)) : (dpsL ts).length = ts.length := by unfold dpsL; rw [List.length_map]
theorem letsL_len (ts : List (List Nat)) : (letsL ts).length = ts.length - 1 := by unfold letsL; rw [List.length_map, List.length_tail]
theorem endsL_bits (ts ws : List (List Nat)) : Bits (endsL ts ws) := fun b hb => by
  obtain ⟨t, _, rfl⟩ := List.mem_map.mp hb
  by_cases c : t ∈ ws
  · exact .inr (if_pos c)
  · exact .inl (if_neg c)

/-! ### texts as lists of signs -/
def mkT (t : List Nat) : Str := ⟨t.toArray⟩
/-- a text as a value -/
abbrev VT (t : List Nat) : V := .str (mkT t)
theorem mkT_list (t : List Nat) : (mkT t).cps.toList = t := rfl
theorem mkT_len (t : List Nat) : (mkT t).length = t.length := rfl
theorem mkT_of (x : Str) : mkT x.cps.toList = x := rfl
theorem mkT_inj {a b : List Nat} (h : mkT a = mkT b) : a = b := by
  have := congrArg (fun z : Str => z.cps.toList) h
  exact this
theorem VT_inj {a b : List Nat} (h : VT a = VT b) : a = b := by
  injection h with h; exact mkT_inj h
theorem VT_eq (a b : List Nat) : decide (VT a = VT b) = decide (a = b) := decide_eq_decide.mpr ⟨VT_inj, fun z => by rw [z]⟩
theorem map_VT (xs : List (List Nat)) : xs.map VT = (xs.map mkT).map V.str := by rw [List.map_map]; rfl
theorem nodup_mkT (xs : List (List Nat)) : (xs.map mkT).Nodup ↔ xs.Nodup := by
  constructor
  · intro z
    rw [List.Nodup, List.pairwise_map] at z
    exact z.imp fun {a b} n e => n (by rw [e])
  · intro z
    rw [List.Nodup, List.pairwise_map]
    exact z.imp fun {a b} n e => n (mkT_inj e)
theorem codes_mkT (xs : List (List Nat)) : (xs.map mkT).map (fun z : Str => z.cps.toList) = xs := by
  rw [List.map_map]
  exact List.map_id'' (fun t => rfl) xs
theorem strs_VT (ys : List Str) : ys.map V.str = (ys.map fun z : Str => z.cps.toList).map VT := by
  rw [List.map_map]; rfl
theorem of_mapVT {xs : List (List Nat)} {i : Nat} {v : V} (h : (xs.map VT)[i]? = some v) : ∃ t, xs[i]? = some t ∧ v = VT t := by
  rw [List.getElem?_map] at h
  cases e : xs[i]? with
  | none => rw [e] at h; cases h
  | some n => rw [e] at h; exact ⟨n, rfl, (Option.some.inj h).symm⟩
theorem mapVT {xs : List (List Nat)} {i : Nat} {t : List Nat} (h : xs[i]? = some t) : (xs.map VT)[i]? = some (VT t) := by
  rw [List.getElem?_map, h]; rfl
section
variable {H : Hp} {Q : VK} {K : PySem.W.Frag}
theorem k_lenS {z : Str} (hz : z.cps.toList.length ≤ 1000000) (q : Q (.int (z.cps.toList.length : Int)) H) : rLenStr [.str z] H Q :=
  ⟨z, rfl, Nat.le_trans hz (by decide), q⟩
theorem k_lenVT {t : List Nat} (hz : t.length ≤ 1000000) (q : Q (.int (t.length : Int)) H) : rLenStr [VT t] H Q := k_lenS (z := mkT t) hz q
theorem k_ixS {t : List Nat} {i : Int} {c : Nat} (hz : t.length ≤ 1000000) (e : atI t i = some c) (q : Q (VT [c]) H) : rIxS (VT t) (.int i) H Q :=
  ⟨mkT t, i, c, rfl, rfl, Nat.le_trans hz (by decide), e, q⟩
theorem mkT_app (a b : List Nat) : mkT a ++ mkT b = mkT (a ++ b) := TL.ext_tl (TL.tl_append _ _)
theorem k_addVT {a b : List Nat} (h : a.length + b.length ≤ 1000000) (q : Q (VT (a ++ b)) H) : rAddStr (VT a) (VT b) H Q :=
  ⟨mkT a, mkT b, rfl, rfl, Nat.le_trans h (by decide), by rw [mkT_app]; exact q⟩
theorem k_slVT {t : List Nat} {lo hi : Option Int} (hz : t.length ≤ 1000000) (q : Q (VT ((t.drop (HT.sIx t.length 0 lo)).take (HT.sIx t.length t.length hi - HT.sIx t.length 0 lo))) H) : rSlS (VT t) lo hi H Q :=
  ⟨mkT t, rfl, Nat.le_trans hz (by decide), q⟩
theorem k_slTakeVT {t : List Nat} {k : Nat} (hz : t.length ≤ 1000000) (q : Q (VT (t.take k)) H) : rSlS (VT t) none (some (k : Int)) H Q := by
  refine k_slVT hz ?_
  rw [HT.sIx_none, HT.sIx_nat, List.drop_zero, Nat.sub_zero]
  have e : t.take (min k t.length) = t.take k := by
    rcases Nat.le_total k t.length with h | h
    · rw [Nat.min_eq_left h]
    · rw [Nat.min_eq_right h, List.take_length, List.take_of_length_le h]
  rw [e]; exact q
theorem k_slDropVT {t : List Nat} {k : Nat} (hz : t.length ≤ 1000000) (q : Q (VT (t.drop k)) H) : rSlS (VT t) (some (k : Int)) none H Q := by
  refine k_slVT hz ?_
  rw [HT.sIx_none, HT.sIx_nat]
  have e : (t.drop (min k t.length)).take (t.length - min k t.length) = t.drop k := by
    rcases Nat.le_total k t.length with h | h
    · rw [Nat.min_eq_left h, List.take_of_length_le (by rw [List.length_drop]; omega)]
    · rw [Nat.min_eq_right h, List.drop_of_length_le (Nat.le_refl _), List.drop_of_length_le h]; simp
  rw [e]; exact q
/-! texts in lists -/
def Asc (t : List Nat) : Prop := ∀ c ∈ t, c < 128
theorem dp_texts : ∀ ts : List (List Nat), DpAll K H (ts.map VT) (ts.map fun t => PyData.str (mkT t))
  | [] => .nil
  | t :: ts => .cons (.str _) (dp_texts ts)
theorem laid_text {n : Nat} {t : List Nat} (h : Asc t) : laid n (.str (mkT t)) := by
  refine ⟨?_, by simp [PyData.depth]⟩
  unfold PyData.canLay0
  show (t.toArray.all fun c => decide (c < 0x110000)) = true
  rw [Array.all_eq_true_iff_forall_mem]
  intro c hc
  have := h c (by simpa using hc)
  exact decide_eq_true (by omega)
theorem laid_texts {n : Nat} {ts : List (List Nat)} (h : ∀ t ∈ ts, Asc t) : laid (n + 1) (.list (ts.map fun t => PyData.str (mkT t))) := laid_list fun d hd => by
  obtain ⟨t, ht, rfl⟩ := List.mem_map.mp hd
  exact laid_text (h t ht)
theorem mkT_beq (a b : List Nat) : (mkT a == mkT b) = decide (a = b) := by
  by_cases h : a = b
  · subst h; simp
  · rw [decide_eq_false h, beq_eq_false_iff_ne]
    exact fun z => h (mkT_inj z)
theorem any_text (t : List Nat) : ∀ ts : List (List Nat), ((ts.map fun t => PyData.str (mkT t)).any fun z => PyData.eqv z (.str (mkT t))) = decide (t ∈ ts)
  | [] => by simp
  | u :: ts => by
    rw [List.map_cons, List.any_cons, any_text t ts]
    unfold PyData.eqv
    rw [mkT_beq]
    by_cases h : u = t
    · subst h; simp
    · have h' : ¬ t = u := fun z => h z.symm
      simp [h, h']
theorem eqvAll_texts : ∀ as bs : List (List Nat), PyData.eqvAll (as.map fun t => PyData.str (mkT t)) (bs.map fun t => PyData.str (mkT t)) = decide (as = bs)
  | [], [] => by rw [List.map_nil]; unfold PyData.eqvAll; rfl
  | [], b :: bs => by rw [List.map_nil, List.map_cons]; unfold PyData.eqvAll; simp
  | a :: as, [] => by rw [List.map_nil, List.map_cons]; unfold PyData.eqvAll; simp
  | a :: as, b :: bs => by
    rw [List.map_cons, List.map_cons]; unfold PyData.eqvAll
    rw [eqvAll_texts as bs]
    unfold PyData.eqv
    rw [mkT_beq]
    by_cases h : a = b
    · subst h; by_cases h2 : as = bs
      · subst h2; simp
      · simp [h2]
    · simp [h]
theorem eqv_texts (as bs : List (List Nat)) : PyData.eqv (.list (as.map fun t => PyData.str (mkT t))) (.list (bs.map fun t => PyData.str (mkT t))) = decide (as = bs) := by
  unfold PyData.eqv; exact eqvAll_texts as bs
theorem k_inLT {t : List Nat} {a : Addr} {ts : List (List Nat)} (h : SqL K H a (ts.map VT)) (ht : Asc t) (hs : ∀ t ∈ ts, Asc t) (q : Q (.bl (decide (t ∈ ts))) H) : rInD K (VT t) (.ref a) H Q :=
  ⟨.str (mkT t), _, .str (mkT t), .lst h (dp_texts ts), laid_shaped (laid_text ht), laid_shaped (laid_texts hs), by rw [any_text]; exact q⟩
theorem k_notInLT {t : List Nat} {a : Addr} {ts : List (List Nat)} (h : SqL K H a (ts.map VT)) (ht : Asc t) (hs : ∀ t ∈ ts, Asc t) (q : Q (.bl (!decide (t ∈ ts))) H) : rNotInD K (VT t) (.ref a) H Q :=
  ⟨.str (mkT t), _, .str (mkT t), .lst h (dp_texts ts), laid_shaped (laid_text ht), laid_shaped (laid_texts hs), by rw [any_text]; exact q⟩
theorem k_eqLT {a b : Addr} {ts us : List (List Nat)} (h1 : SqL K H a (ts.map VT)) (h2 : SqL K H b (us.map VT)) (ht : ∀ t ∈ ts, Asc t) (hu : ∀ t ∈ us, Asc t) (q : Q (.bl (decide (ts = us))) H) : rEqD K (.ref a) (.ref b) H Q :=
  k_eqD (.lst h1 (dp_texts ts)) (.lst h2 (dp_texts us)) (laid_texts ht) (laid_texts hu) (by rw [eqv_texts]; exact q)
theorem k_neLT {a b : Addr} {ts us : List (List Nat)} (h1 : SqL K H a (ts.map VT)) (h2 : SqL K H b (us.map VT)) (ht : ∀ t ∈ ts, Asc t) (hu : ∀ t ∈ us, Asc t) (q : Q (.bl (!decide (ts = us))) H) : rNeD K (.ref a) (.ref b) H Q :=
  k_neD (.lst h1 (dp_texts ts)) (.lst h2 (dp_texts us)) (laid_texts ht) (laid_texts hu) (by rw [eqv_texts]; exact q)
end
/-! small letters -/
theorem letters_list : lettersS.cps.toList = (List.range 26).map (· + 97) := by decide +kernel
theorem letter_mem {c : Nat} : c ∈ lettersS.cps.toList ↔ 97 ≤ c ∧ c ≤ 122 := by
  rw [letters_list, List.mem_map]
  constructor
  · rintro ⟨k, hk, rfl⟩
    rw [List.mem_range] at hk; omega
  · rintro ⟨h1, h2⟩
    exact ⟨c - 97, by rw [List.mem_range]; omega, by omega⟩
theorem letter_at {k : Nat} (h : k < 26) : lettersS.cps.toList[k]? = some (97 + k) := by
  rw [letters_list, List.getElem?_map, List.getElem?_range h, Option.map_some, Nat.add_comm]
theorem find_all : ∀ k : Fin 26, Txt.find lettersS (mkT [97 + k.val]) = (k.val : Int) := by decide +kernel
theorem find_letter {c : Nat} (h1 : 97 ≤ c) (h2 : c ≤ 122) : Txt.find lettersS (mkT [c]) = (c : Int) - 97 := by
  have := find_all ⟨c - 97, by omega⟩
  rw [show 97 + (⟨c - 97, by omega⟩ : Fin 26).val = c by show 97 + (c - 97) = c; omega] at this
  rw [this]
  show ((c - 97 : Nat) : Int) = _
  omega
theorem k_findL {H : Hp} {Q : VK} {c : Nat} (h1 : 97 ≤ c) (h2 : c ≤ 122) (q : Q (.int ((c : Int) - 97)) H) : rFindS (.str ("abcdefghijklmnopqrstuvwxyz" : Str)) [VT [c]] H Q := by
  refine k_findS ?_
  rw [show Txt.find ("abcdefghijklmnopqrstuvwxyz" : Str) (mkT [c]) = (c : Int) - 97 from find_letter h1 h2]
  exact q
/-- a text of small letters -/
def Ltr (t : List Nat) : Prop := ∀ c ∈ t, 97 ≤ c ∧ c ≤ 122
theorem Ltr.asc {t : List Nat} (h : Ltr t) : Asc t := fun c hc => by have := h c hc; omega
theorem isW_iff {t : List Nat} : IsW (mkT t) ↔ Ltr t ∧ t.length ≤ 40 := by
  unfold IsW Ltr
  rw [mkT_list, mkT_len]
  constructor
  · rintro ⟨h, k⟩; exact ⟨fun c hc => letter_mem.mp (h c hc), k⟩
  · rintro ⟨h, k⟩; exact ⟨fun c hc => letter_mem.mpr (h c hc), k⟩
theorem ltr_app {a b : List Nat} (h : Ltr a) (k : Ltr b) : Ltr (a ++ b) := fun c hc => (List.mem_append.mp hc).elim (h c) (k c)
theorem ltr_take {a : List Nat} (h : Ltr a) (n : Nat) : Ltr (a.take n) := fun c hc => h c (List.mem_of_mem_take hc)
theorem ltr_drop {a : List Nat} (h : Ltr a) (n : Nat) : Ltr (a.drop n) := fun c hc => h c (List.mem_of_mem_drop hc)
theorem ltr_nil : Ltr [] := fun c hc => by cases hc
/-! sorted texts -/
theorem rising_pw : ∀ {ys : List Str} {x : Str}, risingS x ys = true → (x :: ys).Pairwise fun a b => ¬ b.cps.toList < a.cps.toList
  | [], x, _ => List.pairwise_singleton _ _
  | y :: ys, x, h => by
    unfold risingS at h
    rw [Bool.and_eq_true, ltCps_eq] at h
    have hxy : ¬ y.cps.toList < x.cps.toList := by simpa using h.1
    have ih := rising_pw h.2
    refine List.pairwise_cons.mpr ⟨fun z hz => ?_, ih⟩
    rcases List.mem_cons.mp hz with e | e
    · rw [e]; exact hxy
    · intro q
      have h2 := (List.pairwise_cons.mp ih).1 z e
      exact List.not_lt.mpr (List.le_trans (List.not_lt.mp hxy) (List.not_lt.mp h2)) q
theorem srt_of {ys : List Str} (h : sortedS ys = true) (hn : ys.Nodup) : SrtW (ys.map fun z : Str => z.cps.toList) := by
  have hp : ys.Pairwise fun a b => ¬ b.cps.toList < a.cps.toList := by
    cases ys with
    | nil => exact .nil
    | cons y ys => exact rising_pw h
  unfold SrtW
  rw [List.pairwise_map]
  refine (hp.and hn).imp fun {a b} z => ?_
  rcases llt_tri a.cps.toList b.cps.toList with q | q | q
  · exact q
  · exact absurd (TL.ext_tl q) z.2
  · exact absurd q z.1
theorem k_modP {H : Hp} {Q : VK} {a b : Int} (hb : 0 < b) (q : ∀ r, 0 ≤ r → r < b → Q (.int r) H) : rMod (.int a) (.int b) H Q :=
  k_I hb (q _ (Int.emod_nonneg a (by omega)) (Int.emod_lt_of_pos a hb))
/-- a letter of the alphabet -/
theorem k_ixA {H : Hp} {Q : VK} {i : Int} (h0 : 0 ≤ i) (h1 : i < 26) (q : ∀ c, 97 ≤ c ∧ c ≤ 122 → Q (VT [c]) H) : rIxS (.str ("abcdefghijklmnopqrstuvwxyz" : Str)) (.int i) H Q :=
  ⟨_, i, 97 + i.toNat, rfl, rfl, by decide, at_int h0 (letter_at (by omega)), q _ (by omega)⟩
theorem k_slTakeI {H : Hp} {Q : VK} {t : List Nat} {e : Int} (h : 0 ≤ e) (hz : t.length ≤ 1000000) (q : Q (VT (t.take e.toNat)) H) : rSlS (VT t) none (some e) H Q := by
  obtain ⟨k, rfl⟩ := Int.eq_ofNat_of_zero_le h
  exact k_slTakeVT hz q
theorem k_slDropI {H : Hp} {Q : VK} {t : List Nat} {e : Int} (h : 0 ≤ e) (hz : t.length ≤ 1000000) (q : Q (VT (t.drop e.toNat)) H) : rSlS (VT t) (some e) none H Q := by
  obtain ⟨k, rfl⟩ := Int.eq_ofNat_of_zero_le h
  exact k_slDropVT hz q

/-- dicts: keys are numbers -/
def DGetK (Q : VK) (x y : V) (H : Hp) : Prop := ∃ a v, x = .ref a ∧ DGet H a y (some v) ∧ Q v H
theorem m_dget {td ty : TE} {σ : L2.St} {H : Hp} {Q : VK} (h : td σ H fun x H1 => ty σ H1 fun y H2 => DGetK Q x y H2) : tDGet td ty σ H Q := h
theorem k_dgetE {H : Hp} {Q : VK} {a : Addr} {kvs : List (Key × V)} {i : Int} {v : V} (e : H a = some (.dK kvs)) (hv : valV kvs (.inl i) = some v) (q : Q v H) : DGetK Q (.ref a) (.int i) H :=
  ⟨a, v, rfl, by rw [← hv]; exact DGet.k (k := .inl i) e, q⟩
def DPutK (nx : Hp → Prop) (x y v : V) (H : Hp) : Prop := ∃ a H4, x = .ref a ∧ DPut H a y v H4 ∧ nx H4
theorem m_dput {td ty tv : TE} {σ : L2.St} {H : Hp} {nx bk ct : L2.St → Hp → Prop} {rt : VK} (h : tv σ H fun v H1 => td σ H1 fun x H2 => ty σ H2 fun y H3 => DPutK (nx σ) x y v H3) : sDPut td ty tv (Ends.mk nx rt bk ct) σ H := h
theorem k_dputE {H : Hp} {nx : Hp → Prop} {a : Addr} {kvs : List (Key × V)} {i : Int} {v : V} (e : H a = some (.dK kvs)) (hl : kvs.length ≤ 100000) (q : nx (upd H a (.dK (putK kvs (.inl i) v)))) : DPutK nx (.ref a) (.int i) v H :=
  ⟨a, _, rfl, DPut.k (k := .inl i) e (Nat.lt_of_le_of_lt hl (by decide)), q⟩
/-- {i: v} -/
def Disp1K (p : Addr) (Q : VK) (x y : V) (H : Hp) : Prop := H p = some (.dK []) ∧ ∃ kvs : List (Key × V), [(x, y)] = kvs.map (fun kv => (kV kv.1, kv.2)) ∧ kvs.length ≤ 15 ∧ Q (.ref p) (upd H p (.dK (mergeK [] kvs)))
theorem m_disp1 {tk tv : TE} {σ : L2.St} {H : Hp} {Q : VK} (h : ∀ p, H p = none → tk σ (upd H p (.dK [])) fun x H1 => tv σ H1 fun y H2 => Disp1K p Q x y H2) : tDisp [(tk, tv)] σ H Q := h
theorem k_disp1E {p : Addr} {H : Hp} {Q : VK} {i : Int} {y : V} (e : H p = some (.dK [])) (q : Q (.ref p) (upd H p (.dK [(.inl i, y)]))) : Disp1K p Q (.int i) y H := ⟨e, [(.inl i, y)], rfl, by simp, q⟩
theorem Same.mutD {H H' : Hp} {p : Addr} {o : HO} (e : Same H H') (h : H p = none) {kvs : List (Key × V)} (hl : H' p = some (.dK kvs)) : Same H (upd H' p o) := by
  refine ⟨fun b x hb n => by rw [upd_ne (ne_of_none hb h)]; exact e.keep b x hb n, fun b hb => e.gone b (NdefX.upd_none hb), fun P t => ?_⟩
  obtain ⟨ps, h1, ht, hc⟩ := e.tabs P t
  have np : ∀ {b : Addr} {u : HO}, H' b = some u → (∀ xs, u ≠ .dK xs) → b ≠ p := fun {b u} q d z => by
    subst z; rw [hl] at q; cases q; exact d _ rfl
  refine ⟨ps, by rw [upd_ne (np h1 fun _ z => nomatch z)]; exact h1, ht, fun pos cv q => ?_⟩
  obtain ⟨c, e1, e2⟩ := hc pos cv q
  exact ⟨c, e1, by rw [upd_ne (np e2 fun _ z => by unfold LamX.CodeO at z; cases z)]; exact e2⟩
theorem m_dnew {H : Hp} {σ : L2.St} {Q : VK} (h : ∀ p, H p = none → Q (.ref p) (upd H p (.dK []))) : tDNewK σ H Q := h
theorem Same.mutG {H H' : Hp} {p : Addr} {o o' : HO} (e : Same H H') (h : H p = none) (hl : H' p = some o') (n1 : ∀ ps, o' ≠ .tbl ps) (n2 : ∀ φ, o' ≠ .ext φ) : Same H (upd H' p o) := by
  refine ⟨fun b x hb n => by rw [upd_ne (ne_of_none hb h)]; exact e.keep b x hb n, fun b hb => e.gone b (NdefX.upd_none hb), fun P t => ?_⟩
  obtain ⟨ps, h1, ht, hc⟩ := e.tabs P t
  have np : ∀ {b : Addr} {u : HO}, H' b = some u → u ≠ o' → b ≠ p := fun {b u} q d z => by
    subst z; rw [hl] at q; exact d (Option.some.inj q).symm
  refine ⟨ps, by rw [upd_ne (np h1 fun z => n1 _ z.symm)]; exact h1, ht, fun pos cv q => ?_⟩
  obtain ⟨c, e1, e2⟩ := hc pos cv q
  exact ⟨c, e1, by rw [upd_ne (np e2 fun z => by unfold LamX.CodeO at z; exact n2 _ z.symm)]; exact e2⟩
theorem putK_mem {kvs : List (Key × V)} {k : Key} {v : V} {p : Key × V} (h : p ∈ putK kvs k v) : p.1 = k ∨ ∃ q ∈ kvs, q.1 = p.1 := by
  unfold putK at h
  split at h
  · obtain ⟨q, hq, e⟩ := List.mem_map.mp h
    refine .inr ⟨q, hq, ?_⟩
    rw [← e]
    split <;> rfl
  · rcases List.mem_append.mp h with z | z
    · exact .inr ⟨p, z, rfl⟩
    · rw [List.mem_singleton.mp z]; exact .inl rfl
theorem valV_mem {kvs : List (Key × V)} {k : Key} {v : V} (h : valV kvs k = some v) : ∃ q ∈ kvs, q.1 = k := by
  unfold valV at h
  obtain ⟨q, hq, _⟩ := Option.map_eq_some_iff.mp h
  exact ⟨q, List.mem_of_find?_eq_some hq, by simpa using List.find?_some hq⟩
/-- x in d -/
def DInK (Q : VK) (y x : V) (H : Hp) : Prop := ∃ a o, x = .ref a ∧ DGet H a y o ∧ Q (.bl o.isSome) H
theorem m_din {ty td : TE} {σ : L2.St} {H : Hp} {Q : VK} (h : ty σ H fun y H1 => td σ H1 fun x H2 => DInK Q y x H2) : tDIn ty td σ H Q := h
theorem k_dinE {H : Hp} {Q : VK} {a : Addr} {kvs : List (Key × V)} {i : Int} (e : H a = some (.dK kvs)) (q : Q (.bl (valV kvs (.inl i)).isSome) H) : DInK Q (.int i) (.ref a) H := ⟨a, _, rfl, DGet.k (k := .inl i) e, q⟩
def KeysK (R : It → Hp → Prop) (x : V) (H1 : Hp) : Prop := ∃ d o, x = .ref d ∧ ((∃ kvs, H1 d = some (.frz o (.dK kvs)) ∧ R (Itk d o kvs) H1) ∨ ∃ kvs, H1 d = some (.frz o (.dT kvs)) ∧ R (Itkt d o kvs) H1)
theorem m_keys {td : TE} {σ : L2.St} {H : Hp} {R : It → Hp → Prop} (h : td σ H (KeysK R)) : iKeys td σ H R := h
theorem k_keysE {R : It → Hp → Prop} {d : Addr} {o : Obj} {kvs : List (Key × V)} {H : Hp} (e : H d = some (.frz o (.dK kvs))) (q : R (Itk d o kvs) H) : KeysK R (.ref d) H := ⟨d, o, rfl, .inl ⟨kvs, e, q⟩⟩
theorem m_lockE {t : TE} {σ : L2.St} {H : Hp} {Q : VK} {d : Addr} {kvs : List (Key × V)} (e : H d = some (.dK kvs)) (h : ∀ od, t σ (upd H d (.frz od (.dK kvs))) fun v H' => H' d = some (.frz od (.dK kvs)) ∧ Q v (upd H' d (.dK kvs))) : tLockE t σ H Q := ⟨d, _, e, trivial, h⟩

/-! a new list grows: what else is there stays -/
theorem k_appP {G H : Hp} {Q : VK} {l : Addr} {xs : List V} {y : V} (s : Same G H) (hp : G l = none) (h : H l = some (.lst xs)) (hl : xs.length < 100000) (q : ∀ H', Same G H' → (∀ b u, b ≠ l → H b = some u → H' b = some u) → H' l = some (.lst (xs ++ [y])) → Q .non H') : rAppend (.ref l) [y] H Q :=
  k_app h hl (q _ (s.mut hp ⟨_, h⟩) (fun b u n e => (upd_ne n).trans e) upd_same)
theorem k_appI {G H : Hp} {Q : VK} {l : Addr} {xs : List Int} {y : Int} (s : Same G H) (hp : G l = none) (h : H l = some (.lst (xs.map V.int))) (hl : xs.length < 100000) (q : ∀ H', Same G H' → (∀ b u, b ≠ l → H b = some u → H' b = some u) → H' l = some (.lst ((xs ++ [y]).map V.int)) → Q .non H') : rAppend (.ref l) [.int y] H Q :=
  k_appP s hp h (by rw [List.length_map]; exact hl) fun H' s' n e => q H' s' n (by rw [e, List.map_append]; rfl)
/-- a new list's item is set -/
theorem m_setI {G H : Hp} {Qh : Hp → Prop} {p : Addr} {xs : List Int} {k y : Int} {j : Nat} (s : Same G H) (hp : G p = none) (h : H p = some (.lst (xs.map V.int))) (hj : ixN xs.length k = some j) (q : ∀ H', Same G H' → (∀ b u, b ≠ p → H b = some u → H' b = some u) → H' p = some (.lst ((xs.set j y).map V.int)) → Qh H') : rSetL (.ref p) (.int k) (.int y) H Qh :=
  m_setL h (by rw [List.length_map]; exact hj) (q _ (s.mut hp ⟨_, h⟩) (fun b u n e => (upd_ne n).trans e) (by rw [upd_same, List.map_set]))
theorem ixN_last {n : Nat} (h : 0 < n) : ixN n (-1) = some (n - 1) := by
  unfold ixN; rw [if_neg (by decide), if_pos (by omega)]
  congr 1; omega

/-- cuts, joins and repeats of lists of ints -/
theorem k_slTake {K : PySem.W.Frag} {H : Hp} {Q : VK} {p : Addr} {bs : List Int} {k : Nat} (h : SqL K H p (bs.map V.int)) (q : ∀ l H', H l = none → Same H H' → H' l = some (.lst ((bs.take k).map V.int)) → Q (.ref l) H') : rSlL K (.ref p) none (some (k : Int)) H Q := by
  refine k_slL h fun l hl => ?_
  rw [cutTake, ← List.map_take]
  exact q l _ hl (same_new hl) upd_same
theorem k_slDrop {K : PySem.W.Frag} {H : Hp} {Q : VK} {p : Addr} {bs : List Int} {k : Nat} (h : SqL K H p (bs.map V.int)) (q : ∀ l H', H l = none → Same H H' → H' l = some (.lst ((bs.drop k).map V.int)) → Q (.ref l) H') : rSlL K (.ref p) (some (k : Int)) none H Q := by
  refine k_slL h fun l hl => ?_
  rw [cutDrop, ← List.map_drop]
  exact q l _ hl (same_new hl) upd_same
theorem new_both {H : Hp} {p : Addr} {o : HO} (h : H p = none) : Same H (upd H p o) ∧ (upd H p o) p = some o := ⟨same_new h, upd_same⟩
theorem k_catI {H : Hp} {Q : VK} {a b : Addr} {xs ys : List Int} (h1 : H a = some (.lst (xs.map V.int))) (h2 : H b = some (.lst (ys.map V.int))) (hn : xs.length + ys.length ≤ 1000000) (q : ∀ l H', H l = none → Same H H' → H' l = some (.lst ((xs ++ ys).map V.int)) → Q (.ref l) H') : rCat (.ref a) (.ref b) H Q := by
  refine k_cat h1 h2 (by rw [List.length_map, List.length_map]; exact hn) fun p hp => ?_
  rw [← List.map_append]
  exact q p _ hp (same_new hp) upd_same
theorem k_catKI {K : PySem.W.Frag} {H : Hp} {Q : VK} {a b : Addr} {xs ys : List Int} (h1 : SqL K H a (xs.map V.int)) (h2 : SqL K H b (ys.map V.int)) (hn : xs.length + ys.length ≤ 1000000) (q : ∀ l H', H l = none → Same H H' → H' l = some (.lst ((xs ++ ys).map V.int)) → Q (.ref l) H') : rCatK K (.ref a) (.ref b) H Q := by
  refine k_catK h1 h2 (by rw [List.length_map, List.length_map]; exact hn) fun p hp => ?_
  rw [← List.map_append]
  exact q p _ hp (same_new hp) upd_same
theorem k_repI {H : Hp} {Q : VK} {a : Addr} {xs : List Int} {n : Int} (h : H a = some (.lst (xs.map V.int))) (h0 : 0 ≤ n ∧ n ≤ 1000000) (hn : xs.length * n.toNat ≤ 1000000) (q : ∀ l H' (cs : List Int), H l = none → Same H H' → cs = (List.replicate n.toNat xs).flatten → cs.length = n.toNat * xs.length → H' l = some (.lst (cs.map V.int)) → Q (.ref l) H') : rRep (.ref a) (.int n) H Q := by
  obtain ⟨m, rfl⟩ := Int.eq_ofNat_of_zero_le h0.1
  rw [Int.toNat_natCast] at hn q
  refine k_rep h (by rw [List.length_map]; exact hn) (by omega) fun p hp => ?_
  have e : (List.replicate m (xs.map V.int)).flatten = ((List.replicate m xs).flatten).map V.int := by
    rw [List.map_flatten, List.map_replicate]
  rw [e]
  refine q p _ _ hp (same_new hp) rfl ?_ upd_same
  rw [List.length_flatten, List.map_replicate, List.sum_replicate_nat]
/-- a number in a tuple of numbers -/
theorem k_inT {K : PySem.W.Frag} {H : Hp} {Q : VK} {p : Addr} {x : Int} {xs : List V} (h : H p = some (.tup xs)) (hf : xs.all flatV = true) (q : ∀ b, Q (.bl b) H) : rIn K false (.int x) (.ref p) H Q := ⟨p, xs, rfl, .inr (.of h), rfl, hf, q _⟩

/-- list(range(n)) -/
def ints0 (n : Nat) : List Int := (List.range n).map fun i : Nat => (i : Int)
theorem ints0_len (n : Nat) : (ints0 n).length = n := by unfold ints0; rw [List.length_map, List.length_range]
def Rg1K (Q : VK) (x : V) (H : Hp) : Prop := ∃ n, x = .int n ∧ RgOk 0 n ∧ ∀ q, H q = none → Q (.ref q) (upd H q (.lst (rgV 0 n)))
theorem k_lstRg {ta : TE} {σ : L2.St} {H : Hp} {Q : VK} (h : ta σ H (Rg1K Q)) : tLstRg (tRg1 ta) σ H Q := h
theorem k_lstRgE {H : Hp} {Q : VK} {n : Int} (h0 : 0 ≤ n ∧ n ≤ 1000000) (q : ∀ l H', H l = none → Same H H' → H' l = some (.lst ((ints0 n.toNat).map V.int)) → Q (.ref l) H') : Rg1K Q (.int n) H := by
  refine ⟨n, rfl, RgOk.of_le (by omega) (by omega) (by omega) (by omega), fun p hp => ?_⟩
  have e : rgV 0 n = (ints0 n.toNat).map V.int := by
    unfold rgV ints0
    rw [Int.sub_zero, List.map_map]
    congr 1
    funext i
    show V.int (0 + (i : Int)) = V.int (i : Int)
    rw [Int.zero_add]
  rw [e]
  exact q p _ hp (same_new hp) upd_same

/-! ### a dict of texts -/
abbrev KT (t : List Nat) : Key := .inr (mkT t)
theorem KT_inj {a b : List Nat} (h : KT a = KT b) : a = b := by
  injection h with h; exact mkT_inj h
structure KnT (kvs : List (Key × V)) (ts : List (List Nat)) : Prop where
  keys : kvs.map (·.1) = ts.map KT
  nd : ts.Nodup
theorem KnT.len {kvs : List (Key × V)} {ts : List (List Nat)} (h : KnT kvs ts) : kvs.length = ts.length := by
  have := congrArg List.length h.keys
  rwa [List.length_map, List.length_map] at this
theorem KnT.put {kvs : List (Key × V)} {ts : List (List Nat)} (h : KnT kvs ts) (t : List Nat) (v : V) : ∃ us, KnT (putK kvs (KT t) v) us ∧ (∀ x, x ∈ us ↔ x ∈ ts ∨ x = t) ∧ us.length ≤ ts.length + 1 := by
  have hany : (kvs.any fun kv => decide (kv.1 = KT t)) = true ↔ t ∈ ts := by
    rw [List.any_eq_true]
    constructor
    · rintro ⟨kv, hkv, e⟩
      have : kv.1 ∈ ts.map KT := by rw [← h.keys]; exact List.mem_map_of_mem hkv
      obtain ⟨u, hu, eu⟩ := List.mem_map.mp this
      rw [← eu] at e
      rw [← KT_inj (of_decide_eq_true e)]; exact hu
    · intro ht
      have : KT t ∈ kvs.map (·.1) := by rw [h.keys]; exact List.mem_map_of_mem ht
      obtain ⟨kv, hkv, e⟩ := List.mem_map.mp this
      exact ⟨kv, hkv, decide_eq_true e⟩
  unfold putK
  by_cases c : t ∈ ts
  · rw [if_pos (hany.mpr c)]
    refine ⟨ts, ⟨?_, h.nd⟩, fun x => ⟨.inl, fun z => z.elim id fun e => by rw [e]; exact c⟩, Nat.le_succ _⟩
    rw [← h.keys, List.map_map]
    refine List.map_congr_left fun kv _ => ?_
    show (if kv.1 = KT t then (kv.1, v) else kv).1 = kv.1
    split <;> rfl
  · rw [if_neg fun z => c (hany.mp z)]
    refine ⟨ts ++ [t], ⟨?_, ?_⟩, fun x => by simp, by simp⟩
    · rw [List.map_append, List.map_append, h.keys]; rfl
    · exact List.nodup_append.mpr ⟨h.nd, by simp, fun u hu w hw e => by rw [List.mem_singleton.mp hw] at e; rw [e] at hu; exact c hu⟩
theorem KnT.vals {kvs : List (Key × V)} {ts : List (List Nat)} (h : KnT kvs ts) : (kvs.map fun kv => kV kv.1) = ts.map VT := by
  have := congrArg (List.map kV) h.keys
  rw [List.map_map, List.map_map] at this
  exact this
theorem k_disp1S {p : Addr} {H : Hp} {Q : VK} {t : List Nat} {y : V} (e : H p = some (.dK [])) (q : ∀ H', H' = upd H p (.dK [(KT t, y)]) → Q (.ref p) H') : Disp1K p Q (VT t) y H := ⟨e, [(KT t, y)], rfl, by simp, q _ rfl⟩
theorem k_dputS {G H : Hp} {nx : Hp → Prop} {a : Addr} {kvs : List (Key × V)} {ts : List (List Nat)} {t : List Nat} {v : V} (s : Same G H) (hp : G a = none) (e : H a = some (.dK kvs)) (k : KnT kvs ts) (hl : ts.length ≤ 100000) (q : ∀ H' kvs' us, Same G H' → (∀ b u, b ≠ a → H b = some u → H' b = some u) → H' a = some (.dK kvs') → KnT kvs' us → (∀ x, x ∈ us ↔ x ∈ ts ∨ x = t) → us.length ≤ ts.length + 1 → nx H') : DPutK nx (.ref a) (VT t) v H := by
  obtain ⟨us, k', m, l⟩ := k.put t v
  refine ⟨a, _, rfl, DPut.k (k := KT t) e (Nat.lt_of_le_of_lt (by rw [k.len]; exact hl) (by decide)), q _ _ us (s.mutD hp e) (fun b u n e => (upd_ne n).trans e) upd_same k' m l⟩
/-- the beginnings of words, as they are written down -/
theorem known_step {us : List (List Nat)} {w x : List Nat} : ((x = [] ∨ ∃ v ∈ us, x <+: v) ∨ ∃ m, m < w.length ∧ x = w.take (m + 1)) ↔ (x = [] ∨ ∃ v ∈ us ++ [w], x <+: v) := by
  constructor
  · rintro ((e | ⟨v, hv, p⟩) | ⟨m, hm, rfl⟩)
    · exact .inl e
    · exact .inr ⟨v, List.mem_append_left _ hv, p⟩
    · exact .inr ⟨w, by simp, List.take_prefix _ _⟩
  · rintro (e | ⟨v, hv, p⟩)
    · exact .inl (.inl e)
    · rcases List.mem_append.mp hv with z | z
      · exact .inl (.inr ⟨v, z, p⟩)
      · rw [List.mem_singleton.mp z] at p
        by_cases c : x = []
        · exact .inl (.inl c)
        · have h1 := p.length_le
          have h0 : 0 < x.length := List.length_pos_iff.mpr c
          exact .inr ⟨x.length - 1, by omega, by rw [show x.length - 1 + 1 = x.length by omega]; exact List.prefix_iff_eq_take.mp p⟩
/-- sorted texts, each once -/
theorem sorted_texts {ys : List Str} {ts : List (List Nat)} (hp : ys.Perm (ts.map mkT)) (hs : sortedS ys = true) (hn : ts.Nodup) : SrtW (ys.map fun z : Str => z.cps.toList) ∧ (∀ x, x ∈ (ys.map fun z : Str => z.cps.toList) ↔ x ∈ ts) ∧ (ys.map fun z : Str => z.cps.toList).length = ts.length := by
  have hnd : (ts.map mkT).Nodup := by
    rw [List.Nodup, List.pairwise_map]
    exact hn.imp fun {a b} n e => n (mkT_inj e)
  refine ⟨srt_of hs (hp.nodup_iff.mpr hnd), fun x => ?_, by rw [List.length_map, hp.length_eq, List.length_map]⟩
  rw [List.mem_map]
  constructor
  · rintro ⟨z, hz, rfl⟩
    obtain ⟨t, ht, rfl⟩ := List.mem_map.mp (hp.mem_iff.mp hz)
    exact ht
  · intro ht
    exact ⟨mkT x, hp.mem_iff.mpr (List.mem_map_of_mem ht), rfl⟩
/-- sorted(a list of texts) -/
theorem k_sortedT {K : PySem.W.Frag} {H : Hp} {Q : VK} {a : Addr} {ts : List (List Nat)} (h : SqL K H a (ts.map VT)) (hn : ts.Nodup) (q : ∀ (us : List (List Nat)) p H', SrtW us → (∀ x, x ∈ us ↔ x ∈ ts) → us.length = ts.length → H p = none → Same H H' → H' p = some (.lst (us.map VT)) → Q (.ref p) H') : rSortedSA K [.ref a] H Q := by
  rw [map_VT] at h
  refine k_sortedSA h fun ys p hpm hsrt hp => ?_
  obtain ⟨h1, h2, h3⟩ := sorted_texts hpm hsrt hn
  rw [strs_VT]
  exact q _ p _ h1 h2 h3 hp (same_new hp) upd_same
/-- all beginnings of words: the texts of the nodes -/
def IsNodes (ws ts : List (List Nat)) : Prop := SrtW ts ∧ ∀ x, x ∈ ts ↔ x = [] ∨ ∃ w ∈ ws, x <+: w
structure Ordd (xs ws : List (List Nat)) : Prop where
  srt : SrtW ws
  mem : ∀ t, t ∈ ws ↔ t ∈ xs
  len : ws.length = xs.length
theorem IsNodes.eq {xs ws ts : List (List Nat)} (h : IsNodes xs ts) (o : Ordd xs ws) : ts = nodesL ws :=
  srt_uniq h.1 (nodesL_sorted o.srt) fun x => by
    rw [h.2 x, mem_nodesL o.srt]
    constructor
    · rintro (e | ⟨w, hw, p⟩)
      · exact .inl e
      · exact .inr ⟨w, (o.mem w).mpr hw, p⟩
    · rintro (e | ⟨w, hw, p⟩)
      · exact .inl e
      · exact .inr ⟨w, (o.mem w).mp hw, p⟩

/-- blocks filled with the first i bits, zeroes behind -/
def part (bs : List Int) (n i : Nat) : List Int := blksN (bs.take i) n
theorem blk_nil : blk [] = 0 := rfl
theorem blk_snoc : ∀ (bs : List Int) (b : Int), blk (bs ++ [b]) = blk bs + b * 2 ^ bs.length
  | [], b => by show b + 2 * 0 = 0 + b * 2 ^ 0; simp
  | c :: bs, b => by
    show c + 2 * blk (bs ++ [b]) = c + 2 * blk bs + b * 2 ^ (bs.length + 1)
    rw [blk_snoc bs b, Int.pow_succ, Int.mul_add, ← Int.mul_assoc 2 b, Int.mul_comm 2 b, Int.mul_assoc b, Int.mul_comm 2 (2 ^ bs.length), Int.add_assoc]
theorem part_zero (bs : List Int) (n : Nat) : part bs n 0 = List.replicate n 0 := by
  unfold part
  rw [List.take_zero]
  induction n with
  | zero => rfl
  | succ n ih => show blk [] :: blksN [] n = _; rw [ih]; rfl
theorem part_full (bs : List Int) : part bs ((bs.length + 31) / 32) bs.length = blks bs := by
  unfold part blks; rw [List.take_length]
theorem part_len (bs : List Int) (n i : Nat) : (part bs n i).length = n := blksN_len _ _
theorem part_get (bs : List Int) (n i j : Nat) (h : j < n) : (part bs n i)[j]? = some (blk (((bs.take i).drop (32 * j)).take 32)) := blksN_get _ _ _ h
/-- one bit more: only its own block turns -/
theorem part_succ {bs : List Int} {n i : Nat} {b : Int} (hb : bs[i]? = some b) (hn : i / 32 < n) :
    part bs n (i + 1) = (part bs n i).set (i / 32) ((part bs n i).getD (i / 32) 0 + b * 2 ^ (i % 32)) := by
  have hi : i < bs.length := (List.getElem?_eq_some_iff.mp hb).1
  apply List.ext_getElem?
  intro j
  rw [List.getElem?_set, part_len]
  rcases Nat.lt_or_ge j n with hj | hj
  · rw [part_get _ _ _ _ hj]
    have et : bs.take (i + 1) = bs.take i ++ [b] := by rw [List.take_add_one, hb]; rfl
    have hl : (bs.take i).length = i := by rw [List.length_take]; omega
    rw [et]
    by_cases h : i / 32 = j
    · subst h
      rw [if_pos rfl, if_pos hn, List.getD_eq_getElem?_getD, part_get _ _ _ _ hn]
      have hd : ((bs.take i).drop (32 * (i / 32))).length = i % 32 := by rw [List.length_drop, hl]; omega
      have e2 : ((bs.take i).drop (32 * (i / 32))).take 32 = (bs.take i).drop (32 * (i / 32)) := List.take_of_length_le (by rw [hd]; omega)
      have e1 : ((bs.take i).drop (32 * (i / 32)) ++ [b]).take 32 = (bs.take i).drop (32 * (i / 32)) ++ [b] := List.take_of_length_le (by rw [List.length_append, hd]; simp; omega)
      rw [List.drop_append_of_le_length (by rw [hl]; omega), e1, e2, blk_snoc, hd]
      rfl
    · rw [if_neg h, part_get _ _ _ _ hj]
      congr 2
      rcases Nat.lt_or_ge j (i / 32) with l | l
      · rw [List.drop_append_of_le_length (by rw [hl]; omega), List.take_append_of_le_length (by rw [List.length_drop, hl]; omega)]
      · rw [List.drop_of_length_le (by rw [List.length_append, hl]; simp; omega), List.drop_of_length_le (by rw [hl]; omega)]
  · rw [List.getElem?_eq_none (by rw [part_len]; exact hj), if_neg (by omega), List.getElem?_eq_none (by rw [part_len]; exact hj)]
theorem part_range_take {bs : List Int} {i : Nat} (h : Bits (bs.take i)) {n j : Nat} (hj : j < n) (hi : i % 32 = i - 32 * j) (hij : 32 * j ≤ i) : 0 ≤ (part bs n i).getD j 0 ∧ (part bs n i).getD j 0 < 2 ^ (i % 32) := by
  rw [List.getD_eq_getElem?_getD, part_get _ _ _ _ hj]
  obtain ⟨h1, h2⟩ := blk_range _ ((h.drop (32 * j)).take 32)
  refine ⟨h1, Int.lt_of_lt_of_le h2 ?_⟩
  have : (((bs.take i).drop (32 * j)).take 32).length ≤ i % 32 := by rw [List.length_take, List.length_drop, List.length_take]; omega
  exact_mod_cast Nat.pow_le_pow_right (show 0 < 2 by decide) this
/-- a bit above a number -/
theorem or_high {x : Int} {k : Nat} (h0 : 0 ≤ x) (h1 : x < 2 ^ k) : Builtin.bitOr x (1 * 2 ^ k) = x + 1 * 2 ^ k := by
  have e := or_low (q := 1) (r := x) (k := k) (by decide) h0 h1
  rw [bitOr_nn h0 (by rw [Int.one_mul]; exact Int.le_of_lt (Int.pow_pos (by decide))), Nat.or_comm, ← bitOr_nn (by rw [Int.one_mul]; exact Int.le_of_lt (Int.pow_pos (by decide))) h0, e, Int.add_comm]

/-- packed(bits) -/
def sp_packed (K : PySem.W.Frag) : Sp := fun vs H Q E => ∃ (a : Addr) (bs : List Int), vs = [.ref a] ∧ SqL K H a (bs.map V.int) ∧ bs.length ≤ 100000 ∧
  (bs.length > 4096 → E (.ref (He.ga K "TooMany")) none H) ∧
  (bs.length ≤ 4096 → ¬ Bits bs → ∀ H', Same H H' → E (.ref (He.ga K "NoBit")) none H') ∧
  (bs.length ≤ 4096 → Bits bs → ∀ p H', H p = none → Same H H' → H' p = some (.lst ((blks bs).map V.int)) → Q (.ref p) H')
theorem len_packed (K : PySem.W.Frag) : ∀ vs H Q E, sp_packed K vs H Q E → vs.length = 1 := by
  rintro vs H Q E ⟨x, y, rfl, _⟩; rfl
def t_packed (K : PySem.W.Frag) (E : XK) : TS :=
  (tSeq (tIfS (tTest (tOp rGtI (tCB (rLen K) (tCons (tVar 0) tNil)) (tC (.int 4096))))
  (tRz (fun cls d _ H => E cls d H) (He.ga K "TooMany"))
  tNext)
  (tSeq (tAsg (tOp rRep (tLst (tCons (tC (.int 0)) tNil)) (tOp rDiv (tOp rMinus (tOp rPlus (tCB (rLen K) (tCons (tVar 0) tNil)) (tC (.int 32))) (tC (.int 1))) (tC (.int 32)))) (gName 1))
  (tSeq (tFor (iEnum K (tCons (tVar 0) tNil)) (gTup K 2 (gCons (gName 2) (gCons (gName 3) gNil)))
  (tSeq (tIfS (tAnd (tTest (tOp rNe (tVar 3) (tC (.int 0)))) (tTest (tOp rNe (tVar 3) (tC (.int 1)))))
  (tRz (fun cls d _ H => E cls d H) (He.ga K "NoBit"))
  tNext)
  (tIfS (tTest (tOp rEq (tVar 3) (tC (.int 1))))
  (tAsg (tOp rBitOr (tOp (rIxL K) (tVar 1) (tOp rDiv (tVar 2) (tC (.int 32)))) (tOp rShlW (tC (.int 1)) (tOp rMod (tVar 2) (tC (.int 32))))) (gSub (tVar 1) (tOp rDiv (tVar 2) (tC (.int 32))) rSetL))
  tNext)))
  (tRet (tVar 1)))))
abbrev n_packed : List Str := ["bits", "blocks", "at", "bit"]

theorem rd_packed (K : PySem.W.Frag) (vs : List V) (H : Hp) (Q : VK) (E : XK) (h : sp_packed K vs H Q E) : t_packed K E { nx := fun _ H' => Q .non H', rt := Q } (start n_packed vs) H := by
  obtain ⟨a, bs, rfl, hS, hl, q1, q2, q3⟩ := h
  unfold t_packed
  walk_at "st"
  refine k_lenL hS ?_
  walk_at "st"
  rw [List.length_map]
  walk_at "if" <;> intro c1
  · walk_at "st"
    exact q1 (by omega)
  have hm : bs.length ≤ 4096 := by omega
  walk_at "st"
  intro p0 hp0
  walk_at "st"
  refine k_lenL ((same_new hp0).seq hS) ?_
  walk_at "st"
  rw [List.length_map]
  have en : ((bs.length : Int) + 32 - 1) / 32 = (((bs.length + 31) / 32 : Nat) : Int) := by omega
  rw [en]
  refine k_rep (xs := [.int 0]) upd_same (by simp only [List.length_cons, List.length_nil]; omega) (by omega) fun p hp => ?_
  have hp' : H p = none := (same_new hp0).free hp
  have s0 := (same_new hp0).trans (same_new (o := .lst (List.replicate ((bs.length + 31) / 32) [V.int 0]).flatten) hp)
  walk_at "st"
  refine m_enumE (s0.seq hS) ?_
  refine loop_walk walk_enum (fun i σ H' => ∃ y z, σ = [some (.ref a), some (.ref p), y, z] ∧ i ≤ bs.length ∧ Same H H' ∧ H' p = some (.lst ((part bs ((bs.length + 31) / 32) i).map V.int)) ∧ Bits (bs.take i)) ⟨none, none, rfl, Nat.zero_le _, s0, ?_, fun x hx => by simp at hx⟩ (fun i σ H' ⟨y, z, _, _, s, _⟩ => s.seq hS) ?_ ?_
  · rw [upd_same, part_zero, List.map_replicate, rep_one]
  · rintro i v σ H1 H2 hi ⟨y, z, rfl, _, s, e, hb⟩ ⟨T, x, w, rfl, hT, rfl, ex, ew⟩
    rw [List.length_map] at hi
    obtain ⟨b, hbi, rfl⟩ := of_mapint ew
    obtain rfl : x = .int (i : Nat) := (Option.some.inj ex).symm
    have npT : p ≠ T := ne_of_none e hT
    have s2 : Same H (upd H1 T (.tup [.int (i : Nat), .int b])) := s.trans (same_new hT)
    have e2 : (upd H1 T (.tup [.int (i : Nat), .int b])) p = some (.lst ((part bs ((bs.length + 31) / 32) i).map V.int)) := by rw [upd_ne npT]; exact e
    refine m_gTup (.of upd_same) rfl ?_
    walk_at "st"
    have nobit : ∀ (c : ¬ (b = 0 ∨ b = 1)), ¬ Bits bs := fun c hB => c (hB b (List.mem_of_getElem? hbi))
    have go : (b = 0 ∨ b = 1) → Bits (bs.take (i + 1)) := by
      intro hb1 q hq
      rw [List.take_add_one, hbi] at hq
      rcases List.mem_append.mp hq with h | h
      · exact hb q h
      · have : q = b := by simpa using h
        subst this; exact hb1
    have hin : i / 32 < (bs.length + 31) / 32 := by omega
    walk_at "if" <;> intro c0
    · walk_at "st"
      walk_at "if" <;> intro c1
      · walk_at "st"
        exact q2 hm (nobit fun z => z.elim c0 c1) _ s2
      · walk_at "st"
        refine k_decT c1 ?_
        obtain rfl : b = 1 := c1
        walk_at "st"
        have hlt : i / 32 < ((part bs ((bs.length + 31) / 32) i)).length := by rw [part_len]; exact hin
        refine k_ixL (.of e2) (at_int (by omega) (i := ((i : Nat) : Int) / 32) (x := .int ((part bs ((bs.length + 31) / 32) i).getD (i / 32) 0)) ?_) ?_
        · rw [show (((i : Nat) : Int) / 32).toNat = i / 32 by omega, List.getD_eq_getElem?_getD, List.getElem?_eq_getElem hlt]
          exact mapint (List.getElem?_eq_getElem hlt)
        walk_at "st"
        have hsh : CShl 1 (((i : Nat) : Int) % 32) := by
          rw [show ((i : Nat) : Int) % 32 = ((i % 32 : Nat) : Int) by omega]
          exact shl_ok (n := 1) (by decide) (by omega)
        refine k_I hsh ?_
        walk_at "st"
        have hr := part_range_take hb (n := (bs.length + 31) / 32) (j := i / 32) hin (by omega) (by omega)
        have eor : Builtin.bitOr ((part bs ((bs.length + 31) / 32) i).getD (i / 32) 0) (1 * 2 ^ (((i : Nat) : Int) % 32).toNat) = (part bs ((bs.length + 31) / 32) i).getD (i / 32) 0 + 1 * 2 ^ (i % 32) := by
          rw [show (((i : Nat) : Int) % 32).toNat = i % 32 by omega]
          exact or_high hr.1 hr.2
        rw [eor]
        refine m_setL e2 (ixN_nat (by omega) (by rw [List.length_map, part_len]; omega)) ?_
        walk_at "st"
        refine ⟨_, _, rfl, hi, Same.mut s2 hp', ?_, go (.inr rfl)⟩
        rw [upd_same, show (((i : Nat) : Int) / 32).toNat = i / 32 by omega, part_succ hbi hin, List.map_set]
    · walk_at "st"
      obtain rfl : b = 0 := c0
      refine k_decF (by decide) ?_
      walk_at "st"
      refine ⟨_, _, rfl, hi, s2, ?_, go (.inl rfl)⟩
      rw [e2, part_succ hbi hin, Int.zero_mul, Int.add_zero]
      congr 2
      have hlt : i / 32 < ((part bs ((bs.length + 31) / 32) i)).length := by rw [part_len]; exact hin
      rw [List.getD_eq_getElem?_getD, List.getElem?_eq_getElem hlt]
      show _ = List.map V.int ((part bs ((bs.length + 31) / 32) i).set (i / 32) ((part bs ((bs.length + 31) / 32) i)[i / 32]))
      rw [List.set_getElem_self]
  · rintro σ H' ⟨y, z, rfl, _, s, e, hb⟩
    rw [List.length_map] at e hb
    walk_at "st"
    rw [List.take_length] at hb
    rw [part_full] at e
    exact q3 hm hb p H' hp' s e

/-- the ones among the first n bits of a row -/
def sumTo (bs : List Int) (n : Nat) : Int := (bs.take n).sum
theorem sumTo_succ (bs : List Int) (n : Nat) : sumTo bs (n + 1) = sumTo bs n + bs.getD n 0 := by
  unfold sumTo
  rw [List.take_add_one, List.sum_append, List.getD_eq_getElem?_getD]
  cases bs[n]? <;> simp
theorem sumTo_all (bs : List Int) {n : Nat} (h : bs.length ≤ n) : sumTo bs n = bs.sum := by
  unfold sumTo; rw [List.take_of_length_le h]
theorem sumTo_zero (bs : List Int) : sumTo bs 0 = 0 := rfl
/-- the ones of a block's first bits -/
theorem onesIn_blks {bs : List Int} (h : Bits bs) {j : Nat} {b : Int} (e : (blks bs)[j]? = some b) : ∀ k, k ≤ 32 → onesIn b k = sumTo bs (32 * j + k) - sumTo bs (32 * j)
  | 0, _ => by rw [Nat.add_zero]; show (0 : Int) = _; omega
  | k + 1, hk => by
    show onesIn b k + bit b k = _
    rw [onesIn_blks h e k (by omega), bit_blks h e (by omega), show 32 * j + (k + 1) = (32 * j + k) + 1 by omega, sumTo_succ]; omega

/-- the ones ahead of the first n blocks -/
def aheadN (bs : List Int) (n : Nat) : List Int := (List.range n).map fun j => sumTo bs (32 * j)
theorem aheadN_len (bs : List Int) (n : Nat) : (aheadN bs n).length = n := by unfold aheadN; simp
theorem aheadN_get (bs : List Int) {n j : Nat} (h : j < n) : (aheadN bs n)[j]? = some (sumTo bs (32 * j)) := by unfold aheadN; simp [h]
theorem aheadN_succ (bs : List Int) (n : Nat) : aheadN bs (n + 1) = aheadN bs n ++ [sumTo bs (32 * n)] := by unfold aheadN; rw [List.range_succ, List.map_append]; rfl
/-- the table of a row: the ones ahead of each block, and all -/
def aheadT (bs : List Int) : List Int := aheadN bs ((bs.length + 31) / 32 + 1)
theorem aheadT_len (bs : List Int) : (aheadT bs).length = (bs.length + 31) / 32 + 1 := aheadN_len _ _
theorem aheadT_get (bs : List Int) {j : Nat} (h : j ≤ (bs.length + 31) / 32) : (aheadT bs)[j]? = some (sumTo bs (32 * j)) := aheadN_get bs (by omega)
theorem sumTo_add (bs : List Int) (n m : Nat) : sumTo bs (n + m) = sumTo bs n + ((bs.drop n).take m).sum := by
  unfold sumTo; rw [List.take_add, List.sum_append]
theorem getD_bit {bs : List Int} (h : Bits bs) (k : Nat) : bs.getD k 0 = 0 ∨ bs.getD k 0 = 1 := by
  rw [List.getD_eq_getElem?_getD]
  cases e : bs[k]? with
  | none => exact .inl rfl
  | some b => exact h b (List.mem_of_getElem? e)
theorem sumTo_mono1 {bs : List Int} (h : Bits bs) (n : Nat) : sumTo bs n ≤ sumTo bs (n + 1) ∧ sumTo bs (n + 1) ≤ sumTo bs n + 1 := by
  rw [sumTo_succ]; have := getD_bit h n; omega
theorem sumTo_mono {bs : List Int} (h : Bits bs) {n m : Nat} (l : n ≤ m) : sumTo bs n ≤ sumTo bs m := by
  induction m with
  | zero => rw [show n = 0 by omega]; exact Int.le_refl _
  | succ m ih =>
    rcases Nat.lt_or_ge m n with z | z
    · rw [show n = m + 1 by omega]; exact Int.le_refl _
    · have := ih z; have := sumTo_mono1 h m; omega
theorem sumTo_range {bs : List Int} (h : Bits bs) (n : Nat) : 0 ≤ sumTo bs n ∧ sumTo bs n ≤ n := by
  induction n with
  | zero => exact ⟨Int.le_refl _, Int.le_refl _⟩
  | succ n ih => have := sumTo_mono1 h n; omega
theorem blks_getD {bs : List Int} {j : Nat} (h : j < (bs.length + 31) / 32) : (blks bs)[j]? = some ((blks bs).getD j 0) := by
  rw [List.getD_eq_getElem?_getD, List.getElem?_eq_getElem (by rw [blks_len]; exact h)]; rfl

/-! ### promises -/
/-- ones_in(b, u) -/
def sp_ones_in (_ : PySem.W.Frag) : Sp := fun vs H Q _ => ∃ (b : Int) (u : Nat), vs = [.int b, .int (u : Int)] ∧ u ≤ 1000 ∧ ∀ H', Same H H' → Q (.int (onesIn b u)) H'
theorem len_ones_in (K : PySem.W.Frag) : ∀ vs H Q E, sp_ones_in K vs H Q E → vs.length = 2 := by
  rintro vs H Q E ⟨b, u, rfl, _⟩; rfl
def t_ones_in (K : PySem.W.Frag) : TS :=
  (tRet (tCB (rSum K) (tCons (tLc (iRng1 (tCons (tVar 1) tNil)) (gName 2) tYes (tOp rAnd1 (tOp rShr (tVar 0) (tVar 2)) (tC (.int 1))) [2]) tNil)))
abbrev n_ones_in : List Str := ["block", "upto", "k"]

theorem rd_ones_in (K : PySem.W.Frag) (vs : List V) (H : Hp) (Q : VK) (E : XK) (h : sp_ones_in K vs H Q E) : t_ones_in K { nx := fun _ H' => Q .non H', rt := Q } (start n_ones_in vs) H := by
  obtain ⟨b, u, rfl, hu, q⟩ := h
  unfold t_ones_in
  walk_at "st"
  refine comp_rangeV (n := u) (f := fun k => .int (bit b k)) (by omega) (fun k H2 Q2 _ _ q2 => ?_) (fun p H' _ s e => ?_)
  · walk_at "st"
    exact q2 _ (Same.refl _)
  · walk_at "st"
    refine k_sum (ns := (List.range u).map fun k => bit b k) (.of ?_) ?_
    · rw [e, List.map_map]; rfl
    · rw [onesIn_sum]; walk_at "st"; exact q _ s

/-- ones_table(blocks), the blocks of a row -/
def sp_ones_table (K : PySem.W.Frag) : Sp := fun vs H Q _ => ∃ (a : Addr) (bs : List Int), vs = [.ref a] ∧ H a = some (.lst ((blks bs).map V.int)) ∧ bs.length ≤ 5000 ∧ Bits bs ∧ ∀ p H', H p = none → Same H H' → H' p = some (.tup ((aheadT bs).map V.int)) → Q (.ref p) H'
theorem len_ones_table (K : PySem.W.Frag) : ∀ vs H Q E, sp_ones_table K vs H Q E → vs.length = 1 := by
  rintro vs H Q E ⟨a, bs, rfl, _⟩; rfl
def t_ones_table (K : PySem.W.Frag) : TS :=
  (tSeq (tAsg (tLst (tCons (tC (.int 0)) tNil)) (gName 1))
  (tSeq (tFor (iList K (tVar 0)) (gName 2)
  (tDrop (tBM K "list" rAppend (tVar 1) (tCons (tOp rPlus (tOp (rIxL K) (tVar 1) (tUn rNeg (tC (.int 1)))) (tCall (sp_ones_in K) [] E0 (tCons (tVar 2) (tCons (tC (.int 32)) tNil)))) tNil))))
  (tRet (tCB (rTupOf K) (tCons (tVar 1) tNil)))))
abbrev n_ones_table : List Str := ["blocks", "ahead", "block"]

theorem rd_ones_table (K : PySem.W.Frag) (vs : List V) (H : Hp) (Q : VK) (E : XK) (h : sp_ones_table K vs H Q E) : t_ones_table K { nx := fun _ H' => Q .non H', rt := Q } (start n_ones_table vs) H := by
  obtain ⟨a, bs, rfl, hS, hl, hB, q⟩ := h
  unfold t_ones_table
  walk_at "st"
  intro p hp
  walk_at "st"
  refine m_iLe (.of ((same_new hp).get hS)) ?_
  refine loop_ints (ns := blks bs) (fun i σ H' => ∃ y, σ = [some (.ref a), some (.ref p), y] ∧ i ≤ (blks bs).length ∧ Same H H' ∧ H' p = some (.lst ((aheadN bs (i + 1)).map V.int))) ⟨none, rfl, Nat.zero_le _, same_new hp, by rw [upd_same]; rfl⟩ (fun i σ H' ⟨_, _, _, s, _⟩ => .of (s.get hS)) ?_ ?_
  · rintro i x σ H' hx ⟨y, rfl, hi, s, e⟩
    have hlt : i < (blks bs).length := (List.getElem?_eq_some_iff.mp hx).1
    have hlt2 := hlt
    rw [blks_len] at hlt2
    walk_at "st"
    refine k_tyL (.of e) ?_
    walk_at "st"
    refine k_ixL (.of e) (x := .int (sumTo bs (32 * i))) (by rw [aheadN_succ, List.map_append]; exact atI_last _ _) ?_
    walk_at "st"
    refine ⟨x, 32, rfl, by decide, fun H2 s2 => ?_⟩
    walk_at "st"
    refine k_app (s2.get e) (by rw [List.length_map, aheadN_len]; omega) ?_
    walk_at "st"
    have e2 := s2.get e
    refine ⟨_, rfl, hlt, Same.mut (s.trans s2) hp, ?_⟩
    rw [upd_same, aheadN_succ bs (i + 1), List.map_append, onesIn_blks hB hx 32 (Nat.le_refl _), show 32 * i + 32 = 32 * (i + 1) by omega, show sumTo bs (32 * i) + (sumTo bs (32 * (i + 1)) - sumTo bs (32 * i)) = sumTo bs (32 * (i + 1)) by omega]; rfl
  · rintro σ H' ⟨y, rfl, hi, s, e⟩
    walk_at "st"
    refine k_tupL (.of e) fun t ht => ?_
    walk_at "st"
    refine q t _ (s.gone _ ht) (s.trans (same_new ht)) ?_
    rw [upd_same, blks_len]; rfl
/-- kept_row(bits) -/
def sp_kept_row (K : PySem.W.Frag) : Sp := fun vs H Q E => ∃ (a : Addr) (bs : List Int), vs = [.ref a] ∧ SqL K H a (bs.map V.int) ∧ bs.length ≤ 100000 ∧
  (bs.length > 4096 → E (.ref (He.ga K "TooMany")) none H) ∧
  (bs.length ≤ 4096 → ¬ Bits bs → ∀ H', Same H H' → E (.ref (He.ga K "NoBit")) none H') ∧
  (bs.length ≤ 4096 → Bits bs → ∀ p t pa pb H', H p = none → H t = none → H pa = none → H pb = none → Same H H' → H' p = some (.tup [.ref t, .ref pb]) → H' t = some (.tup [.int (bs.length : Int), .ref pa]) → H' pa = some (.tup ((aheadT bs).map V.int)) → H' pb = some (.lst ((blks bs).map V.int)) → Q (.ref p) H')
theorem len_kept_row (K : PySem.W.Frag) : ∀ vs H Q E, sp_kept_row K vs H Q E → vs.length = 1 := by
  rintro vs H Q E ⟨a, bs, rfl, _⟩; rfl
def t_kept_row (K : PySem.W.Frag) (E : XK) : TS :=
  (tSeq (tAsg (tCall (sp_packed K) [] E (tCons (tVar 0) tNil)) (gName 1))
  (tRet (tTup (tCons (tTup (tCons (tCB (rLen K) (tCons (tVar 0) tNil)) (tCons (tCall (sp_ones_table K) [] E0 (tCons (tVar 1) tNil)) tNil))) (tCons (tVar 1) tNil)))))
abbrev n_kept_row : List Str := ["bits", "blocks"]

theorem rd_kept_row (K : PySem.W.Frag) (vs : List V) (H : Hp) (Q : VK) (E : XK) (h : sp_kept_row K vs H Q E) : t_kept_row K E { nx := fun _ H' => Q .non H', rt := Q } (start n_kept_row vs) H := by
  obtain ⟨a, bs, rfl, hS, hl, q1, q2, q3⟩ := h
  unfold t_kept_row
  walk_at "st"
  refine ⟨a, bs, rfl, hS, hl, q1, q2, fun hm hB pb H1 hpb s1 e1 => ?_⟩
  walk_at "st"
  refine k_lenL (s1.seq hS) ?_
  walk_at "st"
  rw [List.length_map]
  refine ⟨pb, bs, rfl, e1, by omega, hB, fun pa H2 hpa s2 e2 => ?_⟩
  walk_at "st"
  intro t ht
  walk_at "st"
  intro p hp
  walk_at "st"
  have s3 := same_new (o := .tup [.int (bs.length : Int), .ref pa]) ht
  have s4 := same_new (o := .tup [.ref t, .ref pb]) hp
  exact q3 hm hB p t pa pb _ ((s1.trans (s2.trans s3)).gone _ hp) ((s1.trans s2).gone _ ht) (s1.gone _ hpa) hpb (s1.trans (s2.trans (s3.trans s4))) upd_same (s4.get upd_same) (s4.get (s3.get e2)) (s4.get (s3.get (s2.get e1)))

/-- the net of the first k bits -/
def net (b : Int) (k : Nat) : Int := 2 * onesIn b k - k
theorem net_succ (b : Int) (k : Nat) : net b (k + 1) = net b k + (2 * bit b k - 1) := by
  unfold net; show 2 * (onesIn b k + bit b k) - ((k + 1 : Nat) : Int) = _
  push_cast; omega
theorem net_zero (b : Int) : net b 0 = 0 := rfl
/-- the least net of the first 1 .. n bits, 1 at none -/
def lowIn (b : Int) : Nat → Int
  | 0 => 1
  | n + 1 => if net b (n + 1) < lowIn b n then net b (n + 1) else lowIn b n
theorem lowIn_le (b : Int) (n : Nat) : ∀ k, 1 ≤ k → k ≤ n → lowIn b n ≤ net b k := by
  induction n with
  | zero => intro k h1 h2; omega
  | succ n ih =>
    intro k h1 h2
    unfold lowIn
    rcases Nat.lt_or_ge k (n + 1) with h | h
    · have := ih k h1 (by omega); split <;> omega
    · have : k = n + 1 := by omega
      subst this; split <;> omega
theorem net_one (b : Int) : net b 1 ≤ 1 := by
  rw [net_succ, net_zero]; have := bit_cases b 0; omega
theorem lowIn_mem (b : Int) (n : Nat) (hn : 1 ≤ n) : ∃ k, 1 ≤ k ∧ k ≤ n ∧ lowIn b n = net b k := by
  induction n with
  | zero => omega
  | succ n ih =>
    unfold lowIn
    rcases Nat.eq_zero_or_pos n with h | h
    · subst h
      refine ⟨1, by omega, by omega, ?_⟩
      have := net_one b
      show (if net b 1 < 1 then net b 1 else 1) = net b 1
      split <;> omega
    · obtain ⟨k, h1, h2, h3⟩ := ih h
      split
      · exact ⟨n + 1, by omega, by omega, rfl⟩
      · exact ⟨k, h1, by omega, h3⟩

/-- the height at a place -/
def hgt (bs : List Int) (n : Nat) : Int := 2 * sumTo bs n - n
theorem hgt_zero (bs : List Int) : hgt bs 0 = 0 := rfl
theorem hgt_succ (bs : List Int) (n : Nat) : hgt bs (n + 1) = hgt bs n + (2 * bs.getD n 0 - 1) := by
  unfold hgt; rw [sumTo_succ]; push_cast; omega
theorem net_blks {bs : List Int} (h : Bits bs) {j : Nat} {b : Int} (e : (blks bs)[j]? = some b) (k : Nat) (hk : k ≤ 32) : net b k = hgt bs (32 * j + k) - hgt bs (32 * j) := by
  unfold net hgt; rw [onesIn_blks h e k hk]; push_cast; omega
/-- the least of 1 and the heights at 1 .. n -/
def lowTo (bs : List Int) : Nat → Int
  | 0 => 1
  | n + 1 => if hgt bs (n + 1) < lowTo bs n then hgt bs (n + 1) else lowTo bs n
theorem lowTo_le (bs : List Int) (n : Nat) : lowTo bs n ≤ 1 ∧ ∀ k, 1 ≤ k → k ≤ n → lowTo bs n ≤ hgt bs k := by
  induction n with
  | zero => exact ⟨Int.le_refl _, fun k h1 h2 => by omega⟩
  | succ n ih =>
    unfold lowTo
    refine ⟨by have := ih.1; split <;> omega, fun k h1 h2 => ?_⟩
    rcases Nat.lt_or_ge k (n + 1) with h | h
    · have := ih.2 k h1 (by omega); split <;> omega
    · have : k = n + 1 := by omega
      subst this; split <;> omega
theorem lowTo_mem (bs : List Int) (n : Nat) : lowTo bs n = 1 ∨ ∃ k, 1 ≤ k ∧ k ≤ n ∧ lowTo bs n = hgt bs k := by
  induction n with
  | zero => exact .inl rfl
  | succ n ih =>
    unfold lowTo
    split
    · exact .inr ⟨n + 1, by omega, by omega, rfl⟩
    · rcases ih with h | ⟨k, h1, h2, h3⟩
      · exact .inl h
      · exact .inr ⟨k, h1, by omega, h3⟩
/-- a block more -/
theorem lowTo_block {bs : List Int} (h : Bits bs) {j : Nat} {b : Int} (e : (blks bs)[j]? = some b) {k : Nat} (h1 : 1 ≤ k) (hk : k ≤ 32) :
    (if hgt bs (32 * j) + lowIn b k < lowTo bs (32 * j) then hgt bs (32 * j) + lowIn b k else lowTo bs (32 * j)) = lowTo bs (32 * j + k) := by
  have a1 := lowTo_le bs (32 * j)
  have a2 := lowTo_mem bs (32 * j)
  have b1 := lowTo_le bs (32 * j + k)
  have b2 := lowTo_mem bs (32 * j + k)
  have c1 := lowIn_le b k
  obtain ⟨i, i1, i2, i3⟩ := lowIn_mem b k h1
  have d1 := net_blks h e i (by omega)
  have d2 := b1.2 (32 * j + i) (by omega) (by omega)
  have d3 : ∀ m, 1 ≤ m → m ≤ 32 * j + k → (lowTo bs (32 * j) ≤ hgt bs m ∨ hgt bs (32 * j) + lowIn b k ≤ hgt bs m) := by
    intro m m1 m2
    rcases Nat.lt_or_ge (32 * j) m with l | l
    · have g := c1 (m - 32 * j) (by omega) (by omega)
      rw [net_blks h e (m - 32 * j) (by omega), show 32 * j + (m - 32 * j) = m by omega] at g
      exact .inr (by omega)
    · exact .inl (a1.2 m m1 l)
  have d4 : lowTo bs (32 * j + k) ≤ lowTo bs (32 * j) := by
    rcases a2 with g | ⟨m, m1, m2, m3⟩
    · have := b1.1; omega
    · have := b1.2 m m1 (by omega); omega
  have d5 : lowTo bs (32 * j) ≤ lowTo bs (32 * j + k) ∨ hgt bs (32 * j) + lowIn b k ≤ lowTo bs (32 * j + k) := by
    rcases b2 with g | ⟨m, m1, m2, m3⟩
    · have := a1.1; exact .inl (by omega)
    · rcases d3 m m1 m2 with g | g
      · exact .inl (by omega)
      · exact .inr (by omega)
  split <;> omega

/-- a row that is a tree's: its height is nought at both ends alone -/
def IsTree (bs : List Int) : Prop := 2 ≤ bs.length ∧ hgt bs bs.length = 0 ∧ ∀ k, 0 < k → k < bs.length → 0 < hgt bs k
theorem hgt_cons (b : Int) (bs : List Int) (n : Nat) : hgt (b :: bs) (n + 1) = (2 * b - 1) + hgt bs n := by
  unfold hgt sumTo
  rw [List.take_succ_cons, List.sum_cons]; push_cast; omega
theorem hgt_left {as bs : List Int} {n : Nat} (h : n ≤ as.length) : hgt (as ++ bs) n = hgt as n := by
  unfold hgt sumTo
  rw [List.take_append_of_le_length h]
/-- from height h on bs goes, never below 1, to h' -/
def Up : Int → List Int → Int → Prop
  | h, [], h' => h = h'
  | h, b :: bs, h' => (b = 0 ∨ b = 1) ∧ 1 ≤ h + (2 * b - 1) ∧ Up (h + (2 * b - 1)) bs h'
theorem Up.app : ∀ {as bs : List Int} {h m h' : Int}, Up h as m → Up m bs h' → Up h (as ++ bs) h'
  | [], _, _, _, _, h1, h2 => by cases (show _ = _ from h1); exact h2
  | _ :: _, _, _, _, _, ⟨a1, a2, a3⟩, h2 => ⟨a1, a2, Up.app a3 h2⟩
theorem Up.bits : ∀ {bs : List Int} {h h' : Int}, Up h bs h' → Bits bs
  | [], _, _, _ => fun x hx => by cases hx
  | b :: bs, _, _, ⟨a1, _, a3⟩ => fun x hx => by
    rcases List.mem_cons.mp hx with rfl | z
    · exact a1
    · exact Up.bits a3 x z
theorem Up.hgt : ∀ {bs : List Int} {h h' : Int}, Up h bs h' → h + hgt bs bs.length = h' ∧ ∀ k, 0 < k → k ≤ bs.length → 1 ≤ h + Tw.hgt bs k
  | [], h, h', e => by
    have e : h = h' := e
    refine ⟨by show h + Tw.hgt [] 0 = h'; rw [hgt_zero]; omega, fun k h1 h2 => ?_⟩
    rw [List.length_nil] at h2; omega
  | b :: bs, h, h', ⟨a1, a2, a3⟩ => by
    obtain ⟨r1, r2⟩ := Up.hgt a3
    refine ⟨by rw [List.length_cons, hgt_cons]; omega, fun k h1 h2 => ?_⟩
    obtain ⟨k, rfl⟩ : ∃ j, k = j + 1 := ⟨k - 1, by omega⟩
    rw [hgt_cons]
    rcases Nat.eq_zero_or_pos k with rfl | hk
    · rw [hgt_zero]; omega
    · have := r2 k hk (by rw [List.length_cons] at h2; omega); omega
theorem up_ones : ∀ (n : Nat) {h : Int}, 0 ≤ h → Up h (List.replicate n 1) (h + n)
  | 0, h, _ => by show h = _; omega
  | n + 1, h, hh => ⟨.inr rfl, by omega, by
    have := up_ones n (h := h + (2 * 1 - 1)) (by omega)
    rw [show h + ((n + 1 : Nat) : Int) = h + (2 * 1 - 1) + (n : Int) by omega]; exact this⟩
theorem up_noughts : ∀ (n : Nat) {h : Int}, (n : Int) ≤ h - 1 → Up h (List.replicate n 0) (h - n)
  | 0, h, _ => by show h = _; omega
  | n + 1, h, hh => ⟨.inl rfl, by omega, by
    have := up_noughts n (h := h + (2 * 0 - 1)) (by omega)
    rw [show h - ((n + 1 : Nat) : Int) = h + (2 * 0 - 1) - (n : Int) by omega]; exact this⟩
theorem up_flat : ∀ (n : Nat) {h : Int}, 1 ≤ h → Up h (List.replicate n ([1, 0] : List Int)).flatten h
  | 0, h, _ => rfl
  | n + 1, h, hh => by
    rw [List.replicate_succ, List.flatten_cons]
    refine Up.app (m := h) ⟨.inr rfl, by omega, .inl rfl, by omega, ?_⟩ (up_flat n hh)
    show _ = h; omega
theorem tree_of_up {bs : List Int} {h : Int} (u : Up 0 bs h) (h1 : 1 ≤ h) : IsTree (bs ++ List.replicate h.toNat 0) := by
  have u2 := u.app (up_noughts (h.toNat - 1) (h := h) (by omega))
  rw [show h - ((h.toNat - 1 : Nat) : Int) = 1 by omega] at u2
  have e : bs ++ List.replicate h.toNat 0 = (bs ++ List.replicate (h.toNat - 1) 0) ++ [0] := by
    rw [List.append_assoc]
    congr 1
    rw [show ([0] : List Int) = List.replicate 1 0 from rfl, List.replicate_append_replicate]
    congr 1; omega
  rw [e]
  generalize bs ++ List.replicate (h.toNat - 1) 0 = cs at u2
  obtain ⟨g1, g2⟩ := u2.hgt
  have hc : 0 < cs.length := by
    rcases Nat.eq_zero_or_pos cs.length with z | z
    · rw [z, hgt_zero] at g1; omega
    · exact z
  refine ⟨by rw [List.length_append, List.length_singleton]; omega, ?_, fun k k1 k2 => ?_⟩
  · rw [List.length_append, List.length_singleton, hgt_succ, hgt_left (Nat.le_refl _)]
    rw [List.getD_eq_getElem?_getD, List.getElem?_append_right (Nat.le_refl _), Nat.sub_self]
    show _ + (2 * 0 - 1) = _
    omega
  · rw [List.length_append, List.length_singleton] at k2
    rw [hgt_left (by omega)]
    have := g2 k k1 (by omega); omega

/-- is_tree(bits) -/
def sp_is_tree (K : PySem.W.Frag) : Sp := fun vs H Q _ => ∃ (a : Addr) (bs : List Int), vs = [.ref a] ∧ SqL K H a (bs.map V.int) ∧ bs.length ≤ 100000 ∧ ∀ (b : Bool) H', (b = true ↔ IsTree bs) → Same H H' → Q (.bl b) H'
theorem len_is_tree (K : PySem.W.Frag) : ∀ vs H Q E, sp_is_tree K vs H Q E → vs.length = 1 := by
  rintro vs H Q E ⟨x, y, rfl, _⟩; rfl
def t_is_tree (K : PySem.W.Frag) : TS :=
  (tSeq (tAsg (tC (.int 0)) (gName 1))
  (tSeq (tFor (iEnum K (tCons (tVar 0) tNil)) (gTup K 2 (gCons (gName 2) (gCons (gName 3) gNil)))
  (tSeq (tAug 1 (tOp rMinus (tOp rTimes (tC (.int 2)) (tVar 3)) (tC (.int 1))) (ipI fun i j => i + j))
  (tIfS (tAnd (tTest (tOp rLe (tVar 1) (tC (.int 0)))) (tTest (tOp rLt (tOp rPlus (tVar 2) (tC (.int 1))) (tCB (rLen K) (tCons (tVar 0) tNil)))))
  (tRet (tC (.bl false)))
  tNext)))
  (tRet (tAndV (tOp rGtI (tCB (rLen K) (tCons (tVar 0) tNil)) (tC (.int 1))) (tOp rEq (tVar 1) (tC (.int 0)))))))
abbrev n_is_tree : List Str := ["bits", "high", "at", "bit"]

theorem rd_is_tree (K : PySem.W.Frag) (vs : List V) (H : Hp) (Q : VK) (E : XK) (h : sp_is_tree K vs H Q E) : t_is_tree K { nx := fun _ H' => Q .non H', rt := Q } (start n_is_tree vs) H := by
  obtain ⟨a, bs, rfl, hS, hl, q⟩ := h
  unfold t_is_tree
  walk_at "st"
  refine m_enumE hS ?_
  refine loop_walk walk_enum (fun i σ H' => ∃ y z, σ = [some (.ref a), some (.int (hgt bs i)), y, z] ∧ i ≤ bs.length ∧ Same H H' ∧ ∀ k, 0 < k → k ≤ i → k < bs.length → 0 < hgt bs k) ⟨none, none, rfl, Nat.zero_le _, Same.refl _, fun k h1 h2 => by omega⟩ (fun i σ H' ⟨y, z, _, _, s, _⟩ => s.seq hS) ?_ ?_
  · rintro i v σ H1 H2 hi ⟨y, z, rfl, _, s, hb⟩ ⟨T, x, w, rfl, hT, rfl, ex, ew⟩
    rw [List.length_map] at hi
    obtain ⟨b, hbi, rfl⟩ := of_mapint ew
    obtain rfl : x = .int (i : Nat) := (Option.some.inj ex).symm
    have s2 := s.trans (same_new (o := .tup [.int (i : Nat), .int b]) hT)
    refine m_gTup (.of upd_same) rfl ?_
    generalize upd H1 T (.tup [.int (i : Nat), .int b]) = H3 at s2 ⊢
    walk_at "st"
    have eh : hgt bs i + (2 * b - 1) = hgt bs (i + 1) := by rw [hgt_succ, List.getD_eq_getElem?_getD, hbi]; rfl
    rw [eh]
    walk_at "if" <;> intro c0
    · walk_at "st"
      refine k_lenL (s2.seq hS) ?_
      walk_at "st"
      rw [List.length_map]
      walk_at "if" <;> intro c1
      · walk_at "st"
        exact q false _ ⟨fun z => Bool.noConfusion z, fun z => by have := z.2.2 (i + 1) (by omega) (by omega); omega⟩ s2
      · walk_at "st"
        exact ⟨_, _, rfl, by omega, s2, fun k h1 h2 h3 => hb k h1 (by omega) h3⟩
    · walk_at "st"
      refine ⟨_, _, rfl, by omega, s2, fun k h1 h2 h3 => ?_⟩
      rcases Nat.lt_or_ge k (i + 1) with w | w
      · exact hb k h1 (by omega) h3
      · rw [show k = i + 1 by omega]; omega
  rintro σ H1 ⟨y, z, rfl, _, s, hb⟩
  rw [List.length_map] at hb
  walk_at "st"
  refine k_lenL (s.seq hS) ?_
  walk_at "st"
  rw [List.length_map]
  walk_at "if" <;> intro c1
  · walk_at "st"
    refine q _ _ ?_ s
    rw [decide_eq_true_iff]
    exact ⟨fun z => ⟨by omega, z, fun k h1 h2 => hb k h1 (by omega) h2⟩, fun z => z.2.1⟩
  · walk_at "st"
    exact q false _ ⟨fun z => Bool.noConfusion z, fun z => by have := z.1; omega⟩ s

/-! ### the heap over places: the least power of two -/
/-- the doublings from 1 until many are reached -/
def hOf (many : Nat) : Nat := if many ≤ 1 then 0 else (many - 1).log2 + 1
theorem hOf_le (many : Nat) : many ≤ 2 ^ hOf many := by
  unfold hOf
  split
  · rw [Nat.pow_zero]; omega
  · have := Nat.lt_log2_self (n := many - 1)
    omega
theorem hOf_lt {many k : Nat} (h : k < hOf many) : 2 ^ k < many := by
  unfold hOf at h
  split at h
  · omega
  · have h1 : 2 ^ k ≤ 2 ^ (many - 1).log2 := Nat.pow_le_pow_right (by decide) (by omega)
    have h2 := Nat.log2_self_le (n := many - 1) (by omega)
    omega
theorem hOf_small {many : Nat} (h : many ≤ 4096) : hOf many ≤ 12 := by
  rcases Nat.lt_or_ge 12 (hOf many) with z | z
  · have := hOf_lt z; omega
  · exact z

/-- size_of(many) -/
def sp_size_of (_ : PySem.W.Frag) : Sp := fun vs H Q _ => ∃ many : Nat, vs = [.int (many : Int)] ∧ many ≤ 100000 ∧ Q (.int ((2 ^ hOf many : Nat) : Int)) H
theorem len_size_of (K : PySem.W.Frag) : ∀ vs H Q E, sp_size_of K vs H Q E → vs.length = 1 := by
  rintro vs H Q E ⟨x, rfl, _⟩; rfl
def t_size_of (K : PySem.W.Frag) : TS :=
  (tSeq (tAsg (tC (.int 1)) (gName 1))
  (tSeq (tWhile (tTest (tOp rLt (tVar 1) (tVar 0)))
  (tAug 1 (tC (.int 2)) rTimes))
  (tRet (tVar 1))))
abbrev n_size_of : List Str := ["many", "size"]

theorem rd_size_of (K : PySem.W.Frag) (vs : List V) (H : Hp) (Q : VK) (E : XK) (h : sp_size_of K vs H Q E) : t_size_of K { nx := fun _ H' => Q .non H', rt := Q } (start n_size_of vs) H := by
  obtain ⟨many, rfl, hm, q⟩ := h
  unfold t_size_of
  walk_at "st"
  refine loop_while (fun m σ H' => ∃ k : Nat, m = hOf many - k ∧ k ≤ hOf many ∧ σ = [some (.int (many : Int)), some (.int ((2 ^ k : Nat) : Int))] ∧ H' = H) (hOf many) ⟨0, rfl, Nat.zero_le _, rfl, rfl⟩ ?_
  rintro m σ H' ⟨k, rfl, hk, rfl, rfl⟩
  walk_at "st"
  walk_at "if" <;> intro c
  · have c2 : 2 ^ k < many := by exact_mod_cast c
    have hk2 : k < hOf many := by
      rcases Nat.lt_or_ge k (hOf many) with z | z
      · exact z
      · have : k = hOf many := by omega
        subst this
        have := hOf_le many
        omega
    walk_at "st"
    refine ⟨hOf many - (k + 1), by omega, k + 1, rfl, hk2, ?_, rfl⟩
    rw [show ((2 ^ (k + 1) : Nat) : Int) = ((2 ^ k : Nat) : Int) * 2 by rw [Nat.pow_succ]; push_cast; rfl]; rfl
  · have c2 : ¬ 2 ^ k < many := by exact_mod_cast c
    have : k = hOf many := by
      rcases Nat.lt_or_ge k (hOf many) with z | z
      · exact absurd (hOf_lt z) c2
      · omega
    subst this
    walk_at "st"
    exact q

/-! ### what the nodes bear -/
def NV : Option Int → V
  | none => .non
  | some i => .int i
def minO : Option Int → Option Int → Option Int
  | none, b => b
  | a, none => a
  | some a, some b => some (if b < a then b else a)
def bearF (ns : List Int) (S : Nat) : Nat → Nat → Option Int
  | 0, n => if S ≤ n then ns[n - S]? else none
  | f + 1, n => if S ≤ n then ns[n - S]? else if n = 0 then none else minO (bearF ns S f (2 * n)) (bearF ns S f (2 * n + 1))
/-- what the node n bears, of 2 ^ h places -/
def bear (ns : List Int) (h n : Nat) : Option Int := bearF ns (2 ^ h) h n
theorem bearF_more {ns : List Int} {S : Nat} : ∀ {f n : Nat}, 1 ≤ n → S ≤ n * 2 ^ f → bearF ns S (f + 1) n = bearF ns S f n
  | 0, n, h1, h2 => by
    have h2 : S ≤ n := by simpa using h2
    show (if S ≤ n then _ else _) = (if S ≤ n then _ else _)
    rw [if_pos h2, if_pos h2]
  | f + 1, n, h1, h2 => by
    show (if S ≤ n then _ else _) = (if S ≤ n then _ else _)
    have e : n * 2 ^ (f + 1) = 2 * n * 2 ^ f := by rw [Nat.pow_succ, ← Nat.mul_assoc, Nat.mul_comm, ← Nat.mul_assoc]
    rw [e] at h2
    have h3 : S ≤ (2 * n + 1) * 2 ^ f := Nat.le_trans h2 (Nat.mul_le_mul_right _ (by omega))
    rw [bearF_more (f := f) (n := 2 * n) (by omega) h2, bearF_more (f := f) (n := 2 * n + 1) (by omega) h3]
theorem bear_leaf {ns : List Int} {h n : Nat} (l : 2 ^ h ≤ n) : bear ns h n = ns[n - 2 ^ h]? := by
  unfold bear
  cases h with
  | zero => exact if_pos l
  | succ h => exact if_pos l
theorem bear_zero (ns : List Int) (h : Nat) : bear ns h 0 = none := by
  unfold bear
  have := Nat.two_pow_pos h
  cases h with
  | zero => exact if_neg (by omega)
  | succ h => exact (if_neg (by omega)).trans (if_pos rfl)
theorem bear_node {ns : List Int} {h n : Nat} (h1 : 1 ≤ n) (h2 : n < 2 ^ h) : bear ns h n = minO (bear ns h (2 * n)) (bear ns h (2 * n + 1)) := by
  unfold bear
  cases h with
  | zero => simp at h2; omega
  | succ h =>
    have hx : 2 ^ (h + 1) ≤ 2 * n * 2 ^ h := by
      rw [Nat.pow_succ, Nat.mul_comm, Nat.mul_assoc]
      exact Nat.mul_le_mul_left 2 (Nat.le_mul_of_pos_left _ h1)
    have hy : 2 ^ (h + 1) ≤ (2 * n + 1) * 2 ^ h := Nat.le_trans hx (Nat.mul_le_mul_right _ (by omega))
    rw [bearF_more (f := h) (n := 2 * n) (by omega) hx, bearF_more (f := h) (n := 2 * n + 1) (by omega) hy]
    exact (if_neg (by omega)).trans (if_neg (by omega))
/-- the list of nodes, those from k on reckoned -/
def nodesFrom (ns : List Int) (h k : Nat) : List V := (List.range (2 * 2 ^ h)).map fun n => if k ≤ n then NV (bear ns h n) else .non
theorem nodesFrom_len (ns : List Int) (h k : Nat) : (nodesFrom ns h k).length = 2 * 2 ^ h := by unfold nodesFrom; simp
theorem nodesFrom_get {ns : List Int} {h k n : Nat} (hn : n < 2 * 2 ^ h) : (nodesFrom ns h k)[n]? = some (if k ≤ n then NV (bear ns h n) else .non) := by unfold nodesFrom; simp [hn]
theorem nodesFrom_start {ns : List Int} {h : Nat} (l : ns.length ≤ 2 ^ h) : List.replicate (2 ^ h) V.non ++ ns.map V.int ++ List.replicate (2 ^ h - ns.length) V.non = nodesFrom ns h (2 ^ h) := by
  apply List.ext_getElem?
  intro i
  rcases Nat.lt_or_ge i (2 * 2 ^ h) with hi | hi
  · rw [nodesFrom_get hi]
    rcases Nat.lt_or_ge i (2 ^ h) with z | z
    · rw [if_neg (by omega), List.append_assoc, List.getElem?_append_left (by rw [List.length_replicate]; exact z), List.getElem?_replicate, if_pos z]
    · rw [if_pos z, List.append_assoc, List.getElem?_append_right (by rw [List.length_replicate]; exact z), List.length_replicate, bear_leaf z]
      rcases Nat.lt_or_ge (i - 2 ^ h) ns.length with w | w
      · rw [List.getElem?_append_left (by rw [List.length_map]; exact w), List.getElem?_map, List.getElem?_eq_getElem w]; rfl
      · rw [List.getElem?_append_right (by rw [List.length_map]; exact w), List.getElem?_replicate, if_pos (by rw [List.length_map]; omega), List.getElem?_eq_none w]; rfl
  · rw [List.getElem?_eq_none (by simp; omega), List.getElem?_eq_none (by rw [nodesFrom_len]; exact hi)]
theorem nodesFrom_step {ns : List Int} {h k : Nat} (h1 : 1 ≤ k) (h2 : k < 2 ^ h) : (nodesFrom ns h (k + 1)).set k (NV (minO (bear ns h (2 * k)) (bear ns h (2 * k + 1)))) = nodesFrom ns h k := by
  apply List.ext_getElem?
  intro i
  rw [List.getElem?_set, nodesFrom_len]
  rcases Nat.lt_or_ge i (2 * 2 ^ h) with hi | hi
  · rw [nodesFrom_get hi, nodesFrom_get hi]
    by_cases e : k = i
    · subst e
      rw [if_pos rfl, if_pos (by omega), if_pos (Nat.le_refl _), bear_node h1 h2]
    · rw [if_neg e]
      by_cases g : k ≤ i
      · rw [if_pos g, if_pos (by omega)]
      · rw [if_neg g, if_neg (by omega)]
  · rw [List.getElem?_eq_none (by rw [nodesFrom_len]; exact hi), List.getElem?_eq_none (by rw [nodesFrom_len]; exact hi), if_neg (by omega)]
theorem nodesFrom_one (ns : List Int) (h : Nat) : nodesFrom ns h 1 = (List.range (2 * 2 ^ h)).map fun n => NV (bear ns h n) := by
  unfold nodesFrom
  apply List.map_congr_left
  intro n _
  split
  · rfl
  · rw [show n = 0 by omega, bear_zero]; rfl
/-- the heap of a row -/
def heapL (ns : List Int) : List V := (List.range (2 * 2 ^ hOf ns.length)).map fun n => NV (bear ns (hOf ns.length) n)
theorem heapL_len (ns : List Int) : (heapL ns).length = 2 * 2 ^ hOf ns.length := by unfold heapL; simp
theorem heapL_get {ns : List Int} {n : Nat} (hn : n < 2 * 2 ^ hOf ns.length) : (heapL ns)[n]? = some (NV (bear ns (hOf ns.length) n)) := by unfold heapL; simp [hn]

/-- lesser_of(one, other) -/
def sp_lesser_of (_ : PySem.W.Frag) : Sp := fun vs H Q _ => ∃ a b : Option Int, vs = [NV a, NV b] ∧ Q (NV (minO a b)) H
theorem len_lesser_of (K : PySem.W.Frag) : ∀ vs H Q E, sp_lesser_of K vs H Q E → vs.length = 2 := by
  rintro vs H Q E ⟨a, b, rfl, _⟩; rfl
def t_lesser_of (K : PySem.W.Frag) : TS :=
  (tSeq (tIfS (tTest (tOp rIsN (tVar 0) (tC .non)))
  (tRet (tVar 1))
  tNext)
  (tSeq (tIfS (tTest (tOp rIsN (tVar 1) (tC .non)))
  (tRet (tVar 0))
  tNext)
  (tRet (tCB rMin2 (tCons (tVar 0) (tCons (tVar 1) tNil))))))
abbrev n_lesser_of : List Str := ["one", "other"]

theorem rd_lesser_of (K : PySem.W.Frag) (vs : List V) (H : Hp) (Q : VK) (E : XK) (h : sp_lesser_of K vs H Q E) : t_lesser_of K { nx := fun _ H' => Q .non H', rt := Q } (start n_lesser_of vs) H := by
  obtain ⟨a, b, rfl, q⟩ := h
  unfold t_lesser_of
  cases a with
  | none =>
    rw [show NV none = V.non from rfl]
    walk_at "st"
    refine k_decT rfl ?_
    walk_at "st"
    exact q
  | some a =>
    rw [show NV (some a) = V.int a from rfl]
    walk_at "st"
    refine k_decF (fun z => nomatch z) ?_
    cases b with
    | none =>
      rw [show NV none = V.non from rfl]
      walk_at "st"
      refine k_decT rfl ?_
      walk_at "st"
      exact q
    | some b =>
      rw [show NV (some b) = V.int b from rfl]
      walk_at "st"
      refine k_decF (fun z => nomatch z) ?_
      walk_at "st"
      exact q

/-- heap_of(numbers) -/
def sp_heap_of (K : PySem.W.Frag) : Sp := fun vs H Q E => ∃ (a : Addr) (ns : List Int), vs = [.ref a] ∧ SqL K H a (ns.map V.int) ∧ ns.length ≤ 10000 ∧
  (4096 < ns.length → E (.ref (He.ga K "TooMany")) none H) ∧
  (ns.length ≤ 4096 → ∀ p H', H p = none → Same H H' → H' p = some (.lst (heapL ns)) → Q (.ref p) H')
theorem len_heap_of (K : PySem.W.Frag) : ∀ vs H Q E, sp_heap_of K vs H Q E → vs.length = 1 := by
  rintro vs H Q E ⟨a, ns, rfl, _⟩; rfl
def t_heap_of (K : PySem.W.Frag) (E : XK) : TS :=
  (tSeq (tIfS (tTest (tOp rGtI (tCB (rLen K) (tCons (tVar 0) tNil)) (tC (.int 4096))))
  (tRz (fun cls d _ H => E cls d H) (He.ga K "TooMany"))
  tNext)
  (tSeq (tAsg (tCall (sp_size_of K) [] E0 (tCons (tCB (rLen K) (tCons (tVar 0) tNil)) tNil)) (gName 1))
  (tSeq (tAsg (tOp rCat (tOp rCat (tOp rRep (tLst (tCons (tC .non) tNil)) (tVar 1)) (tCB (rListOf K) (tCons (tVar 0) tNil))) (tOp rRep (tLst (tCons (tC .non) tNil)) (tOp rMinus (tVar 1) (tCB (rLen K) (tCons (tVar 0) tNil))))) (gName 2))
  (tSeq (tFor (iRng3 (tCons (tOp rMinus (tVar 1) (tC (.int 1))) (tCons (tC (.int 0)) (tCons (tUn rNeg (tC (.int 1))) tNil)))) (gName 3)
  (tAsg (tCall (sp_lesser_of K) [] E0 (tCons (tOp (rIxL K) (tVar 2) (tOp rTimes (tC (.int 2)) (tVar 3))) (tCons (tOp (rIxL K) (tVar 2) (tOp rPlus (tOp rTimes (tC (.int 2)) (tVar 3)) (tC (.int 1)))) tNil))) (gSub (tVar 2) (tVar 3) rSetL)))
  (tRet (tVar 2))))))
abbrev n_heap_of : List Str := ["numbers", "size", "nodes", "node"]

theorem rd_heap_of (K : PySem.W.Frag) (vs : List V) (H : Hp) (Q : VK) (E : XK) (h : sp_heap_of K vs H Q E) : t_heap_of K E { nx := fun _ H' => Q .non H', rt := Q } (start n_heap_of vs) H := by
  obtain ⟨a, ns, rfl, hS, hl, q1, q2⟩ := h
  unfold t_heap_of
  walk_at "st"
  refine k_lenL hS ?_
  walk_at "st"
  rw [List.length_map]
  walk_at "if" <;> intro c
  · walk_at "st"
    exact q1 (by omega)
  walk_at "st"
  refine k_lenL hS ?_
  walk_at "st"
  rw [List.length_map]
  refine ⟨ns.length, rfl, by omega, ?_⟩
  have hle := hOf_le ns.length
  have hh := hOf_small (many := ns.length) (by omega)
  have hp12 := Nat.pow_le_pow_right (show 0 < 2 by decide) hh
  have hS0 := Nat.two_pow_pos (hOf ns.length)
  have q2 := q2 (by omega)
  unfold heapL at q2
  generalize hOf ns.length = h at q2 hle hh hp12 hS0 ⊢
  walk_at "st"
  intro p1 hp1
  walk_at "st"
  refine k_rep (xs := [.non]) upd_same (by simp only [List.length_cons, List.length_nil]; omega) (by omega) fun p2 hp2 => ?_
  rw [rep_one]
  have s2 := (same_new (o := .lst [.non]) hp1).trans (same_new (o := .lst (List.replicate (2 ^ h) V.non)) hp2)
  walk_at "st"
  refine k_listL (s2.seq hS) fun p3 hp3 => ?_
  refine k_cat ((same_new hp3).get upd_same) upd_same (by rw [List.length_replicate, List.length_map]; omega) fun p4 hp4 => ?_
  have s4 := s2.trans ((same_new (o := .lst (ns.map V.int)) hp3).trans (same_new (o := .lst (List.replicate (2 ^ h) V.non ++ ns.map V.int)) hp4))
  have e4 := upd_same (H := upd (upd (upd H p1 (.lst [.non])) p2 (.lst (List.replicate (2 ^ h) V.non))) p3 (.lst (ns.map V.int))) (a := p4) (o := .lst (List.replicate (2 ^ h) V.non ++ ns.map V.int))
  generalize upd (upd (upd (upd H p1 (.lst [.non])) p2 (.lst (List.replicate (2 ^ h) V.non))) p3 (.lst (ns.map V.int))) p4 (.lst (List.replicate (2 ^ h) V.non ++ ns.map V.int)) = H4 at s4 e4 ⊢
  walk_at "st"
  intro p5 hp5
  walk_at "st"
  refine k_lenL ((s4.trans (same_new hp5)).seq hS) ?_
  walk_at "st"
  rw [List.length_map, show ((2 ^ h : Nat) : Int) - (ns.length : Int) = ((2 ^ h - ns.length : Nat) : Int) by omega]
  refine k_rep (xs := [.non]) upd_same (by simp only [List.length_cons, List.length_nil]; omega) (by omega) fun p6 hp6 => ?_
  rw [rep_one]
  refine k_cat ((same_new hp6).get ((same_new hp5).get e4)) upd_same (by rw [List.length_append, List.length_replicate, List.length_map, List.length_replicate]; omega) fun p7 hp7 => ?_
  rw [nodesFrom_start hle]
  have hp7' : H p7 = none := (s4.trans ((same_new hp5).trans (same_new hp6))).gone _ hp7
  have s7 := s4.trans ((same_new (o := .lst [.non]) hp5).trans ((same_new (o := .lst (List.replicate (2 ^ h - ns.length) V.non)) hp6).trans (same_new (o := .lst (nodesFrom ns h (2 ^ h))) hp7)))
  have e7 := upd_same (H := upd (upd H4 p5 (.lst [.non])) p6 (.lst (List.replicate (2 ^ h - ns.length) V.non))) (a := p7) (o := .lst (nodesFrom ns h (2 ^ h)))
  generalize upd (upd (upd H4 p5 (.lst [.non])) p6 (.lst (List.replicate (2 ^ h - ns.length) V.non))) p7 (.lst (nodesFrom ns h (2 ^ h))) = H7 at s7 e7 ⊢
  walk_at "st"
  refine m_rng3e (RgC.neg (by omega) (by omega) (by decide) (by decide)) ?_
  rw [show (((2 ^ h : Nat) : Int) - 1 - 0).toNat = 2 ^ h - 1 by omega]
  refine loop_walk walk_rangeC (fun i σ H' => ∃ z, σ = [some (.ref a), some (.int ((2 ^ h : Nat) : Int)), some (.ref p7), z] ∧ i ≤ 2 ^ h - 1 ∧ Same H H' ∧ H' p7 = some (.lst (nodesFrom ns h (2 ^ h - i)))) ⟨none, rfl, Nat.zero_le _, s7, e7⟩ (fun _ _ _ _ => trivial) ?_ ?_
  · rintro i x σ H' H'' hi ⟨z, rfl, hi2, s, e⟩ ⟨rfl, ex⟩
    obtain ⟨k, hk1, hk2, hk3⟩ : ∃ k : Nat, 1 ≤ k ∧ k < 2 ^ h ∧ k = 2 ^ h - 1 - i := ⟨2 ^ h - 1 - i, by omega, by omega, rfl⟩
    obtain rfl : x = .int (k : Int) := by rw [ex]; show V.int _ = V.int _; congr 1; omega
    rw [show 2 ^ h - i = k + 1 by omega] at e
    walk_at "st"
    refine k_ixL (.of e) (at_int (x := NV (bear ns h (2 * k))) (by omega) (by rw [show ((2 : Int) * (k : Int)).toNat = 2 * k by omega, nodesFrom_get (by omega), if_pos (by omega)])) ?_
    walk_at "st"
    refine k_ixL (.of e) (at_int (x := NV (bear ns h (2 * k + 1))) (by omega) (by rw [show ((2 : Int) * (k : Int) + 1).toNat = 2 * k + 1 by omega, nodesFrom_get (by omega), if_pos (by omega)])) ?_
    walk_at "st"
    refine ⟨_, _, rfl, ?_⟩
    walk_at "st"
    refine m_setL e (ixN_nat (by omega) (by rw [nodesFrom_len]; omega)) ?_
    refine ⟨_, rfl, by omega, Same.mut s hp7', ?_⟩
    rw [upd_same, Int.toNat_natCast, nodesFrom_step hk1 hk2, show 2 ^ h - (i + 1) = k by omega]
  · rintro σ H' ⟨z, rfl, _, s, e⟩
    walk_at "st"
    rw [show 2 ^ h - (2 ^ h - 1) = 1 by omega, nodesFrom_one] at e
    exact q2 p7 H' hp7' s e

/-- low_in(b, u) -/
def sp_low_in (_ : PySem.W.Frag) : Sp := fun vs H Q _ => ∃ (b : Int) (u : Nat), vs = [.int b, .int (u : Int)] ∧ u ≤ 1000 ∧ Q (.int (lowIn b u)) H
theorem len_low_in (K : PySem.W.Frag) : ∀ vs H Q E, sp_low_in K vs H Q E → vs.length = 2 := by
  rintro vs H Q E ⟨x, y, rfl, _⟩; rfl
def t_low_in (K : PySem.W.Frag) : TS :=
  (tSeq (tAsg (tC (.int 0)) (gName 2))
  (tSeq (tAsg (tC (.int 1)) (gName 3))
  (tSeq (tFor (iRng1 (tCons (tVar 1) tNil)) (gName 4)
  (tSeq (tAug 2 (tOp rMinus (tOp rTimes (tC (.int 2)) (tOp rAnd1 (tOp rShr (tVar 0) (tVar 4)) (tC (.int 1)))) (tC (.int 1))) (ipI fun i j => i + j))
  (tAsg (tCB rMin2 (tCons (tVar 3) (tCons (tVar 2) tNil))) (gName 3))))
  (tRet (tVar 3)))))
abbrev n_low_in : List Str := ["block", "upto", "net", "least", "k"]

theorem rd_low_in (K : PySem.W.Frag) (vs : List V) (H : Hp) (Q : VK) (E : XK) (h : sp_low_in K vs H Q E) : t_low_in K { nx := fun _ H' => Q .non H', rt := Q } (start n_low_in vs) H := by
  obtain ⟨b, u, rfl, hu, q⟩ := h
  unfold t_low_in
  walk_at "st"
  refine loop_range0 (fun i σ H' => ∃ y, σ = [some (.int b), some (.int (u : Int)), some (.int (net b i)), some (.int (lowIn b i)), y] ∧ H' = H) ⟨none, rfl, rfl⟩ ?_ ?_
  · rintro i σ H' hi ⟨y, rfl, rfl⟩
    walk_at "st"
    refine ⟨some (.int (i : Int)), ?_, rfl⟩
    have e : net b i + (2 * (b / 2 ^ i % 2) - 1) = net b (i + 1) := (net_succ b i).symm
    rw [show b / 2 ^ (i : Int).toNat % 2 = b / 2 ^ i % 2 from rfl, e]; rfl
  · rintro σ H' ⟨y, rfl, rfl⟩
    walk_at "st"
    exact q

/-- the lowest heights of the blocks -/
def lowOf (bs : List Int) (j : Nat) : Int := hgt bs (32 * j) + lowIn ((blks bs).getD j 0) (min 32 (bs.length - 32 * j))
def lowsOf (bs : List Int) : List Int := (List.range ((bs.length + 31) / 32)).map (lowOf bs)
theorem lowsOf_len (bs : List Int) : (lowsOf bs).length = (bs.length + 31) / 32 := by unfold lowsOf; simp
theorem lowsOf_get (bs : List Int) {j : Nat} (h : j < (bs.length + 31) / 32) : (lowsOf bs)[j]? = some (lowOf bs j) := by unfold lowsOf; simp [h]
theorem lowOf_is {bs : List Int} (h : Bits bs) {j : Nat} (hj : j < (bs.length + 31) / 32) : (∃ k, 32 * j < k ∧ k ≤ 32 * j + 32 ∧ k ≤ bs.length ∧ lowOf bs j = hgt bs k) ∧ ∀ k, 32 * j < k → k ≤ 32 * j + 32 → k ≤ bs.length → lowOf bs j ≤ hgt bs k := by
  have e : (blks bs)[j]? = some ((blks bs).getD j 0) := by
    rw [List.getD_eq_getElem?_getD, List.getElem?_eq_getElem (by rw [blks_len]; exact hj)]; rfl
  have hu : 1 ≤ min 32 (bs.length - 32 * j) := by omega
  refine ⟨?_, fun k k1 k2 k3 => ?_⟩
  · obtain ⟨k, h1, h2, h3⟩ := lowIn_mem ((blks bs).getD j 0) _ hu
    rw [net_blks h e k (by omega)] at h3
    exact ⟨32 * j + k, by omega, by omega, by omega, by unfold lowOf; omega⟩
  · have := lowIn_le ((blks bs).getD j 0) (min 32 (bs.length - 32 * j)) (k - 32 * j) (by omega) (by omega)
    rw [net_blks h e (k - 32 * j) (by omega), show 32 * j + (k - 32 * j) = k by omega] at this
    unfold lowOf; omega

/-- begin_height(ahead, number) -/
def sp_begin_height (K : PySem.W.Frag) : Sp := fun vs H Q _ => ∃ (pa : Addr) (bs : List Int) (j : Nat), vs = [.ref pa, .int (j : Int)] ∧ SqT K H pa ((aheadT bs).map V.int) ∧ j ≤ (bs.length + 31) / 32 ∧ Q (.int (hgt bs (32 * j))) H
theorem len_begin_height (K : PySem.W.Frag) : ∀ vs H Q E, sp_begin_height K vs H Q E → vs.length = 2 := by
  rintro vs H Q E ⟨x, y, z, rfl, _⟩; rfl
def t_begin_height (K : PySem.W.Frag) : TS :=
  (tRet (tOp rMinus (tOp rTimes (tC (.int 2)) (tOp (rIxT K) (tVar 0) (tVar 1))) (tOp rTimes (tC (.int 32)) (tVar 1))))
abbrev n_begin_height : List Str := ["ahead", "number"]

theorem rd_begin_height (K : PySem.W.Frag) (vs : List V) (H : Hp) (Q : VK) (E : XK) (h : sp_begin_height K vs H Q E) : t_begin_height K { nx := fun _ H' => Q .non H', rt := Q } (start n_begin_height vs) H := by
  obtain ⟨pa, bs, j, rfl, hS, hj, q⟩ := h
  unfold t_begin_height
  walk_at "st"
  refine k_ixT hS (at_nat (mapint (aheadT_get bs hj))) ?_
  walk_at "st"
  rw [show (2 : Int) * sumTo bs (32 * j) - 32 * (j : Int) = hgt bs (32 * j) by unfold hgt; push_cast; rfl]
  exact q
/-- kept_brackets(bits) -/
def sp_kept_brackets (K : PySem.W.Frag) : Sp := fun vs H Q E => ∃ (a : Addr) (bs : List Int), vs = [.ref a] ∧ SqL K H a (bs.map V.int) ∧ bs.length ≤ 100000 ∧
  (bs.length > 4096 → E (.ref (He.ga K "TooMany")) none H) ∧
  (bs.length ≤ 4096 → ¬ Bits bs → ∀ H', Same H H' → E (.ref (He.ga K "NoBit")) none H') ∧
  (bs.length ≤ 4096 → Bits bs → ¬ IsTree bs → ∀ H', Same H H' → E (.ref (He.ga K "NoTree")) none H') ∧
  (bs.length ≤ 4096 → Bits bs → IsTree bs → ∀ p t pa ph pb H', H p = none → H pb = none → Same H H' → H' p = some (.tup [.ref t, .ref pb]) → H' t = some (.tup [.int (bs.length : Int), .ref pa, .ref ph]) → H' pa = some (.tup ((aheadT bs).map V.int)) → H' ph = some (.tup (heapL (lowsOf bs))) → H' pb = some (.lst ((blks bs).map V.int)) → Q (.ref p) H')
theorem len_kept_brackets (K : PySem.W.Frag) : ∀ vs H Q E, sp_kept_brackets K vs H Q E → vs.length = 1 := by
  rintro vs H Q E ⟨a, bs, rfl, _⟩; rfl
def t_kept_brackets (K : PySem.W.Frag) (E : XK) : TS :=
  (tSeq (tAsg (tCall (sp_kept_row K) [] E (tCons (tVar 0) tNil)) (gTup K 2 (gCons (gName 1) (gCons (gName 2) gNil))))
  (tSeq (tIfS (tNot (tB (tCall (sp_is_tree K) [] E0 (tCons (tVar 0) tNil))))
  (tRz (fun cls d _ H => E cls d H) (He.ga K "NoTree"))
  tNext)
  (tSeq (tAsg (tVar 1) (gTup K 2 (gCons (gName 3) (gCons (gName 4) gNil))))
  (tSeq (tAsg (tLst tNil) (gName 5))
  (tSeq (tFor (iEnum K (tCons (tVar 2) tNil)) (gTup K 2 (gCons (gName 6) (gCons (gName 7) gNil)))
  (tDrop (tBM K "list" rAppend (tVar 5) (tCons (tOp rPlus (tCall (sp_begin_height K) [] E0 (tCons (tVar 4) (tCons (tVar 6) tNil))) (tCall (sp_low_in K) [] E0 (tCons (tVar 7) (tCons (tCB rMin2 (tCons (tC (.int 32)) (tCons (tOp rMinus (tVar 3) (tOp rTimes (tC (.int 32)) (tVar 6))) tNil))) tNil)))) tNil))))
  (tRet (tTup (tCons (tTup (tCons (tVar 3) (tCons (tVar 4) (tCons (tCB (rTupOf K) (tCons (tCall (sp_heap_of K) [] E (tCons (tVar 5) tNil)) tNil)) tNil)))) (tCons (tVar 2) tNil)))))))))
abbrev n_kept_brackets : List Str := ["bits", "tables", "blocks", "many", "ahead", "lows", "number", "block"]

theorem rd_kept_brackets (K : PySem.W.Frag) (vs : List V) (H : Hp) (Q : VK) (E : XK) (h : sp_kept_brackets K vs H Q E) : t_kept_brackets K E { nx := fun _ H' => Q .non H', rt := Q } (start n_kept_brackets vs) H := by
  obtain ⟨a, bs, rfl, hS, hl, q1, q2, q3, q4⟩ := h
  unfold t_kept_brackets
  walk_at "st"
  refine ⟨a, bs, rfl, hS, hl, q1, q2, fun hm hB p t pa pb H1 hp ht hpa hpb s1 ep et ea eb => ?_⟩
  walk_at "st"
  refine m_gTup (.of ep) rfl ?_
  walk_at "st"
  refine ⟨a, bs, rfl, s1.seq hS, by omega, fun b H2 hb s2 => ?_⟩
  have s12 := s1.trans s2
  cases b with
  | false =>
    walk_at "st"
    exact q3 hm hB (fun z => Bool.noConfusion (hb.mpr z)) _ s12
  | true =>
  have hI := hb.mp rfl
  walk_at "st"
  refine m_gTup (.of (s2.get et)) rfl ?_
  walk_at "st"
  intro pl hpl
  have s3 := same_new (o := .lst []) hpl
  have e3 := upd_same (H := H2) (a := pl) (o := .lst [])
  generalize upd H2 pl (.lst []) = H3 at s3 e3 ⊢
  have s23 := s2.trans s3
  have s03 := s1.trans s23
  have hplH : H pl = none := s12.gone _ hpl
  have hpl1 : H1 pl = none := s2.gone _ hpl
  walk_at "st"
  refine m_enumE (.of (s23.get eb)) ?_
  have hbl := blks_len bs
  refine loop_walk walk_enum (fun i σ H' => ∃ y z, σ = [some (.ref a), some (.ref t), some (.ref pb), some (.int (bs.length : Int)), some (.ref pa), some (.ref pl), y, z] ∧ i ≤ (bs.length + 31) / 32 ∧ Same H1 H' ∧ H' pl = some (.lst (((List.range i).map (lowOf bs)).map V.int))) ⟨none, none, rfl, Nat.zero_le _, s23, e3⟩ (fun i σ H' ⟨y, z, _, _, s, _⟩ => .of (s.get eb)) ?_ ?_
  · rintro i v σ H4 H5 hi ⟨y, z, rfl, _, s, e⟩ ⟨T, x, w, rfl, hT, rfl, ex, ew⟩
    rw [List.length_map, hbl] at hi
    obtain ⟨b, hbi, rfl⟩ := of_mapint ew
    obtain rfl : x = .int (i : Nat) := (Option.some.inj ex).symm
    have sT := same_new (o := .tup [.int (i : Nat), .int b]) hT
    refine m_gTup (.of upd_same) rfl ?_
    generalize upd H4 T (.tup [.int (i : Nat), .int b]) = H6 at sT ⊢
    have s6 := s.trans sT
    walk_at "st"
    refine k_tyL (.of (sT.get e)) ?_
    walk_at "st"
    refine ⟨pa, bs, i, rfl, .of (s6.get ea), by omega, ?_⟩
    walk_at "st"
    have hu : (if (bs.length : Int) - 32 * (i : Int) < 32 then (bs.length : Int) - 32 * (i : Int) else 32) = ((min 32 (bs.length - 32 * i) : Nat) : Int) := by
      split <;> omega
    rw [hu]
    refine ⟨b, min 32 (bs.length - 32 * i), rfl, by omega, ?_⟩
    walk_at "st"
    refine k_app (sT.get e) (by rw [List.length_map, List.length_map, List.length_range]; omega) ?_
    walk_at "st"
    refine ⟨some (.int (i : Nat)), some (.int b), rfl, by omega, Same.mut s6 hpl1 ⟨_, sT.get e⟩, ?_⟩
    have elo : hgt bs (32 * i) + lowIn b (min 32 (bs.length - 32 * i)) = lowOf bs i := by
      unfold lowOf
      rw [List.getD_eq_getElem?_getD, hbi]; rfl
    rw [upd_same, elo, List.range_succ, List.map_append, List.map_append]; rfl
  rintro σ H4 ⟨y, z, rfl, _, s, e⟩
  rw [List.length_map, hbl] at e
  have e : H4 pl = some (.lst ((lowsOf bs).map V.int)) := e
  have hll := lowsOf_len bs
  walk_at "st"
  refine ⟨pl, lowsOf bs, rfl, .of e, by omega, fun z => by omega, fun _ ph0 H5 hph0 s5 e5 => ?_⟩
  walk_at "st"
  refine k_tupL (.of e5) fun ph hph => ?_
  have s6 := same_new (o := .tup (heapL (lowsOf bs))) hph
  have e6 := upd_same (H := H5) (a := ph) (o := .tup (heapL (lowsOf bs)))
  generalize upd H5 ph (.tup (heapL (lowsOf bs))) = H6 at s6 e6 ⊢
  walk_at "st"
  intro t2 ht2
  have s7 := same_new (o := .tup [.int (bs.length : Int), .ref pa, .ref ph]) ht2
  have e7 := upd_same (H := H6) (a := t2) (o := .tup [.int (bs.length : Int), .ref pa, .ref ph])
  generalize upd H6 t2 (.tup [.int (bs.length : Int), .ref pa, .ref ph]) = H7 at s7 e7 ⊢
  walk_at "st"
  intro p2 hp2
  have s8 := same_new (o := .tup [.ref t2, .ref pb]) hp2
  have s18 := s.trans ((s5.trans s6).trans s7)
  exact q4 hm hB hI p2 t2 pa ph pb _ ((s1.trans s18).gone _ hp2) hpb ((s1.trans s18).trans s8) upd_same (s8.get e7) (s8.get (s18.get ea)) (s8.get (s7.get e6)) (s8.get (s18.get eb))

/-- what is laid ahead of the last closing brackets -/
def brkF (a : Int) : List Int → List Int
  | [] => []
  | d :: ds => List.replicate (a + 1 - d).toNat 0 ++ 1 :: brkF d ds
theorem brkF_all : ∀ (a : Int) (ds : List Int), brkT a ds = brkF a ds ++ List.replicate (lastD a ds + 1).toNat 0
  | a, [] => rfl
  | a, d :: ds => by
    show _ ++ 1 :: brkT d ds = (_ ++ 1 :: brkF d ds) ++ List.replicate (lastD d ds + 1).toNat 0
    rw [brkF_all d ds]; simp
theorem brkF_snoc : ∀ (a : Int) (ds : List Int) (x : Int), brkF a (ds ++ [x]) = brkF a ds ++ List.replicate (lastD a ds + 1 - x).toNat 0 ++ [1]
  | a, [], x => by simp [brkF, lastD]
  | a, d :: ds, x => by
    show _ ++ 1 :: brkF d (ds ++ [x]) = (_ ++ 1 :: brkF d ds) ++ List.replicate (lastD d ds + 1 - x).toNat 0 ++ [1]
    rw [brkF_snoc d ds x]; simp
theorem brkF_le : ∀ {a : Int} {ds : List Int}, 0 ≤ a → DeepT a ds → ((brkF a ds).length : Int) ≤ a + 2 * ds.length
  | _, [], h, _ => by simp only [brkF, List.length_nil]; omega
  | a, d :: ds, h, ⟨a1, a2, a3⟩ => by
    have := brkF_le (by omega) a3
    simp only [brkF, List.length_append, List.length_replicate, List.length_cons]; omega
theorem deepT_take : ∀ {a : Int} {ds : List Int} (n : Nat), DeepT a ds → DeepT a (ds.take n)
  | _, [], n, _ => by rw [List.take_nil]; trivial
  | _, _ :: _, 0, _ => trivial
  | _, _ :: _, n + 1, ⟨a1, a2, a3⟩ => ⟨a1, a2, deepT_take n a3⟩
theorem lastD_take {x : Int} (ds : List Int) : ∀ {a : Int} {i : Nat}, (a :: ds)[i]? = some x → lastD a (ds.take i) = x := by
  induction ds with
  | nil =>
    intro a i h
    cases i with
    | zero => simpa [lastD] using h
    | succ i => simp at h
  | cons d ds ih =>
    intro a i h
    cases i with
    | zero => simpa [lastD] using h
    | succ i =>
      rw [List.getElem?_cons_succ] at h
      exact ih h
theorem lastD_le : ∀ {a : Int} {ds : List Int}, DeepT a ds → lastD a ds ≤ a + ds.length
  | _, [], _ => by simp [lastD]
  | a, d :: ds, ⟨a1, a2, a3⟩ => by
    have := lastD_le a3
    simp only [lastD, List.length_cons]; omega
/-- brackets_of(depths) -/
def sp_brackets_of (K : PySem.W.Frag) : Sp := fun vs H Q E => ∃ (a : Addr) (ds : List Int), vs = [.ref a] ∧ SqL K H a (ds.map V.int) ∧ ds.length ≤ 100000 ∧
  (2048 < ds.length → E (.ref (He.ga K "TooMany")) none H) ∧
  (ds.length ≤ 2048 → ¬ Deep ds → ∀ H', Same H H' → E (.ref (He.ga K "NoTree")) none H') ∧
  (ds.length ≤ 2048 → Deep ds → ∀ p H', H p = none → Same H H' → H' p = some (.lst ((brk ds).map V.int)) → Q (.ref p) H')
theorem len_brackets_of (K : PySem.W.Frag) : ∀ vs H Q E, sp_brackets_of K vs H Q E → vs.length = 1 := by
  rintro vs H Q E ⟨a, ds, rfl, _⟩; rfl
def t_brackets_of (K : PySem.W.Frag) (E : XK) : TS :=
  (tSeq (tIfS (tTest (tOp rGtI (tOp rTimes (tC (.int 2)) (tCB (rLen K) (tCons (tVar 0) tNil))) (tC (.int 4096))))
  (tRz (fun cls d _ H => E cls d H) (He.ga K "TooMany"))
  tNext)
  (tSeq (tIfS (tOr (tTest (tOp rEq (tCB (rLen K) (tCons (tVar 0) tNil)) (tC (.int 0)))) (tTest (tOp rNe (tOp (rIxL K) (tVar 0) (tC (.int 0))) (tC (.int 0)))))
  (tRz (fun cls d _ H => E cls d H) (He.ga K "NoTree"))
  tNext)
  (tSeq (tAsg (tLst (tCons (tC (.int 1)) tNil)) (gName 1))
  (tSeq (tFor (iZip K (tCons (tVar 0) (tCons (tSl (rSlL K) (tVar 0) (tPart (tC (.int 1))) tNoPart) tNil))) (gTup K 2 (gCons (gName 2) (gCons (gName 3) gNil)))
  (tSeq (tIfS (tOr (tTest (tOp rLt (tVar 3) (tC (.int 1)))) (tTest (tOp rGtI (tVar 3) (tOp rPlus (tVar 2) (tC (.int 1))))))
  (tRz (fun cls d _ H => E cls d H) (He.ga K "NoTree"))
  tNext)
  (tSeq (tDrop (tBM K "list" rExtend (tVar 1) (tCons (tOp rRep (tLst (tCons (tC (.int 0)) tNil)) (tOp rMinus (tOp rPlus (tVar 2) (tC (.int 1))) (tVar 3))) tNil)))
  (tDrop (tBM K "list" rAppend (tVar 1) (tCons (tC (.int 1)) tNil))))))
  (tSeq (tDrop (tBM K "list" rExtend (tVar 1) (tCons (tOp rRep (tLst (tCons (tC (.int 0)) tNil)) (tOp rPlus (tOp (rIxL K) (tVar 0) (tUn rNeg (tC (.int 1)))) (tC (.int 1)))) tNil)))
  (tRet (tVar 1)))))))
abbrev n_brackets_of : List Str := ["depths", "bits", "ahead", "deep"]

theorem rd_brackets_of (K : PySem.W.Frag) (vs : List V) (H : Hp) (Q : VK) (E : XK) (h : sp_brackets_of K vs H Q E) : t_brackets_of K E { nx := fun _ H' => Q .non H', rt := Q } (start n_brackets_of vs) H := by
  obtain ⟨a, ds, rfl, hS, hl0, q1, q2, q⟩ := h
  unfold t_brackets_of
  walk_at "st"
  refine k_lenL hS ?_
  walk_at "st"
  rw [List.length_map]
  walk_at "if" <;> intro c0
  · walk_at "st"
    exact q1 (by omega)
  have hl : ds.length ≤ 2048 := by omega
  walk_at "st"
  refine k_lenL hS ?_
  walk_at "st"
  rw [List.length_map]
  walk_at "if" <;> intro c1
  · walk_at "st"
    refine q2 hl (fun z => ?_) H (Same.refl H)
    obtain ⟨r, rfl, _⟩ := z.cons
    rw [List.length_cons] at c1; omega
  obtain ⟨d0, r, rfl⟩ : ∃ d0 r, ds = d0 :: r := by
    cases ds with
    | nil => exact absurd rfl c1
    | cons x xs => exact ⟨x, xs, rfl⟩
  walk_at "st"
  refine k_ixL hS (x := .int d0) (at_int (by decide) rfl) ?_
  walk_at "st"
  walk_at "if" <;> intro c2
  · walk_at "st"
    refine q2 hl (fun z => c2 z.1) H (Same.refl H)
  subst c2
  have hrl : r.length ≤ 2047 := by rw [List.length_cons] at hl; omega
  walk_at "st"
  intro p hp
  have s0 := same_new (o := .lst [.int 1]) hp
  have e0 := upd_same (H := H) (a := p) (o := .lst [.int 1])
  generalize upd H p (.lst [.int 1]) = H1 at s0 e0 ⊢
  walk_at "st"
  refine k_slL (s0.seq hS) fun p2 hp2 => ?_
  have ec : cutV (((0 : Int) :: r).map V.int) (some 1) none = r.map V.int := by simpa using cutDrop (((0 : Int) :: r).map V.int) 1
  rw [ec]
  have s1 := same_new (o := .lst (r.map V.int)) hp2
  have e1 := upd_same (H := H1) (a := p2) (o := .lst (r.map V.int))
  have np : p2 ≠ p := Ne.symm (ne_of_none e0 hp2)
  generalize upd H1 p2 (.lst (r.map V.int)) = H2 at s1 e1 ⊢
  have s02 := s0.trans s1
  walk_at "st"
  refine m_zipE (s02.seq hS) (.of e1) ?_
  refine loop_walk (walk_zip (n := r.length) (by simp)) (fun i σ H' => ∃ x y, σ = [some (.ref a), some (.ref p), x, y] ∧ i ≤ r.length ∧ Same H H' ∧ H' p2 = some (.lst (r.map V.int)) ∧ H' p = some (.lst ((1 :: brkF 0 (r.take i)).map V.int)) ∧ DeepT 0 (r.take i)) ⟨none, none, rfl, Nat.zero_le _, s02, e1, ?_, ?_⟩ (fun i σ H' ⟨_, _, _, _, s, e, _⟩ => ⟨s.seq hS, .of e⟩) ?_ ?_
  · rw [List.take_zero]; exact s1.get e0
  · rw [List.take_zero]; trivial
  · rintro i v σ H3 H4 hi ⟨y, z, rfl, _, s, e2, e, hD⟩ ⟨T, x, w, rfl, hT, rfl, ex, ew⟩
    obtain ⟨dp, hdp, rfl⟩ := of_mapint ew
    obtain ⟨ah, hah, rfl⟩ := of_mapint ex
    have sT := same_new (o := .tup [.int ah, .int dp]) hT
    have eT := upd_same (H := H3) (a := T) (o := .tup [.int ah, .int dp])
    generalize upd H3 T (.tup [.int ah, .int dp]) = H5 at sT eT ⊢
    have sH5 := s.trans sT
    refine m_gTup (.of eT) rfl ?_
    have hla := lastD_take r hah
    have hub := lastD_le hD
    have hnn := lastD_nonneg (by decide) hD
    rw [hla] at hub hnn
    rw [List.length_take] at hub
    walk_at "st"
    have bad : ¬ (1 ≤ dp ∧ dp ≤ ah + 1) → ¬ Deep (0 :: r) := fun c z => c (deepT_get z.2 hah hdp)
    walk_at "if" <;> intro c3
    · walk_at "st"
      exact q2 hl (bad fun z => by omega) _ sH5
    walk_at "st"
    walk_at "if" <;> intro c4
    · walk_at "st"
      exact q2 hl (bad fun z => by omega) _ sH5
    walk_at "st"
    refine k_tyL (.of (sT.get e)) ?_
    walk_at "st"
    intro p3 hp3
    walk_at "st"
    rw [show ah + 1 - dp = (((ah + 1 - dp).toNat : Nat) : Int) by omega]
    refine k_rep (xs := [.int 0]) upd_same (by simp only [List.length_cons, List.length_nil]; omega) (by omega) fun p4 hp4 => ?_
    rw [rep_one]
    have s4 := (same_new (o := .lst [.int 0]) hp3).trans (same_new (o := .lst (List.replicate (ah + 1 - dp).toNat (V.int 0))) hp4)
    have e4 := upd_same (H := upd H5 p3 (.lst [.int 0])) (a := p4) (o := .lst (List.replicate (ah + 1 - dp).toNat (V.int 0)))
    generalize upd (upd H5 p3 (.lst [.int 0])) p4 (.lst (List.replicate (ah + 1 - dp).toNat (V.int 0))) = H6 at s4 e4 ⊢
    walk_at "st"
    have hfl := brkF_le (by decide) hD
    rw [List.length_take] at hfl
    have e6 := s4.get (sT.get e)
    refine k_extend e6 e4 (by rw [List.length_map, List.length_replicate, List.length_cons]; omega) ?_
    have s7 : Same H (upd H6 p (.lst ((1 :: brkF 0 (r.take i)).map V.int ++ List.replicate (ah + 1 - dp).toNat (V.int 0)))) := Same.mut (sH5.trans s4) hp ⟨_, e6⟩
    have e7 := upd_same (H := H6) (a := p) (o := .lst ((1 :: brkF 0 (r.take i)).map V.int ++ List.replicate (ah + 1 - dp).toNat (V.int 0)))
    have e72 : upd H6 p (.lst ((1 :: brkF 0 (r.take i)).map V.int ++ List.replicate (ah + 1 - dp).toNat (V.int 0))) p2 = some (.lst (r.map V.int)) := by rw [upd_ne np]; exact s4.get (sT.get e2)
    generalize upd H6 p (.lst ((1 :: brkF 0 (r.take i)).map V.int ++ List.replicate (ah + 1 - dp).toNat (V.int 0))) = H7 at s7 e7 e72 ⊢
    walk_at "st"
    refine k_tyL (.of e7) ?_
    walk_at "st"
    refine k_app e7 (by rw [List.length_append, List.length_map, List.length_replicate, List.length_cons]; omega) ?_
    refine ⟨_, _, rfl, by omega, Same.mut s7 hp ⟨_, e7⟩, by rw [upd_ne np]; exact e72, ?_, ?_⟩
    · rw [upd_same, List.take_add_one, hdp]
      show _ = some (HO.lst ((1 :: brkF 0 (r.take i ++ [dp])).map V.int))
      rw [brkF_snoc, hla]
      simp [List.map_replicate]
    · rw [List.take_add_one, hdp]
      exact deepT_snoc hD (by omega) (by rw [hla]; omega)
  rintro σ H3 ⟨y, z, rfl, _, s, e2, e, hD⟩
  rw [List.take_length] at e hD
  have hnn := lastD_nonneg (by decide) hD
  have hub := lastD_le hD
  have hfl := brkF_le (by decide) hD
  walk_at "st"
  refine k_tyL (.of e) ?_
  walk_at "st"
  intro p3 hp3
  walk_at "st"
  have s3 := same_new (o := .lst [.int 0]) hp3
  refine k_ixL ((s.trans s3).seq hS) (at_lastD r) ?_
  walk_at "st"
  rw [show lastD 0 r + 1 = (((lastD 0 r + 1).toNat : Nat) : Int) by omega]
  refine k_rep (xs := [.int 0]) upd_same (by simp only [List.length_cons, List.length_nil]; omega) (by omega) fun p4 hp4 => ?_
  rw [rep_one]
  have s4 := s3.trans (same_new (o := .lst (List.replicate (lastD 0 r + 1).toNat (V.int 0))) hp4)
  have e4 := upd_same (H := upd H3 p3 (.lst [.int 0])) (a := p4) (o := .lst (List.replicate (lastD 0 r + 1).toNat (V.int 0)))
  generalize upd (upd H3 p3 (.lst [.int 0])) p4 (.lst (List.replicate (lastD 0 r + 1).toNat (V.int 0))) = H6 at s4 e4 ⊢
  walk_at "st"
  refine k_extend (s4.get e) e4 (by rw [List.length_map, List.length_replicate, List.length_cons]; omega) ?_
  walk_at "st"
  refine q hl ⟨rfl, hD⟩ p _ hp (Same.mut (s.trans s4) hp ⟨_, s4.get e⟩) ?_
  rw [upd_same]
  show _ = some (HO.lst ((1 :: brkT 0 r).map V.int))
  rw [brkF_all]
  simp [List.map_replicate]

theorem up_brkF : ∀ {a : Int} {ds : List Int}, 0 ≤ a → DeepT a ds → Up (a + 1) (brkF a ds) (lastD a ds + 1)
  | _, [], _, _ => rfl
  | a, d :: ds, h, ⟨a1, a2, a3⟩ => by
    have h1 := up_noughts (a + 1 - d).toNat (h := a + 1) (by omega)
    rw [show a + 1 - ((a + 1 - d).toNat : Int) = d by omega] at h1
    exact h1.app ⟨.inr rfl, by omega, (show d + (2 * 1 - 1) = d + 1 by omega) ▸ up_brkF (by omega) a3⟩
theorem brk_tree {ds : List Int} (h : Deep ds) : IsTree (brk ds) ∧ Bits (brk ds) := by
  obtain ⟨r, rfl, h2⟩ := h.cons
  have u : Up 0 (1 :: brkF 0 r) (lastD 0 r + 1) := ⟨.inr rfl, by omega, up_brkF (Int.le_refl _) h2⟩
  have e : brk (0 :: r) = (1 :: brkF 0 r) ++ List.replicate (lastD 0 r + 1).toNat 0 := by
    show 1 :: brkT 0 r = _
    rw [brkF_all]; rfl
  have hn := lastD_nonneg (Int.le_refl _) h2
  rw [e]
  refine ⟨tree_of_up u (by omega), fun b hb => ?_⟩
  rcases List.mem_append.mp hb with z | z
  · exact u.bits b z
  · exact .inl (List.eq_of_mem_replicate z)

/-- kept_tree(depths) -/
def sp_kept_tree (K : PySem.W.Frag) : Sp := fun vs H Q E => ∃ (a : Addr) (ds : List Int), vs = [.ref a] ∧ SqL K H a (ds.map V.int) ∧ ds.length ≤ 100000 ∧
  (2048 < ds.length → E (.ref (He.ga K "TooMany")) none H) ∧
  (ds.length ≤ 2048 → ¬ Deep ds → ∀ H', Same H H' → E (.ref (He.ga K "NoTree")) none H') ∧
  (ds.length ≤ 2048 → Deep ds → ∀ p t pa ph pb H', H p = none → H pb = none → Same H H' → H' p = some (.tup [.ref t, .ref pb]) → H' t = some (.tup [.int ((brk ds).length : Int), .ref pa, .ref ph]) → H' pa = some (.tup ((aheadT (brk ds)).map V.int)) → H' ph = some (.tup (heapL (lowsOf (brk ds)))) → H' pb = some (.lst ((blks (brk ds)).map V.int)) → Q (.ref p) H')
theorem len_kept_tree (K : PySem.W.Frag) : ∀ vs H Q E, sp_kept_tree K vs H Q E → vs.length = 1 := by
  rintro vs H Q E ⟨a, ds, rfl, _⟩; rfl
def t_kept_tree (K : PySem.W.Frag) (E : XK) : TS :=
  (tRet (tCall (sp_kept_brackets K) [] E (tCons (tCall (sp_brackets_of K) [] E (tCons (tVar 0) tNil)) tNil)))
abbrev n_kept_tree : List Str := ["depths"]

theorem rd_kept_tree (K : PySem.W.Frag) (vs : List V) (H : Hp) (Q : VK) (E : XK) (h : sp_kept_tree K vs H Q E) : t_kept_tree K E { nx := fun _ H' => Q .non H', rt := Q } (start n_kept_tree vs) H := by
  obtain ⟨a, ds, rfl, hS, hl, q1, q2, q3⟩ := h
  unfold t_kept_tree
  walk_at "st"
  refine ⟨a, ds, rfl, hS, hl, q1, q2, fun hm hD p0 H1 hp0 s1 e1 => ?_⟩
  obtain ⟨hT, hB⟩ := brk_tree hD
  have hb := brk_len hD
  walk_at "st"
  refine ⟨p0, brk ds, rfl, .of e1, by omega, fun z => absurd z (by omega), fun _ z => absurd hB z, fun _ _ z => absurd hT z, fun _ _ _ p t pa ph pb H2 hp hpb s2 ep et ea eh eb => ?_⟩
  exact q3 hm hD p t pa ph pb H2 (s1.gone _ hp) (s1.gone _ hpb) (s1.trans s2) ep et ea eh eb

theorem isK_uniq : ∀ {as bs : List Int}, as.Pairwise (· < ·) → bs.Pairwise (· < ·) → (∀ k, k ∈ as ↔ k ∈ bs) → as = bs
  | [], [], _, _, _ => rfl
  | [], b :: bs, _, _, h => by have := (h b).mpr List.mem_cons_self; simp at this
  | a :: as, [], _, _, h => by have := (h a).mp List.mem_cons_self; simp at this
  | a :: as, b :: bs, sa, sb, h => by
    obtain ⟨a1, a2⟩ := List.pairwise_cons.mp sa
    obtain ⟨b1, b2⟩ := List.pairwise_cons.mp sb
    have e : a = b := by
      rcases List.mem_cons.mp ((h a).mp List.mem_cons_self) with z | z
      · exact z
      · rcases List.mem_cons.mp ((h b).mpr List.mem_cons_self) with w | w
        · exact w.symm
        · have := a1 b w; have := b1 a z; omega
    subst e
    rw [isK_uniq a2 b2 fun k => ⟨fun hk => ?_, fun hk => ?_⟩]
    · rcases List.mem_cons.mp ((h k).mp (List.mem_cons_of_mem _ hk)) with z | z
      · have := a1 k hk; omega
      · exact z
    · rcases List.mem_cons.mp ((h k).mpr (List.mem_cons_of_mem _ hk)) with z | z
      · have := b1 k hk; omega
      · exact z

/-! rows halved by the bits of their numbers -/
/-- a stretch -/
def seg {α : Type} (xs : List α) (s e : Nat) : List α := (xs.take e).drop s
/-- how many of the first i hold p -/
def cp {α : Type} (p : α → Bool) (xs : List α) (i : Nat) : Nat := ((xs.take i).filter p).length
theorem filter_take {α : Type} (p : α → Bool) : ∀ (xs : List α) (i : Nat), (xs.take i).filter p = (xs.filter p).take (cp p xs i)
  | [], i => by simp [cp]
  | x :: xs, 0 => by simp [cp]
  | x :: xs, i + 1 => by
    have ih := filter_take p xs i
    unfold cp at ih ⊢
    rw [List.take_succ_cons, List.filter_cons, List.filter_cons]
    split
    · rw [List.length_cons, List.take_succ_cons, ← ih]
    · exact ih
theorem take_seg {α : Type} (xs : List α) {s e : Nat} (h : s ≤ e) : xs.take e = xs.take s ++ seg xs s e := by
  unfold seg
  have := List.take_append_drop s (xs.take e)
  rw [List.take_take, Nat.min_eq_left h] at this
  exact this.symm
theorem cp_mono {α : Type} (p : α → Bool) (xs : List α) {s e : Nat} (h : s ≤ e) : cp p xs s ≤ cp p xs e := by
  unfold cp
  rw [take_seg xs h, List.filter_append, List.length_append]; omega
theorem seg_filter {α : Type} (p : α → Bool) (xs : List α) {s e : Nat} (h : s ≤ e) : (seg xs s e).filter p = seg (xs.filter p) (cp p xs s) (cp p xs e) := by
  have e1 := filter_take p xs e
  rw [take_seg xs h, List.filter_append] at e1
  show _ = ((xs.filter p).take (cp p xs e)).drop (cp p xs s)
  rw [← e1]
  unfold cp
  rw [List.drop_left]
theorem seg_left {α : Type} {as bs : List α} {s e : Nat} (h : e ≤ as.length) : seg (as ++ bs) s e = seg as s e := by
  unfold seg; rw [List.take_append_of_le_length h]
theorem seg_right {α : Type} {as bs : List α} {s e : Nat} : seg (as ++ bs) (as.length + s) (as.length + e) = seg bs s e := by
  unfold seg
  rw [List.take_append, List.take_of_length_le (by omega), show as.length + e - as.length = e by omega, List.drop_append, List.drop_eq_nil_of_le (by omega), List.nil_append, show as.length + s - as.length = s by omega]
theorem seg_one {α : Type} {xs : List α} {i : Nat} {r : α} (h : xs[i]? = some r) : seg xs i (i + 1) = [r] := by
  unfold seg
  rw [List.take_add_one, h]
  have hl := (List.getElem?_eq_some_iff.mp h).1
  rw [List.drop_append, List.drop_eq_nil_of_le (by rw [List.length_take]; omega), List.length_take, show i - min i xs.length = 0 by omega]; rfl
theorem seg_head {α : Type} {xs ys : List α} {s e : Nat} {r : α} (h : seg xs s e = r :: ys) : xs[s]? = some r := by
  unfold seg at h
  have h2 : ((xs.take e).drop s)[0]? = some r := by rw [h]; rfl
  rw [List.getElem?_drop, List.getElem?_take, Nat.add_zero] at h2
  split at h2
  · exact h2
  · cases h2
theorem seg_length {α : Type} {xs : List α} {s e : Nat} (h : e ≤ xs.length) : (seg xs s e).length = e - s := by
  unfold seg; rw [List.length_drop, List.length_take]; omega
theorem seg_all {α : Type} {xs : List α} {e : Nat} (h : xs.length ≤ e) : seg xs 0 e = xs := by
  unfold seg; rw [List.drop_zero, List.take_of_length_le h]
theorem seg_map {α β : Type} (f : α → β) (xs : List α) (s e : Nat) : seg (xs.map f) s e = (seg xs s e).map f := by
  unfold seg; rw [← List.map_take, ← List.map_drop]
theorem seg_get {α : Type} {xs : List α} {s e i : Nat} (h : s + i < e) : (seg xs s e)[i]? = xs[s + i]? := by
  unfold seg; rw [List.getElem?_drop, List.getElem?_take, if_pos h]
/-- a number's bit of a weight -/
def wb (w r : Nat) : Nat := r / 2 ^ w % 2
theorem wb_le (w r : Nat) : wb w r = 0 ∨ wb w r = 1 := by unfold wb; omega
abbrev p0 (w : Nat) : Nat → Bool := fun r => decide (wb w r = 0)
abbrev p1 (w : Nat) : Nat → Bool := fun r => decide (wb w r = 1)
theorem cp_both (w : Nat) : ∀ (xs : List Nat) (i : Nat), i ≤ xs.length → cp (p0 w) xs i + cp (p1 w) xs i = i
  | xs, 0, _ => by simp [cp]
  | [], i + 1, h => by simp at h
  | x :: xs, i + 1, h => by
    have ih := cp_both w xs i (by simpa using h)
    unfold cp at ih ⊢
    rw [List.take_succ_cons, List.filter_cons, List.filter_cons]
    rcases wb_le w x with z | z
    · rw [if_pos (by simp [z]), if_neg (by simp [z])]; simp only [List.length_cons]; omega
    · rw [if_neg (by simp [z]), if_pos (by simp [z])]; simp only [List.length_cons]; omega
/-- the noughts' numbers ahead of the ones' -/
def partW (w : Nat) (row : List Nat) : List Nat := row.filter (p0 w) ++ row.filter (p1 w)
theorem partW_len (w : Nat) (row : List Nat) : (partW w row).length = row.length := by
  have := cp_both w row row.length (Nat.le_refl _)
  unfold cp at this
  rw [List.take_length] at this
  unfold partW
  rw [List.length_append]; exact this
theorem mem_partW {w : Nat} {row : List Nat} {r : Nat} : r ∈ partW w row ↔ r ∈ row := by
  unfold partW
  rw [List.mem_append, List.mem_filter, List.mem_filter]
  rcases wb_le w r with z | z <;> simp [z]
/-- the row at each level -/
def rowsW (L : Nat) (row : List Nat) : Nat → List Nat
  | 0 => row
  | l + 1 => partW (L - 1 - l) (rowsW L row l)
theorem rowsW_len (L : Nat) (row : List Nat) : ∀ l, (rowsW L row l).length = row.length
  | 0 => rfl
  | l + 1 => by show (partW _ _).length = _; rw [partW_len, rowsW_len L row l]
theorem mem_rowsW {L : Nat} {row : List Nat} {r : Nat} : ∀ {l}, r ∈ rowsW L row l ↔ r ∈ row
  | 0 => Iff.rfl
  | l + 1 => mem_partW.trans (mem_rowsW (l := l))
/-- its bits -/
def bitsW (L : Nat) (row : List Nat) (l : Nat) : List Int := (rowsW L row l).map fun r => ((wb (L - 1 - l) r : Nat) : Int)
theorem bitsW_len (L : Nat) (row : List Nat) (l : Nat) : (bitsW L row l).length = row.length := by unfold bitsW; rw [List.length_map, rowsW_len]
theorem bitsW_bits (L : Nat) (row : List Nat) (l : Nat) : Bits (bitsW L row l) := fun x hx => by
  obtain ⟨r, _, rfl⟩ := List.mem_map.mp hx
  rcases wb_le (L - 1 - l) r with z | z <;> rw [z]
  · exact .inl rfl
  · exact .inr rfl
/-- noughts, ones ahead of a place -/
def nW (L : Nat) (row : List Nat) (l i : Nat) : Nat := cp (p0 (L - 1 - l)) (rowsW L row l) i
def uW (L : Nat) (row : List Nat) (l i : Nat) : Nat := cp (p1 (L - 1 - l)) (rowsW L row l) i
theorem nuW {L : Nat} {row : List Nat} {l i : Nat} (h : i ≤ row.length) : nW L row l i + uW L row l i = i := cp_both _ _ _ (by rw [rowsW_len]; exact h)
theorem sumTo_wb (w : Nat) : ∀ (xs : List Nat) (i : Nat), sumTo (xs.map fun r => ((wb w r : Nat) : Int)) i = (cp (p1 w) xs i : Nat)
  | [], i => by simp [cp, sumTo]
  | x :: xs, 0 => by simp [cp, sumTo]
  | x :: xs, i + 1 => by
    have ih := sumTo_wb w xs i
    unfold cp at ih ⊢
    unfold sumTo at ih ⊢
    rw [List.map_cons, List.take_succ_cons, List.take_succ_cons, List.sum_cons, ih, List.filter_cons]
    rcases wb_le w x with z | z
    · rw [if_neg (by simp [z]), z]; simp
    · rw [if_pos (by simp [z]), z, List.length_cons]; push_cast; omega
theorem sumW (L : Nat) (row : List Nat) (l i : Nat) : sumTo (bitsW L row l) i = (uW L row l i : Nat) := sumTo_wb _ _ _
theorem noughtW {L : Nat} {row : List Nat} {l i : Nat} (h : i ≤ row.length) : (i : Int) - sumTo (bitsW L row l) i = (nW L row l i : Nat) := by
  rw [sumW]; have := nuW (L := L) (l := l) h; omega
/-- all noughts -/
def zW (L : Nat) (row : List Nat) (l : Nat) : Nat := nW L row l row.length
theorem zW_len (L : Nat) (row : List Nat) (l : Nat) : ((rowsW L row l).filter (p0 (L - 1 - l))).length = zW L row l := by
  unfold zW nW cp
  rw [List.take_of_length_le (by rw [rowsW_len]; exact Nat.le_refl _)]
theorem nW_mono {L : Nat} {row : List Nat} {l s e : Nat} (h : s ≤ e) : nW L row l s ≤ nW L row l e := cp_mono _ _ h
theorem uW_mono {L : Nat} {row : List Nat} {l s e : Nat} (h : s ≤ e) : uW L row l s ≤ uW L row l e := cp_mono _ _ h
theorem nW_le {L : Nat} {row : List Nat} {l e : Nat} (h : e ≤ row.length) : nW L row l e ≤ zW L row l := nW_mono h
theorem zuW {L : Nat} {row : List Nat} {l e : Nat} (h : e ≤ row.length) : zW L row l + uW L row l e ≤ row.length := by
  have h1 := uW_mono (L := L) (row := row) (l := l) h
  have h2 := nuW (L := L) (l := l) (Nat.le_refl row.length)
  unfold zW
  omega
theorem seg_n {L : Nat} {row : List Nat} {l s e : Nat} (h : s ≤ e) (he : e ≤ row.length) : (seg (rowsW L row l) s e).filter (p0 (L - 1 - l)) = seg (rowsW L row (l + 1)) (nW L row l s) (nW L row l e) := by
  rw [seg_filter _ _ h]
  show _ = seg (partW _ _) _ _
  unfold partW
  rw [seg_left (by rw [zW_len]; exact nW_le he)]; rfl
theorem seg_u {L : Nat} {row : List Nat} {l s e : Nat} (h : s ≤ e) : (seg (rowsW L row l) s e).filter (p1 (L - 1 - l)) = seg (rowsW L row (l + 1)) (zW L row l + uW L row l s) (zW L row l + uW L row l e) := by
  rw [seg_filter _ _ h]
  show _ = seg (partW _ _) _ _
  unfold partW
  rw [← zW_len, seg_right]; rfl
/-- one item, a level on -/
theorem item_n {L : Nat} {row : List Nat} {l i r : Nat} (h : (rowsW L row l)[i]? = some r) (hb : wb (L - 1 - l) r = 0) : (rowsW L row (l + 1))[nW L row l i]? = some r := by
  have hl := (List.getElem?_eq_some_iff.mp h).1
  rw [rowsW_len] at hl
  have := seg_n (L := L) (l := l) (show i ≤ i + 1 by omega) hl
  rw [seg_one h, List.filter_cons, if_pos (by simp [hb])] at this
  exact seg_head this.symm
theorem item_u {L : Nat} {row : List Nat} {l i r : Nat} (h : (rowsW L row l)[i]? = some r) (hb : wb (L - 1 - l) r = 1) : (rowsW L row (l + 1))[zW L row l + uW L row l i]? = some r := by
  have := seg_u (L := L) (row := row) (l := l) (show i ≤ i + 1 by omega)
  rw [seg_one h, List.filter_cons, if_pos (by simp [hb])] at this
  exact seg_head this.symm
/-- a number's first bits -/
def pre (L l r : Nat) : Nat := r / 2 ^ (L - l)
theorem pre_next {L l r : Nat} (h : l < L) : pre L (l + 1) r = 2 * pre L l r + wb (L - 1 - l) r := by
  unfold pre wb
  rw [show L - (l + 1) = L - 1 - l by omega, show L - l = L - 1 - l + 1 by omega, Nat.pow_succ, ← Nat.div_div_eq_div_mul]
  omega
theorem pre_end (L r : Nat) : pre L L r = r := by unfold pre; rw [Nat.sub_self]; simp
theorem pre_zero {L r : Nat} (h : r < 2 ^ L) : pre L 0 r = 0 := by unfold pre; exact Nat.div_eq_of_lt h
/-- the stretch of those that begin alike -/
theorem down_n {L : Nat} {row S : List Nat} {l s e p : Nat} (hl : l < L) (h : s ≤ e) (he : e ≤ row.length) (hS : seg (rowsW L row l) s e = S.filter fun r => pre L l r = p) : seg (rowsW L row (l + 1)) (nW L row l s) (nW L row l e) = S.filter fun r => pre L (l + 1) r = 2 * p := by
  rw [← seg_n h he, hS, List.filter_filter]
  refine List.filter_congr fun r _ => ?_
  rw [pre_next hl]
  show (decide (wb (L - 1 - l) r = 0) && decide (pre L l r = p)) = decide (2 * pre L l r + wb (L - 1 - l) r = 2 * p)
  rw [← Bool.decide_and]
  have := wb_le (L - 1 - l) r
  exact decide_eq_decide.mpr (by omega)
theorem down_u {L : Nat} {row S : List Nat} {l s e p : Nat} (hl : l < L) (h : s ≤ e) (hS : seg (rowsW L row l) s e = S.filter fun r => pre L l r = p) : seg (rowsW L row (l + 1)) (zW L row l + uW L row l s) (zW L row l + uW L row l e) = S.filter fun r => pre L (l + 1) r = 2 * p + 1 := by
  rw [← seg_u h, hS, List.filter_filter]
  refine List.filter_congr fun r _ => ?_
  rw [pre_next hl]
  show (decide (wb (L - 1 - l) r = 1) && decide (pre L l r = p)) = decide (2 * pre L l r + wb (L - 1 - l) r = 2 * p + 1)
  rw [← Bool.decide_and]
  have := wb_le (L - 1 - l) r
  exact decide_eq_decide.mpr (by omega)
/-! kinds and ranks -/
structure IsK (ks sg : List Int) : Prop where
  srt : ks.Pairwise (· < ·)
  mem : ∀ k, k ∈ ks ↔ k ∈ sg
def rk (ks : List Int) (x : Int) : Nat := ks.countP fun y => y < x
theorem rk_get : ∀ {ks : List Int} {i : Nat} {x : Int}, ks.Pairwise (· < ·) → ks[i]? = some x → rk ks x = i
  | [], i, x, _, h => by simp at h
  | k :: ks, 0, x, s, h => by
    obtain rfl : k = x := by simpa using h
    unfold rk
    rw [List.countP_cons, if_neg (by simp), Nat.add_zero, List.countP_eq_zero]
    intro y hy
    have := (List.pairwise_cons.mp s).1 y hy
    simp; omega
  | k :: ks, i + 1, x, s, h => by
    obtain ⟨s1, s2⟩ := List.pairwise_cons.mp s
    rw [List.getElem?_cons_succ] at h
    have ih := rk_get s2 h
    have := s1 x (List.mem_of_getElem? h)
    unfold rk at ih ⊢
    rw [List.countP_cons, ih, if_pos (by simpa using this)]
theorem get_rk {ks : List Int} {x : Int} (s : ks.Pairwise (· < ·)) (h : x ∈ ks) : ks[rk ks x]? = some x := by
  obtain ⟨i, hi⟩ := List.mem_iff_getElem?.mp h
  rw [rk_get s hi]; exact hi
theorem rk_lt {ks : List Int} {x : Int} (s : ks.Pairwise (· < ·)) (h : x ∈ ks) : rk ks x < ks.length := (List.getElem?_eq_some_iff.mp (get_rk s h)).1
theorem rk_le (ks : List Int) (x : Int) : rk ks x ≤ ks.length := List.countP_le_length
theorem rk_mono (ks : List Int) {x y : Int} (h : x ≤ y) : rk ks x ≤ rk ks y := by
  unfold rk
  exact List.countP_mono_left fun z _ hz => by simp at hz ⊢; omega
theorem rk_iff {ks : List Int} {x v : Int} (s : ks.Pairwise (· < ·)) (h : x ∈ ks) : rk ks x < rk ks v ↔ x < v := by
  constructor
  · intro a
    rcases Int.lt_or_le x v with z | z
    · exact z
    · have := rk_mono ks z; omega
  · intro a
    have e := get_rk s h
    have h1 := (List.getElem?_eq_some_iff.mp e).1
    -- the first rk x + 1 are below v
    have h2 : ((ks.take (rk ks x + 1)).countP fun y => y < v) = rk ks x + 1 := by
      have h3 : (ks.take (rk ks x + 1)).length = rk ks x + 1 := by rw [List.length_take]; omega
      refine Eq.trans (List.countP_eq_length.mpr fun y hy => ?_) h3
      obtain ⟨j, hj⟩ := List.mem_iff_getElem?.mp hy
      rw [List.getElem?_take] at hj
      split at hj
      · have hr := rk_get s hj
        have : y ≤ x := by
          rcases Int.lt_or_le x y with z | z
          · exfalso
            have p := List.pairwise_iff_getElem.mp s
            obtain ⟨j1, j2⟩ := List.getElem?_eq_some_iff.mp hj
            obtain ⟨i1, i2⟩ := List.getElem?_eq_some_iff.mp e
            rcases Nat.lt_or_ge j (rk ks x) with w | w
            · have := p j (rk ks x) j1 i1 w
              omega
            · have : j = rk ks x := by omega
              subst this
              omega
          · exact z
        simp; omega
      · cases hj
    have h4 := List.countP_append (p := fun y : Int => decide (y < v)) (l₁ := ks.take (rk ks x + 1)) (l₂ := ks.drop (rk ks x + 1))
    rw [List.take_append_drop, h2] at h4
    unfold rk at h4 ⊢
    omega
/-- the ranks of a row of signs -/
def ranks (ks sg : List Int) : List Nat := sg.map (rk ks)
theorem ranks_len (ks sg : List Int) : (ranks ks sg).length = sg.length := by unfold ranks; rw [List.length_map]

/-- how many levels -/
def lvK (ks : List Int) : Nat := hOf ks.length
/-- the blocks of a level -/
def eachB (sg : List Int) : Nat := (sg.length + 31) / 32
def bitsK (ks sg : List Int) (l : Nat) : List Int := bitsW (lvK ks) (ranks ks sg) l
theorem bitsK_len (ks sg : List Int) (l : Nat) : (bitsK ks sg l).length = sg.length := by unfold bitsK; rw [bitsW_len, ranks_len]
theorem bitsK_bits (ks sg : List Int) (l : Nat) : Bits (bitsK ks sg l) := bitsW_bits _ _ _
theorem bitsK_blks (ks sg : List Int) (l : Nat) : (blks (bitsK ks sg l)).length = eachB sg := by rw [blks_len, bitsK_len]; rfl
/-- the blocks of the first m levels -/
def sgB (ks sg : List Int) : Nat → List Int
  | 0 => []
  | m + 1 => sgB ks sg m ++ blks (bitsK ks sg m)
theorem sgB_len (ks sg : List Int) : ∀ m, (sgB ks sg m).length = m * eachB sg
  | 0 => by simp [sgB]
  | m + 1 => by unfold sgB; rw [List.length_append, sgB_len ks sg m, bitsK_blks, Nat.succ_mul]
theorem sgB_get (ks sg : List Int) {l k : Nat} : ∀ {m}, l < m → k < eachB sg → (sgB ks sg m)[l * eachB sg + k]? = (blks (bitsK ks sg l))[k]?
  | 0, h, _ => by omega
  | m + 1, h, hk => by
    unfold sgB
    rcases Nat.lt_or_ge l m with z | z
    · have h1 : l * eachB sg + eachB sg ≤ m * eachB sg := by rw [← Nat.succ_mul]; exact Nat.mul_le_mul_right _ z
      rw [List.getElem?_append_left (by rw [sgB_len]; omega)]
      exact sgB_get ks sg z hk
    · obtain rfl : l = m := by omega
      rw [List.getElem?_append_right (by rw [sgB_len]; omega), sgB_len, show l * eachB sg + k - l * eachB sg = k by omega]
theorem nodup_len {ks sg : List Int} (h : IsK ks sg) : ks.length ≤ sg.length := by
  refine List.Nodup.length_le_of_subset ?_ fun x hx => (h.mem x).mp hx
  exact h.srt.imp fun {a b} z => by omega
theorem lvK_le {ks sg : List Int} (h : IsK ks sg) (hl : sg.length ≤ 4096) : lvK ks ≤ 12 := hOf_small (Nat.le_trans (nodup_len h) hl)
theorem rank_lt {ks sg : List Int} (h : IsK ks sg) {r : Nat} (hr : r ∈ ranks ks sg) : r < ks.length ∧ r < 2 ^ lvK ks := by
  obtain ⟨x, hx, rfl⟩ := List.mem_map.mp hr
  have h1 := rk_lt h.srt ((h.mem x).mpr hx)
  exact ⟨h1, Nat.lt_of_lt_of_le h1 (hOf_le _)⟩
/-- the last number of the ones ahead -/
theorem ahead_last (bs : List Int) : atI ((aheadT bs).map V.int) (-1) = some (.int bs.sum) := by
  unfold aheadT
  rw [aheadN_succ, List.map_append]
  have := atI_last ((aheadN bs ((bs.length + 31) / 32)).map V.int) (V.int (sumTo bs (32 * ((bs.length + 31) / 32))))
  rw [sumTo_all bs (show bs.length ≤ 32 * ((bs.length + 31) / 32) by omega)] at this ⊢
  exact this
theorem zK {ks sg : List Int} (l : Nat) : (sg.length : Int) - (bitsK ks sg l).sum = (zW (lvK ks) (ranks ks sg) l : Nat) := by
  have := noughtW (L := lvK ks) (l := l) (Nat.le_refl (ranks ks sg).length)
  rw [sumTo_all _ (by rw [bitsW_len]; exact Nat.le_refl _), ranks_len] at this
  exact this.trans (by unfold zW; rw [ranks_len])

/-! for .. in reversed(range(n)) -/
def RevRK (R : It → Hp → Prop) (x : V) (H : Hp) : Prop := ∃ n, x = .int n ∧ (-(2 ^ 62) ≤ (0 : Int) ∧ (0 : Int) < 2 ^ 62 ∧ -(2 ^ 62) ≤ n ∧ n < 2 ^ 62 ∧ R (Itc (0 + (((n - 0).toNat : Nat) : Int) - 1) (-1) (n - 0).toNat) H)
theorem m_revR1 {ta : TE} {σ : L2.St} {H : Hp} {R : It → Hp → Prop} (h : ta σ H (RevRK R)) : iRevR (tRg1 ta) σ H R := h
theorem m_revRe {R : It → Hp → Prop} {n : Nat} {H : Hp} (hn : n ≤ 1000000) (r : R (Itc ((n : Int) - 1) (-1) n) H) : RevRK R (.int (n : Int)) H := by
  refine ⟨n, rfl, by decide, by decide, by omega, by omega, ?_⟩
  rw [show ((n : Int) - 0).toNat = n by omega, show (0 : Int) + (n : Int) - 1 = (n : Int) - 1 by omega]
  exact r
theorem loop_revR {n : Nat} {g : TG} {tb : TS} {nx : L2.St → Hp → Prop} {rt : VK} {σ : L2.St} {H : Hp} (Pv : Nat → L2.St → Hp → Prop) (h0 : Pv 0 σ H)
    (hs : ∀ i σ H, i < n → Pv i σ H → g (.int ((n - 1 - i : Nat) : Int)) σ H fun σ2 H2 => tb (Ends.mk (Pv (i + 1)) rt nx (Pv (i + 1))) σ2 H2) (hd : ∀ σ H, Pv n σ H → nx σ H) : LoopOk (Itc ((n : Int) - 1) (-1) n) g tb nx rt σ H :=
  loop_walk (n := n) walk_rangeC Pv h0 (fun _ _ _ _ => trivial) (fun i v σ H H' hi p hy => by
    obtain ⟨rfl, rfl⟩ := hy
    show g (.int ((n : Int) - 1 + (i : Nat) * (-1))) σ _ _
    rw [show (n : Int) - 1 + (i : Nat) * (-1) = ((n - 1 - i : Nat) : Int) by omega]
    exact hs i σ _ hi p) hd

/-- levels_for(kinds) -/
def sp_levels_for (K : PySem.W.Frag) : Sp := fun vs H Q _ => ∃ n : Nat, vs = [.int (n : Int)] ∧ n ≤ 4096 ∧ Q (.int (hOf n : Nat)) H
theorem len_levels_for (K : PySem.W.Frag) : ∀ vs H Q E, sp_levels_for K vs H Q E → vs.length = 1 := by
  rintro vs H Q E ⟨x, rfl, _⟩; rfl
def t_levels_for (K : PySem.W.Frag) : TS :=
  (tSeq (tAsg (tC (.int 0)) (gName 1))
  (tSeq (tAsg (tC (.int 1)) (gName 2))
  (tSeq (tWhile (tTest (tOp rLt (tVar 2) (tVar 0)))
  (tSeq (tAug 2 (tVar 2) (ipI fun i j => i + j))
  (tAug 1 (tC (.int 1)) (ipI fun i j => i + j))))
  (tRet (tVar 1)))))
abbrev n_levels_for : List Str := ["kinds", "levels", "room"]

theorem rd_levels_for (K : PySem.W.Frag) (vs : List V) (H : Hp) (Q : VK) (E : XK) (h : sp_levels_for K vs H Q E) : t_levels_for K { nx := fun _ H' => Q .non H', rt := Q } (start n_levels_for vs) H := by
  obtain ⟨n, rfl, hn, q⟩ := h
  have hlv := hOf_small hn
  unfold t_levels_for
  walk_at "st"
  refine loop_while (fun m σ' H' => ∃ k : Nat, m = hOf n - k ∧ k ≤ hOf n ∧ H' = H ∧ σ' = [some (.int (n : Int)), some (.int (k : Int)), some (.int ((2 ^ k : Nat) : Int))]) (hOf n) ⟨0, rfl, Nat.zero_le _, rfl, rfl⟩ ?_
  rintro m σ' H' ⟨k, rfl, hk, rfl, rfl⟩
  walk_at "st"
  walk_at "if" <;> intro c
  · have c2 : 2 ^ k < n := by exact_mod_cast c
    have hk2 : k < hOf n := by
      rcases Nat.lt_or_ge k (hOf n) with z | z
      · exact z
      · have := hOf_le n
        have := Nat.pow_le_pow_right (show 0 < 2 by decide) z
        omega
    walk_at "st"
    refine ⟨hOf n - (k + 1), by omega, k + 1, rfl, hk2, rfl, ?_⟩
    rw [show ((2 ^ (k + 1) : Nat) : Int) = ((2 ^ k : Nat) : Int) + ((2 ^ k : Nat) : Int) by rw [Nat.pow_succ]; push_cast; omega]; rfl
  have hkL : k = hOf n := by
    rcases Nat.lt_or_ge k (hOf n) with z | z
    · have := hOf_lt (many := n) (k := k) z
      have c2 : ¬ 2 ^ k < n := by exact_mod_cast c
      exact absurd this c2
    · omega
  subst hkL
  walk_at "st"
  exact q

/-- numbers of a row -/
def natL (xs : List Nat) : List Int := xs.map fun r : Nat => (r : Int)
theorem natL_len (xs : List Nat) : (natL xs).length = xs.length := by unfold natL; rw [List.length_map]
theorem wb_int (w r : Nat) : ((r : Int) / ((2 ^ w : Nat) : Int)) % 2 = ((wb w r : Nat) : Int) := by unfold wb; push_cast; rfl
theorem natL_filter (w b : Nat) (xs : List Nat) : (natL xs).filter (fun n => decide ((n / ((2 ^ w : Nat) : Int)) % 2 = (b : Int))) = natL (xs.filter fun r => decide (wb w r = b)) := by
  unfold natL
  rw [List.filter_map]
  congr 1
  refine List.filter_congr fun r _ => ?_
  show decide _ = decide _
  rw [wb_int]
  exact decide_eq_decide.mpr (by omega)

theorem range_fm {α β : Type} (l : List α) (g : α → Option β) : (List.range l.length).filterMap (fun k => (l[k]?).bind g) = l.filterMap g := by
  have h : ∀ n, n ≤ l.length → (List.range n).filterMap (fun k => (l[k]?).bind g) = (l.take n).filterMap g := by
    intro n
    induction n with
    | zero => intro _; rfl
    | succ n ih =>
      intro hn
      have e := List.getElem?_eq_getElem (show n < l.length by omega)
      rw [List.range_succ, List.filterMap_append, ih (by omega), List.take_add_one, e, List.filterMap_append]
      congr 1
      show List.filterMap _ [n] = List.filterMap g [l[n]]
      rw [List.filterMap_cons, List.filterMap_cons, e]; rfl
  rw [h _ (Nat.le_refl _), List.take_length]
theorem fm_if {α β : Type} (p : α → Bool) (f : α → β) : ∀ l : List α, l.filterMap (fun n => if p n = true then some (f n) else none) = (l.filter p).map f
  | [] => rfl
  | n :: l => by
    rw [List.filterMap_cons, List.filter_cons]
    cases p n with
    | true => rw [if_pos rfl, if_pos rfl, fm_if p f l]; rfl
    | false => rw [if_neg (by decide), if_neg (by decide), fm_if p f l]
/-- the numbers of a list that a test lets through -/
theorem comp_filterI {K : PySem.W.Frag} {σ : L2.St} {H : Hp} {Q : VK} {a : Addr} {ns : List Int} {te : TE} {tt : TT} {j : Nat} (p : Int → Bool) (hl : SqL K H a (ns.map V.int)) (hn : ns.length ≤ 100000)
    (ht : ∀ (k : Nat) (n : Int) (H1 : Hp) (Qb : Bool → Hp → Prop), ns[k]? = some n → Same H H1 → (∀ H2, Same H1 H2 → Qb (p n) H2) → tt ((wipe σ [j]).set j (some (.int n))) H1 Qb)
    (he : ∀ (n : Int) (H1 : Hp) (Q2 : VK), Q2 (.int n) H1 → te ((wipe σ [j]).set j (some (.int n))) H1 Q2)
    (q : ∀ pd H', H pd = none → Same H H' → H' pd = some (.lst ((ns.filter p).map V.int)) → Q (.ref pd) H') (hw : ∀ x, wipe ((wipe σ [j]).set j (some x)) [j] = wipe σ [j] := by intro _; rfl) : CompOk (Itl K a) (gName j) tt te [j] σ H Q := by
  refine comp_walkV (f := fun k => (ns[k]?).bind fun n => if p n = true then some (V.int n) else none) (walk_list (K := K) (xs := ns.map V.int)) (by rw [List.length_map]; exact hn) (fun H' s' => s'.seq hl) (fun k v Hb Hc Qb hk sk hy qb => ?_) (fun pm Hb hpm sb eb => ?_) hw
  · obtain ⟨rfl, hv⟩ := hy
    obtain ⟨n, en, rfl⟩ := of_mapint hv
    refine ht k n Hc Qb en sk fun H2 s2 => qb (p n) H2 s2 (fun hp Q2 H4 s4 => ⟨_, by rw [en]; show (if p n = true then _ else _) = _; rw [if_pos hp], fun q2 => he n H4 Q2 (q2 H4 (Same.refl _))⟩) fun hp => ?_
    rw [en]
    show (if p n = true then _ else _) = _
    rw [if_neg (by rw [hp]; decide)]
  · rw [List.length_map, range_fm, fm_if] at eb
    exact q pm Hb hpm sb eb

/-- too far from nought -/
def FarS (x : Int) : Prop := x ≤ -1000000000000000000000000000000000000000000000000000000000000 ∨ 1000000000000000000000000000000000000000000000000000000000000 ≤ x
theorem wb_shr (w r : Nat) : ((r : Int) / 2 ^ w) % 2 = ((wb w r : Nat) : Int) := by unfold wb; push_cast; rfl
theorem natL_shr (w b : Nat) (xs : List Nat) : (natL xs).filter (fun n => decide ((n / 2 ^ w) % 2 = (b : Int))) = natL (xs.filter fun r => decide (wb w r = b)) := by
  unfold natL
  rw [List.filter_map]
  congr 1
  refine List.filter_congr fun r _ => ?_
  show decide _ = decide _
  rw [wb_shr]
  exact decide_eq_decide.mpr (by omega)
/-- kept_signs(signs) -/
def sp_kept_signs (K : PySem.W.Frag) : Sp := fun vs H Q E => ∃ (a : Addr) (sg U : List Int), vs = [.ref a] ∧ H a = some (.lst (sg.map V.int)) ∧ sg.length ≤ 100000 ∧
  (sg.length > 4096 → E (.ref (He.ga K "TooMany")) none H) ∧
  (sg.length ≤ 4096 → (∃ x ∈ sg, FarS x) → E (.ref (He.ga K "NoSign")) none H) ∧
  (sg.length ≤ 4096 → (∀ x ∈ sg, ¬ FarS x) → U.length ≤ 4090 ∧ (∀ x ∈ sg, x ∈ U) ∧ ∀ (ks : List Int) (p t pk pa pb : Addr) (as : List Addr) H', IsK ks sg → H p = none → H pb = none → Same H H' → H' p = some (.tup [.ref t, .ref pb]) → H' t = some (.tup [.int (sg.length : Int), .ref pk, .ref pa]) → H' pk = some (.tup (ks.map V.int)) → H' pa = some (.tup (as.map V.ref)) → as.length = lvK ks → (∀ l x, as[l]? = some x → H' x = some (.tup ((aheadT (bitsK ks sg l)).map V.int))) → H' pb = some (.lst ((sgB ks sg (lvK ks)).map V.int)) → Q (.ref p) H')
theorem len_kept_signs (K : PySem.W.Frag) : ∀ vs H Q E, sp_kept_signs K vs H Q E → vs.length = 1 := by
  rintro vs H Q E ⟨x, y, _, rfl, _⟩; rfl
def t_kept_signs (K : PySem.W.Frag) (E : XK) : TS :=
  (tSeq (tIfS (tTest (tOp rGtI (tCB (rLen K) (tCons (tVar 0) tNil)) (tC (.int 4096))))
  (tRz (fun cls d _ H => E cls d H) (He.ga K "TooMany"))
  tNext)
  (tSeq (tFor (iList K (tVar 0)) (gName 1)
  (tIfS (tOr (tTest (tOp rLe (tVar 1) (tC (.int (-1000000000000000000000000000000000000000000000000000000000000))))) (tTest (tOp rGeI (tVar 1) (tC (.int 1000000000000000000000000000000000000000000000000000000000000)))))
  (tRz (fun cls d _ H => E cls d H) (He.ga K "NoSign"))
  tNext))
  (tSeq (tAsg (tSortSet K (tVar 0)) (gName 2))
  (tSeq (tAsg tDNewK (gName 3))
  (tSeq (tFor (iEnum K (tCons (tVar 2) tNil)) (gTup K 2 (gCons (gName 4) (gCons (gName 1) gNil)))
  (sDPut (tVar 3) (tVar 1) (tVar 4)))
  (tSeq (tAsg (tLc (iList K (tVar 0)) (gName 1) tYes (tDGet (tVar 3) (tVar 1)) [1]) (gName 5))
  (tSeq (tAsg (tLst tNil) (gName 6))
  (tSeq (tAsg (tLst tNil) (gName 7))
  (tSeq (tFor (iRevR (tRg1 (tCall (sp_levels_for K) [] E0 (tCons (tCB (rLen K) (tCons (tVar 2) tNil)) tNil)))) (gName 8)
  (tSeq (tAsg (tCall (sp_kept_row K) [] E (tCons (tLc (iList K (tVar 5)) (gName 4) tYes (tOp rAnd1 (tOp rShr (tVar 4) (tVar 8)) (tC (.int 1))) [4]) tNil)) (gTup K 2 (gCons (gName 9) (gCons (gName 10) gNil))))
  (tSeq (tDrop (tBM K "list" rAppend (tVar 6) (tCons (tOp (rIxT K) (tVar 9) (tC (.int 1))) tNil)))
  (tSeq (tDrop (tBM K "list" rExtend (tVar 7) (tCons (tVar 10) tNil)))
  (tSeq (tAsg (tLc (iList K (tVar 5)) (gName 4) (tTest (tOp rEq (tOp rAnd1 (tOp rShr (tVar 4) (tVar 8)) (tC (.int 1))) (tC (.int 0)))) (tVar 4) [4]) (gName 11))
  (tAsg (tOp rCat (tVar 11) (tLc (iList K (tVar 5)) (gName 4) (tTest (tOp rEq (tOp rAnd1 (tOp rShr (tVar 4) (tVar 8)) (tC (.int 1))) (tC (.int 1)))) (tVar 4) [4])) (gName 5)))))))
  (tRet (tTup (tCons (tTup (tCons (tCB (rLen K) (tCons (tVar 0) tNil)) (tCons (tCB (rTupOf K) (tCons (tVar 2) tNil)) (tCons (tCB (rTupOf K) (tCons (tVar 6) tNil)) tNil)))) (tCons (tVar 7) tNil)))))))))))))
abbrev n_kept_signs : List Str := ["signs", "sign", "kinds", "ranks", "rank", "row", "aheads", "blocks", "weight", "tables", "some", "noughts"]

theorem rd_kept_signs (K : PySem.W.Frag) (vs : List V) (H : Hp) (Q : VK) (E : XK) (h : sp_kept_signs K vs H Q E) : t_kept_signs K E { nx := fun _ H' => Q .non H', rt := Q } (start n_kept_signs vs) H := by
  obtain ⟨a, sg, U, rfl, hS, hl0, q1, q2, q3⟩ := h
  unfold t_kept_signs
  walk_at "st"
  refine k_lenL (.of hS) ?_
  walk_at "st"
  rw [List.length_map]
  walk_at "if" <;> intro c0
  · walk_at "st"
    exact q1 (by omega)
  have hl : sg.length ≤ 4096 := by omega
  walk_at "st"
  refine m_iLe (.of hS) ?_
  refine loop_ints (ns := sg) (fun i σ' H' => ∃ (v1 : Option V), H' = H ∧ i ≤ sg.length ∧ (∀ x ∈ sg.take i, ¬ FarS x) ∧ σ' = [some (.ref a), v1, none, none, none, none, none, none, none, none, none, none]) ⟨none, rfl, Nat.zero_le _, by simp, rfl⟩ (fun i σ' H' ⟨_, e, _⟩ => e ▸ .of hS) (fun i x σ' H' hx ⟨v1, eH, hi, hf, es⟩ => ?_) (fun σ' H' ⟨v1, eH, _, hf, es⟩ => ?_)
  · subst es
    subst eH
    walk_at "st"
    walk_at "if" <;> intro c1
    · walk_at "st"
      exact q2 hl ⟨x, List.mem_of_getElem? hx, .inl c1⟩
    walk_at "st"
    walk_at "if" <;> intro c2
    · walk_at "st"
      exact q2 hl ⟨x, List.mem_of_getElem? hx, .inr c2⟩
    walk_at "st"
    refine ⟨_, rfl, (List.getElem?_eq_some_iff.mp hx).1, fun y hy => ?_, rfl⟩
    rw [List.take_add_one, hx] at hy
    rcases List.mem_append.mp hy with z | z
    · exact hf y z
    · obtain rfl : y = x := by simpa using z
      exact fun z => z.elim c1 c2
  subst es
  subst eH
  rw [List.take_length] at hf
  obtain ⟨hU, hUm, q⟩ := q3 hl hf
  walk_at "st"
  refine m_sortSet ?_
  walk_at "st"
  refine ⟨a, sg, U, rfl, .of hS, hU, hUm, fun ks p1 hsrt hmem hp1 => ?_⟩
  have hK : IsK ks sg := ⟨hsrt, hmem⟩
  have hkl := nodup_len hK
  have hlv := lvK_le hK hl
  have s1 := same_new (o := .lst (ks.map V.int)) hp1
  have e1 := upd_same (H := H') (a := p1) (o := .lst (ks.map V.int))
  generalize upd H' p1 (.lst (ks.map V.int)) = H1 at s1 e1 ⊢
  walk_at "st"
  refine m_dnew fun pd hpd => ?_
  have s2 := s1.trans (same_new (o := .dK []) hpd)
  have ed := upd_same (H := H1) (a := pd) (o := .dK [])
  have n1d : p1 ≠ pd := ne_of_none e1 hpd
  have hpd0 := s1.gone _ hpd
  replace e1 := (same_new (o := .dK []) hpd).get e1
  generalize upd H1 pd (.dK []) = H2 at s2 e1 ed ⊢
  walk_at "st"
  refine m_enumE (.of e1) ?_
  refine loop_walk walk_enum (fun i σ H2 => ∃ (v1 v4 : Option V) (kvs : List (Key × V)), σ = [some (.ref a), v1, some (.ref p1), some (.ref pd), v4, none, none, none, none, none, none, none] ∧ i ≤ ks.length ∧ Same H' H2 ∧ H2 p1 = some (.lst (ks.map V.int)) ∧ H2 pd = some (.dK kvs) ∧ kvs.length ≤ i ∧ ∀ j x, j < i → ks[j]? = some x → valV kvs (.inl x) = some (.int (j : Int))) ⟨v1, none, [], rfl, Nat.zero_le _, s2, e1, ed, Nat.le_refl _, fun j x hj => by omega⟩ (fun i σ H2 ⟨_, _, _, _, _, _, e, _⟩ => .of e) ?_ ?_
  · rintro i v σ H3 H4 hi ⟨v1, v4, kvs, rfl, _, s, e1, ed, hkv, hv⟩ ⟨T, x, w, rfl, hT, rfl, ex, ew⟩
    rw [List.length_map] at hi
    obtain ⟨b, hbi, rfl⟩ := of_mapint ew
    obtain rfl : x = .int (i : Nat) := (Option.some.inj ex).symm
    have sT := same_new (o := .tup [.int (i : Nat), .int b]) hT
    have eT := upd_same (H := H3) (a := T) (o := .tup [.int (i : Nat), .int b])
    generalize upd H3 T (.tup [.int (i : Nat), .int b]) = H5 at sT eT ⊢
    refine m_gTup (.of eT) rfl ?_
    walk_at "st"
    refine m_dput ?_
    walk_at "st"
    refine k_dputE (sT.get ed) (by omega) ?_
    have hp1 := length_putK kvs (.inl b : Key) (V.int (i : Int))
    refine ⟨_, _, _, rfl, by omega, (s.trans sT).mutD hpd0 (sT.get ed), by rw [upd_ne n1d]; exact sT.get e1, upd_same, by omega, fun j y hj hy => ?_⟩
    rw [valV_put]
    by_cases c : y = b
    · subst c
      have h1 := rk_get hsrt hy
      have h2 := rk_get hsrt hbi
      rw [if_pos rfl, show j = i by omega]
    · rw [if_neg (by intro z; exact c (Sum.inl.inj z))]
      rcases Nat.lt_or_ge j i with z | z
      · exact hv j y z hy
      · obtain rfl : j = i := by omega
        rw [hbi] at hy
        exact absurd (Option.some.inj hy).symm c
  rintro σ H3 ⟨v1, v4, kvs, rfl, _, s3, e1, ed, _, hv⟩
  rw [List.length_map] at hv
  walk_at "st"
  refine m_iLe (.of (s3.get hS)) ?_
  refine comp_listV (xs := sg.map V.int) (ys := (natL (ranks ks sg)).map V.int) (.of (s3.get hS)) (by rw [List.length_map]; omega) (by rw [List.length_map, List.length_map, natL_len, ranks_len]) (fun k x y Ha Q2 hx hy sk q2 => ?_) fun p2 H4 hp2 s4 er => ?_
  · obtain ⟨n, en, rfl⟩ := of_mapint hx
    have ey : y = .int (rk ks n : Nat) := by
      have : ((natL (ranks ks sg)).map V.int)[k]? = some (.int (rk ks n : Nat)) := by
        unfold natL ranks
        rw [List.getElem?_map, List.getElem?_map, List.getElem?_map, en]; rfl
      rw [this] at hy
      exact (Option.some.inj hy).symm
    subst ey
    have hmn := (hmem n).mpr (List.mem_of_getElem? en)
    refine m_dget ?_
    walk_at "st"
    refine k_dgetE (sk.get ed) (hv _ n (rk_lt hsrt hmn) (get_rk hsrt hmn)) ?_
    exact q2 _ (Same.refl _)
  have t4 := s3.trans s4
  replace e1 := s4.get e1
  walk_at "st"
  intro p6 hp6
  have hp6B := t4.gone _ hp6
  have s6 := t4.trans (same_new (o := .lst []) hp6)
  have e6 := upd_same (H := H4) (a := p6) (o := .lst [])
  have nr6 : p2 ≠ p6 := ne_of_none er hp6
  have n16 : p1 ≠ p6 := ne_of_none e1 hp6
  replace er := (same_new (o := .lst []) hp6).get er
  replace e1 := (same_new (o := .lst []) hp6).get e1
  generalize upd H4 p6 (.lst []) = H6 at s6 e6 er e1 ⊢
  walk_at "st"
  intro p7 hp7
  have hp7B := s6.gone _ hp7
  have s7 := s6.trans (same_new (o := .lst []) hp7)
  have e7 := upd_same (H := H6) (a := p7) (o := .lst [])
  have n67 : p6 ≠ p7 := ne_of_none e6 hp7
  have nr7 : p2 ≠ p7 := ne_of_none er hp7
  have n17 : p1 ≠ p7 := ne_of_none e1 hp7
  replace er := (same_new (o := .lst []) hp7).get er
  replace e1 := (same_new (o := .lst []) hp7).get e1
  replace e6 := (same_new (o := .lst []) hp7).get e6
  generalize upd H6 p7 (.lst []) = H7 at s7 e7 er e1 e6 ⊢
  walk_at "st"
  refine m_revR1 ?_
  walk_at "st"
  refine k_lenL (.of e1) ?_
  walk_at "st"
  rw [List.length_map]
  refine ⟨ks.length, rfl, by omega, ?_⟩
  refine m_revRe (by have : hOf ks.length = lvK ks := rfl; omega) ?_
  refine loop_revR (fun i σ' H2 => ∃ (pr : Addr) (as : List Addr) (v1 v4 v8 v9 v10 v11 : Option V), i ≤ lvK ks ∧ Same H' H2 ∧ H2 p1 = some (.lst (ks.map V.int)) ∧ H2 pr = some (.lst ((natL (rowsW (lvK ks) (ranks ks sg) i)).map V.int)) ∧ pr ≠ p6 ∧ pr ≠ p7 ∧ H2 p6 = some (.lst (as.map V.ref)) ∧ as.length = i ∧ (∀ l x, as[l]? = some x → H2 x = some (.tup ((aheadT (bitsK ks sg l)).map V.int))) ∧ H2 p7 = some (.lst ((sgB ks sg i).map V.int)) ∧ σ' = [some (.ref a), v1, some (.ref p1), some (.ref pd), v4, some (.ref pr), some (.ref p6), some (.ref p7), v8, v9, v10, v11]) ⟨p2, [], v1, v4, none, none, none, none, Nat.zero_le _, s7, e1, er, nr6, nr7, e6, rfl, fun l x e => by simp at e, e7, rfl⟩ (fun l σ' H2 hlt ⟨pr, as, v1, v4, v8, v9, v10, v11, _, s, e1, er, nr6, nr7, e6, hal, has, e7, es⟩ => ?_) (fun σ' H2 ⟨pr, as, v1, v4, v8, v9, v10, v11, _, s, e1, er, nr6, nr7, e6, hal, has, e7, es⟩ => ?_)
  · subst es
    obtain ⟨w, hw⟩ : ∃ w, w = lvK ks - 1 - l := ⟨_, rfl⟩
    have hw' : hOf ks.length - 1 - l = w := by have : hOf ks.length = lvK ks := rfl; omega
    rw [hw']
    have hl2 : l < lvK ks := hlt
    have hrl : (rowsW (lvK ks) (ranks ks sg) l).length = sg.length := by rw [rowsW_len, ranks_len]
    walk_at "st"
    refine m_iLe (.of er) ?_
    refine comp_listV (xs := (natL (rowsW (lvK ks) (ranks ks sg) l)).map V.int) (ys := (bitsK ks sg l).map V.int) (.of er) (by rw [List.length_map, natL_len]; omega) (by rw [List.length_map, List.length_map, natL_len, bitsK_len, hrl]) (fun k x y Ha Q2 hx hy sk q2 => ?_) fun p8 H8 hp8 s8 e8 => ?_
    · obtain ⟨n, en, rfl⟩ := of_mapint hx
      obtain ⟨r, erk, rfl⟩ : ∃ r : Nat, (rowsW (lvK ks) (ranks ks sg) l)[k]? = some r ∧ (r : Int) = n := by
        unfold natL at en
        rw [List.getElem?_map] at en
        exact Option.map_eq_some_iff.mp en
      have ey : y = .int ((wb w r : Nat) : Int) := by
        have : ((bitsK ks sg l).map V.int)[k]? = some (.int ((wb w r : Nat) : Int)) := by
          unfold bitsK bitsW
          rw [List.getElem?_map, List.getElem?_map, erk, hw]; rfl
        rw [this] at hy
        exact (Option.some.inj hy).symm
      subst ey
      walk_at "st"
      rw [Int.toNat_natCast, wb_shr]
      exact q2 _ (Same.refl _)
    have hBl : (bitsK ks sg l).length = sg.length := bitsK_len _ _ _
    walk_at "st"
    refine ⟨p8, bitsK ks sg l, rfl, .of e8, by omega, fun z => by omega, fun _ nb => absurd (bitsK_bits ks sg l) nb, fun _ _ p9 t9 pa9 pb9 H9 hp9 ht9 hpa9 hpb9 s9 f1 f2 f3 f4 => ?_⟩
    have s89 := s8.trans s9
    walk_at "st"
    refine m_gTup (.of f1) rfl ?_
    walk_at "st"
    refine k_tyL (.of (s89.get e6)) ?_
    walk_at "st"
    refine k_ixT (.of f2) (x := .ref pa9) rfl ?_
    walk_at "st"
    refine k_app (s89.get e6) (by rw [List.length_map]; omega) ?_
    have npb : pb9 ≠ p6 := fun z => by rw [z, s8.get e6] at hpb9; cases hpb9
    have npa : pa9 ≠ p6 := fun z => by rw [z, s8.get e6] at hpa9; cases hpa9
    have npb7 : pb9 ≠ p7 := fun z => by rw [z, s8.get e7] at hpb9; cases hpb9
    have t9' : Same H' (upd H9 p6 (.lst (as.map V.ref ++ [.ref pa9]))) := (s.trans s89).mut hp6B ⟨_, s89.get e6⟩
    have er9 : (upd H9 p6 (.lst (as.map V.ref ++ [.ref pa9]))) pr = some (.lst ((natL (rowsW (lvK ks) (ranks ks sg) l)).map V.int)) := (upd_ne nr6).trans (s89.get er)
    have e19 : (upd H9 p6 (.lst (as.map V.ref ++ [.ref pa9]))) p1 = some (.lst (ks.map V.int)) := (upd_ne n16).trans (s89.get e1)
    have e79 : (upd H9 p6 (.lst (as.map V.ref ++ [.ref pa9]))) p7 = some (.lst ((sgB ks sg l).map V.int)) := (upd_ne n67.symm).trans (s89.get e7)
    have f49 : (upd H9 p6 (.lst (as.map V.ref ++ [.ref pa9]))) pb9 = some (.lst ((blks (bitsK ks sg l)).map V.int)) := (upd_ne npb).trans f4
    have e69 : (upd H9 p6 (.lst (as.map V.ref ++ [.ref pa9]))) p6 = some (.lst ((as ++ [pa9]).map V.ref)) := by rw [upd_same, List.map_append]; rfl
    have has9 : ∀ j x, (as ++ [pa9])[j]? = some x → (upd H9 p6 (.lst (as.map V.ref ++ [.ref pa9]))) x = some (.tup ((aheadT (bitsK ks sg j)).map V.int)) := fun j x e => by
      rcases Nat.lt_or_ge j as.length with z | z
      · rw [List.getElem?_append_left z] at e
        have := s89.get (has j x e)
        exact (upd_ne fun y => by rw [y, s89.get e6] at this; cases this).trans this
      · rw [List.getElem?_append_right z] at e
        have h1 := (List.getElem?_eq_some_iff.mp e).1
        rw [List.length_singleton] at h1
        obtain rfl : j = l := by omega
        rw [show j - as.length = 0 by omega] at e
        obtain rfl := Option.some.inj e
        exact (upd_ne npa).trans f3
    generalize upd H9 p6 (.lst (as.map V.ref ++ [.ref pa9])) = H10 at t9' er9 e19 e79 f49 e69 has9 ⊢
    walk_at "st"
    refine k_tyL (.of e79) ?_
    walk_at "st"
    have hbl := blks_len (bitsK ks sg l)
    have hsb := sgB_len ks sg l
    have heb : eachB sg ≤ 129 := by unfold eachB; omega
    have hmul : l * eachB sg ≤ 12 * 129 := Nat.mul_le_mul (by omega) heb
    refine k_extend e79 f49 (by rw [List.length_map, List.length_map]; omega) ?_
    have t10 : Same H' (upd H10 p7 (.lst ((sgB ks sg l).map V.int ++ (blks (bitsK ks sg l)).map V.int))) := t9'.mut hp7B ⟨_, e79⟩
    have er10 : (upd H10 p7 (.lst ((sgB ks sg l).map V.int ++ (blks (bitsK ks sg l)).map V.int))) pr = some (.lst ((natL (rowsW (lvK ks) (ranks ks sg) l)).map V.int)) := (upd_ne nr7).trans er9
    have e110 : (upd H10 p7 (.lst ((sgB ks sg l).map V.int ++ (blks (bitsK ks sg l)).map V.int))) p1 = some (.lst (ks.map V.int)) := (upd_ne n17).trans e19
    have e610 : (upd H10 p7 (.lst ((sgB ks sg l).map V.int ++ (blks (bitsK ks sg l)).map V.int))) p6 = some (.lst ((as ++ [pa9]).map V.ref)) := (upd_ne n67).trans e69
    have e710 : (upd H10 p7 (.lst ((sgB ks sg l).map V.int ++ (blks (bitsK ks sg l)).map V.int))) p7 = some (.lst ((sgB ks sg (l + 1)).map V.int)) := by rw [upd_same, ← List.map_append]; rfl
    have has10 : ∀ j x, (as ++ [pa9])[j]? = some x → (upd H10 p7 (.lst ((sgB ks sg l).map V.int ++ (blks (bitsK ks sg l)).map V.int))) x = some (.tup ((aheadT (bitsK ks sg j)).map V.int)) := fun j x e => by
      have := has9 j x e
      exact (upd_ne fun y => by rw [y, e79] at this; cases this).trans this
    generalize upd H10 p7 (.lst ((sgB ks sg l).map V.int ++ (blks (bitsK ks sg l)).map V.int)) = H11 at t10 er10 e110 e610 e710 has10 ⊢
    walk_at "st"
    refine m_iLe (.of er10) ?_
    refine comp_filterI (fun n => decide ((n / 2 ^ w) % 2 = ((0 : Nat) : Int))) (.of er10) (by rw [natL_len]; omega) (fun k n H1 Qb hk sk qb => ?_) (fun n H1 Q2 q2 => ?_) fun p13 H13 hp13 s13 e13 => ?_
    · walk_at "st"
      rw [Int.toNat_natCast]
      exact qb _ (Same.refl _)
    · walk_at "st"
      exact q2
    rw [natL_shr] at e13
    walk_at "st"
    refine m_iLe (.of (s13.get er10)) ?_
    refine comp_filterI (fun n => decide ((n / 2 ^ w) % 2 = ((1 : Nat) : Int))) (.of (s13.get er10)) (by rw [natL_len]; omega) (fun k n H1 Qb hk sk qb => ?_) (fun n H1 Q2 q2 => ?_) fun p14 H14 hp14 s14 e14 => ?_
    · walk_at "st"
      rw [Int.toNat_natCast]
      exact qb _ (Same.refl _)
    · walk_at "st"
      exact q2
    rw [natL_shr] at e14
    have hfl : ∀ b, ((rowsW (lvK ks) (ranks ks sg) l).filter fun r => decide (wb w r = b)).length ≤ 4096 := fun b => by have := List.length_filter_le (fun r => decide (wb w r = b)) (rowsW (lvK ks) (ranks ks sg) l); omega
    refine k_catI (s14.get e13) e14 (by rw [natL_len, natL_len]; have := hfl 0; have := hfl 1; omega) fun p15 H15 hp15 s15 e15 => ?_
    have s515 := s13.trans (s14.trans s15)
    refine ⟨p15, as ++ [pa9], _, _, _, _, _, _, hl2, t10.trans s515, s515.get e110, ?_, ?_, ?_, s515.get e610, by rw [List.length_append, hal]; rfl, fun i x e => s515.get (has10 i x e), s515.get e710, rfl⟩
    · rw [e15]
      have : natL ((rowsW (lvK ks) (ranks ks sg) l).filter fun r => decide (wb w r = 0)) ++ natL ((rowsW (lvK ks) (ranks ks sg) l).filter fun r => decide (wb w r = 1)) = natL (rowsW (lvK ks) (ranks ks sg) (l + 1)) := by
        unfold natL
        rw [← List.map_append, hw]; rfl
      rw [this]
    · exact (ne_of_none ((s13.trans s14).get e610) hp15).symm
    · exact (ne_of_none ((s13.trans s14).get e710) hp15).symm
  · subst es
    change as.length = lvK ks at hal
    change H2 p7 = some (.lst ((sgB ks sg (lvK ks)).map V.int)) at e7
    walk_at "st"
    refine k_lenL (.of (s.get hS)) ?_
    walk_at "st"
    rw [List.length_map]
    refine k_tupL (.of e1) fun pk hpk => ?_
    have s4 := same_new (o := .tup (ks.map V.int)) hpk
    have e4 := upd_same (H := H2) (a := pk) (o := .tup (ks.map V.int))
    replace e6 := s4.get e6
    replace e7 := s4.get e7
    replace has : ∀ i x, as[i]? = some x → (upd H2 pk (.tup (ks.map V.int))) x = some (.tup ((aheadT (bitsK ks sg i)).map V.int)) := fun i x e => s4.get (has i x e)
    generalize upd H2 pk (.tup (ks.map V.int)) = H4 at s4 e4 e6 e7 has ⊢
    walk_at "st"
    refine k_tupL (.of e6) fun pa hpa => ?_
    have s5 := s4.trans (same_new (o := .tup (as.map V.ref)) hpa)
    have f5 := upd_same (H := H4) (a := pa) (o := .tup (as.map V.ref))
    replace e4 := (same_new (o := .tup (as.map V.ref)) hpa).get e4
    replace e7 := (same_new (o := .tup (as.map V.ref)) hpa).get e7
    replace has : ∀ i x, as[i]? = some x → (upd H4 pa (.tup (as.map V.ref))) x = some (.tup ((aheadT (bitsK ks sg i)).map V.int)) := fun i x e => (same_new (o := .tup (as.map V.ref)) hpa).get (has i x e)
    generalize upd H4 pa (.tup (as.map V.ref)) = H5 at s5 f5 e4 e7 has ⊢
    walk_at "st"
    intro t ht
    have s6 := s5.trans (same_new (o := .tup [.int (sg.length : Int), .ref pk, .ref pa]) ht)
    have f6 := upd_same (H := H5) (a := t) (o := .tup [.int (sg.length : Int), .ref pk, .ref pa])
    replace e4 := (same_new (o := .tup [.int (sg.length : Int), .ref pk, .ref pa]) ht).get e4
    replace e7 := (same_new (o := .tup [.int (sg.length : Int), .ref pk, .ref pa]) ht).get e7
    replace f5 := (same_new (o := .tup [.int (sg.length : Int), .ref pk, .ref pa]) ht).get f5
    replace has : ∀ i x, as[i]? = some x → (upd H5 t (.tup [.int (sg.length : Int), .ref pk, .ref pa])) x = some (.tup ((aheadT (bitsK ks sg i)).map V.int)) := fun i x e => (same_new (o := .tup [.int (sg.length : Int), .ref pk, .ref pa]) ht).get (has i x e)
    generalize upd H5 t (.tup [.int (sg.length : Int), .ref pk, .ref pa]) = H6 at s6 f6 f5 e4 e7 has ⊢
    walk_at "st"
    intro p hp
    have s7 := same_new (o := .tup [.ref t, .ref p7]) hp
    have tt := s.trans (s6.trans s7)
    exact q ks p t pk pa p7 as _ hK ((s.trans s6).gone _ hp) hp7B tt upd_same (s7.get f6) (s7.get e4) (s7.get f5) hal (fun i x e => s7.get (has i x e)) (s7.get e7)

/-- a store's tables at p, its sorted words ws -/
structure StoT (H : Hp) (t : Addr) (ws : List (List Nat)) : Prop where
  tab : ∃ t1 t2 t3 pa ph pk pas pr ks, ∃ as : List Addr, H t = some (.tup [.ref t1, .ref t2, .ref t3]) ∧
    H t1 = some (.tup [.int ((brk (dpsL (nodesL ws))).length : Int), .ref pa, .ref ph]) ∧ H pa = some (.tup ((aheadT (brk (dpsL (nodesL ws)))).map V.int)) ∧ H ph = some (.tup (heapL (lowsOf (brk (dpsL (nodesL ws)))))) ∧
    IsK ks (letsL (nodesL ws)) ∧ H t2 = some (.tup [.int ((letsL (nodesL ws)).length : Int), .ref pk, .ref pas]) ∧ H pk = some (.tup (ks.map V.int)) ∧ H pas = some (.tup (as.map V.ref)) ∧ as.length = lvK ks ∧
    (∀ l x, as[l]? = some x → H x = some (.tup ((aheadT (bitsK ks (letsL (nodesL ws)) l)).map V.int))) ∧
    H t3 = some (.tup [.int ((endsL (nodesL ws) ws).length : Int), .ref pr]) ∧ H pr = some (.tup ((aheadT (endsL (nodesL ws) ws)).map V.int))
theorem StoT.same {H H' : Hp} {t : Addr} {ws : List (List Nat)} (k : StoT H t ws) (s : Same H H') : StoT H' t ws :=
  ⟨let ⟨t1, t2, t3, pa, ph, pk, pas, pr, ks, as, e1, e2, e3, e4, hk, e5, e6, e7, e8, e9, e10, e11⟩ := k.tab
   ⟨t1, t2, t3, pa, ph, pk, pas, pr, ks, as, s.get e1, s.get e2, s.get e3, s.get e4, hk, s.get e5, s.get e6, s.get e7, e8, fun l x e => s.get (e9 l x e), s.get e10, s.get e11⟩⟩
/-- a store's blocks -/
def stoB (ks : List Int) (ws : List (List Nat)) : List Int := blks (brk (dpsL (nodesL ws))) ++ sgB ks (letsL (nodesL ws)) (lvK ks) ++ blks (endsL (nodesL ws) ws)
/-- kept_store(words) -/
def sp_kept_store (K : PySem.W.Frag) : Sp := fun vs H Q E => ∃ (a : Addr) (xs : List (List Nat)), vs = [.ref a] ∧ SqL K H a (xs.map VT) ∧ xs.length ≤ 2400 ∧ (∀ x ∈ xs, x.length ≤ 1000) ∧
  ((∃ x ∈ xs, ¬ (Ltr x ∧ x.length ≤ 40)) → E (.ref (He.ga K "NoWord")) none H) ∧
  ((∀ x ∈ xs, Ltr x ∧ x.length ≤ 40) → ¬ xs.Nodup → E (.ref (He.ga K "Twice")) none H) ∧
  ((∀ x ∈ xs, Ltr x ∧ x.length ≤ 40) → xs.Nodup → ∀ ws, Ordd xs ws → (2048 < (nodesL ws).length → ∀ H', Same H H' → E (.ref (He.ga K "TooMany")) none H') ∧
    ((nodesL ws).length ≤ 2048 → ∀ p t pb H', H p = none → H pb = none → Same H H' → H' p = some (.tup [.ref t, .ref pb]) → StoT H' t ws → (∀ ks, IsK ks (letsL (nodesL ws)) → H' pb = some (.lst ((stoB ks ws).map V.int))) → Q (.ref p) H'))
theorem len_kept_store (K : PySem.W.Frag) : ∀ vs H Q E, sp_kept_store K vs H Q E → vs.length = 1 := by
  rintro vs H Q E ⟨a, xs, rfl, _⟩; rfl
def t_kept_store (K : PySem.W.Frag) (E : XK) : TS :=
  (tSeq (tFor (iList K (tVar 0)) (gName 1)
  (tIfS (tNot (tB (tCall (sp_is_word K) [] E0 (tCons (tVar 1) tNil))))
  (tRz (fun cls d _ H => E cls d H) (He.ga K "NoWord"))
  tNext))
  (tSeq (tIfS (tTest (tOp rLt (tLenSetT K (tVar 0)) (tCB (rLen K) (tCons (tVar 0) tNil))))
  (tRz (fun cls d _ H => E cls d H) (He.ga K "Twice"))
  tNext)
  (tSeq (tAsg (tLst (tCons (tC (.int 0)) tNil)) (gName 2))
  (tSeq (tAsg (tLst tNil) (gName 3))
  (tSeq (tAsg (tLst (tCons (tC (.int 0)) tNil)) (gName 4))
  (tSeq (tAsg (tC (.str "")) (gName 5))
  (tSeq (tFor (iList K (tCB (rSortedSA K) (tCons (tVar 0) tNil))) (gName 1)
  (tSeq (tFor (iRng2 (tCons (tCall (sp_shared_letters K) [] E0 (tCons (tVar 5) (tCons (tVar 1) tNil))) (tCons (tCB rLenStr (tCons (tVar 1) tNil)) tNil))) (gName 6)
  (tSeq (tDrop (tBM K "list" rAppend (tVar 2) (tCons (tOp rPlus (tVar 6) (tC (.int 1))) tNil)))
  (tSeq (tDrop (tBM K "list" rAppend (tVar 3) (tCons (tM1 rFindS (tC (.str "abcdefghijklmnopqrstuvwxyz")) (tOp rIxS (tVar 1) (tVar 6))) tNil)))
  (tDrop (tBM K "list" rAppend (tVar 4) (tCons (tC (.int 0)) tNil))))))
  (tSeq (tAsg (tC (.int 1)) (gSub (tVar 4) (tUn rNeg (tC (.int 1))) rSetL))
  (tAsg (tVar 1) (gName 5)))))
  (tSeq (tAsg (tCall (sp_kept_tree K) [] E (tCons (tVar 2) tNil)) (gTup K 2 (gCons (gName 7) (gCons (gName 8) gNil))))
  (tSeq (tAsg (tCall (sp_kept_signs K) [] E (tCons (tVar 3) tNil)) (gTup K 2 (gCons (gName 9) (gCons (gName 10) gNil))))
  (tSeq (tAsg (tCall (sp_kept_row K) [] E (tCons (tVar 4) tNil)) (gTup K 2 (gCons (gName 11) (gCons (gName 12) gNil))))
  (tRet (tTup (tCons (tTup (tCons (tVar 7) (tCons (tVar 9) (tCons (tVar 11) tNil)))) (tCons (tOp rCat (tOp rCat (tVar 8) (tVar 10)) (tVar 12)) tNil))))))))))))))
abbrev n_kept_store : List Str := ["words", "word", "depths", "letters", "ends", "last", "k", "tree", "wood", "signs", "halved", "row", "bits"]

theorem rd_kept_store (K : PySem.W.Frag) (vs : List V) (H : Hp) (Q : VK) (E : XK) (h : sp_kept_store K vs H Q E) : t_kept_store K E { nx := fun _ H' => Q .non H', rt := Q } (start n_kept_store vs) H := by
  obtain ⟨a, xs, rfl, hS, hl, hx1, q1, q2, q3⟩ := h
  unfold t_kept_store
  walk_at "st"
  refine m_iLe hS ?_
  refine loop_list (xs := xs.map VT) (fun i σ' H' => ∃ (v1 : Option V), H' = H ∧ (∀ x ∈ xs.take i, Ltr x ∧ x.length ≤ 40) ∧ σ' = [some (.ref a), v1, none, none, none, none, none, none, none, none, none, none, none]) ⟨none, rfl, by simp, rfl⟩ (fun i σ' H' _ ⟨_, e, _⟩ => e ▸ hS) (fun i x σ' H' hx ⟨v1, eH, hf, es⟩ => ?_) (fun σ' G ⟨v1, eH, hf, es⟩ => ?_)
  · subst es
    subst eH
    obtain ⟨t, ht, rfl⟩ := of_mapVT hx
    walk_at "st"
    refine ⟨mkT t, rfl, by rw [mkT_len]; exact hx1 t (List.mem_of_getElem? ht), fun b hb => ?_⟩
    rw [isW_iff] at hb
    cases b with
    | true =>
      walk_at "st"
      refine ⟨_, rfl, fun y hy => ?_, rfl⟩
      rw [List.take_add_one, ht] at hy
      rcases List.mem_append.mp hy with z | z
      · exact hf y z
      · obtain rfl : y = t := by simpa using z
        exact hb.mp rfl
    | false =>
      walk_at "st"
      exact q1 ⟨t, List.mem_of_getElem? ht, fun z => by cases hb.mpr z⟩
  subst es
  subst eH
  rw [List.length_map, List.take_length] at hf
  walk_at "st"
  rw [map_VT] at hS
  refine m_lenSetTE hS (by rw [List.length_map]; omega) fun c hc1 hc2 => ?_
  rw [List.length_map] at hc1 hc2
  walk_at "st"
  refine k_lenL hS ?_
  walk_at "st"
  rw [List.length_map, List.length_map]
  have hnd : (xs.map mkT).Nodup ↔ xs.Nodup := by
    constructor
    · intro z
      rw [List.Nodup, List.pairwise_map] at z
      exact z.imp fun {a b} n e => n (by rw [e])
    · intro z
      rw [List.Nodup, List.pairwise_map]
      exact z.imp fun {a b} n e => n (mkT_inj e)
  rw [hnd] at hc2
  walk_at "if" <;> intro c0
  · walk_at "st"
    exact q2 hf (fun z => by have := hc2.mpr z; omega)
  have hn : xs.Nodup := hc2.mp (by omega)
  replace q3 := q3 hf hn
  walk_at "st"
  intro pd hpd
  obtain ⟨s1, e1⟩ := new_both (o := .lst [.int 0]) hpd
  generalize upd G pd (.lst [.int 0]) = H1 at s1 e1 ⊢
  walk_at "st"
  intro pl hpl
  have hplG := s1.gone _ hpl
  have ndl : pd ≠ pl := ne_of_none e1 hpl
  obtain ⟨s2, e2⟩ := new_both (o := .lst []) hpl
  replace e1 := s2.get e1
  replace s1 := s1.trans s2
  generalize upd H1 pl (.lst []) = H2 at s1 e1 e2 ⊢
  walk_at "st"
  intro pe hpe
  have hpeG := s1.gone _ hpe
  have nde : pd ≠ pe := ne_of_none e1 hpe
  have nle : pl ≠ pe := ne_of_none e2 hpe
  obtain ⟨s3, e3⟩ := new_both (o := .lst [.int 0]) hpe
  replace e1 := s3.get e1
  replace e2 := s3.get e2
  replace s1 := s1.trans s3
  generalize upd H2 pe (.lst [.int 0]) = H3 at s1 e1 e2 e3 ⊢
  walk_at "st"
  refine k_sortedSA (s1.seq hS) fun ys po hpm hsrt hpo => ?_
  obtain ⟨ws, ews⟩ : ∃ ws : List (List Nat), ws = ys.map fun z : Str => z.cps.toList := ⟨_, rfl⟩
  have hO : Ordd xs ws := by
    refine ⟨?_, fun t => ?_, ?_⟩
    · rw [ews]; exact srt_of hsrt (hpm.nodup_iff.mpr (hnd.mpr hn))
    · rw [ews, List.mem_map]
      constructor
      · rintro ⟨z, hz, rfl⟩
        obtain ⟨t, ht, rfl⟩ := List.mem_map.mp (hpm.mem_iff.mp hz)
        exact ht
      · intro ht
        exact ⟨mkT t, hpm.mem_iff.mpr (List.mem_map_of_mem ht), rfl⟩
    · rw [ews, List.length_map, hpm.length_eq, List.length_map]
  have eys : ys.map V.str = ws.map VT := by rw [strs_VT, ← ews]
  rw [eys]
  have hf2 : ∀ x ∈ ws, Ltr x ∧ x.length ≤ 40 := fun x hx => hf x ((hO.mem x).mp hx)
  have nod := ne_of_none e1 hpo
  have nol := ne_of_none e2 hpo
  have noe := ne_of_none e3 hpo
  obtain ⟨s4, e4⟩ := new_both (o := .lst (ws.map VT)) hpo
  replace e1 := s4.get e1
  replace e2 := s4.get e2
  replace e3 := s4.get e3
  replace s1 := s1.trans s4
  generalize upd H3 po (.lst (ws.map VT)) = H4 at s1 e1 e2 e3 e4 ⊢
  have hsum : (nodesL ws).length ≤ 100000 := by
    have h1 := nodesL_len ws
    have key : ∀ l : List (List Nat), (∀ x ∈ l, Ltr x ∧ x.length ≤ 40) → (l.map List.length).sum ≤ 40 * l.length := by
      intro l
      induction l with
      | nil => intro _; simp
      | cons w l ih =>
        intro hl
        have h3 := ih (fun x hx => hl x (List.mem_cons_of_mem _ hx))
        have h4 := (hl w List.mem_cons_self).2
        rw [List.map_cons, List.sum_cons, List.length_cons]; omega
    have := key ws hf2
    have := hO.len
    omega
  have hmono : ∀ i, i ≤ ws.length → (nodesL (ws.take i)).length ≤ (nodesL ws).length := fun i _ => by
    have e : ws = ws.take i ++ ws.drop i := (List.take_append_drop i ws).symm
    have key : ∀ (a : List (List Nat)) (b : List (List Nat)), (nodesL a).length ≤ (nodesL (a ++ b)).length := by
      intro a b
      induction b generalizing a with
      | nil => rw [List.append_nil]; exact Nat.le_refl _
      | cons w b ih =>
        have h1 := ih (a ++ [w])
        rw [List.append_assoc] at h1
        have h2 : (nodesL a).length ≤ (nodesL (a ++ [w])).length := by rw [nodesL_snoc, List.length_append]; omega
        exact Nat.le_trans h2 h1
    have := key (ws.take i) (ws.drop i)
    rwa [List.take_append_drop] at this
  walk_at "st"
  refine m_iLe (.of e4) ?_
  refine loop_list (xs := ws.map VT) (fun i σ' H' => ∃ (v1 v6 : Option V), i ≤ ws.length ∧ Same G H' ∧ H' po = some (.lst (ws.map VT)) ∧ H' pd = some (.lst ((dpsL (nodesL (ws.take i))).map V.int)) ∧ H' pl = some (.lst ((letsL (nodesL (ws.take i))).map V.int)) ∧ H' pe = some (.lst ((endsL (nodesL (ws.take i)) (ws.take i)).map V.int)) ∧ σ' = [some (.ref a), v1, some (.ref pd), some (.ref pl), some (.ref pe), some (VT (lastW (ws.take i))), v6, none, none, none, none, none, none]) ⟨v1, none, Nat.zero_le _, s1, e4, e1, e2, e3, rfl⟩ (fun i σ' H' _ ⟨_, _, _, _, e, _⟩ => .of e) ?_ ?_
  · rintro i x σ' H5 hx ⟨v1, v6, hi, s5, d4, d1, d2, d3, rfl⟩
    obtain ⟨w, hw, rfl⟩ := of_mapVT hx
    have hlt := (List.getElem?_eq_some_iff.mp hx).1
    rw [List.length_map] at hlt
    have etk : ws.take (i + 1) = ws.take i ++ [w] := by rw [List.take_add_one, hw]; rfl
    have hsrt1 : SrtW (ws.take i ++ [w]) := by rw [← etk]; exact hO.srt.sublist (List.take_sublist _ _)
    have hwl := hf2 w (List.mem_of_getElem? hw)
    have hm1 := hmono (i + 1) hlt
    have hlen1 : (nodesL (ws.take (i + 1))).length = (nodesL (ws.take i)).length + (w.length - shrL (lastW (ws.take i)) w) := by rw [etk, nodesL_snoc, List.length_append, newN_len]
    rw [etk]
    generalize ws.take i = us at *
    have hshl := shrL_le2 (lastW us) w
    have hL : (letsL (nodesL us)).length ≤ (nodesL us).length := by rw [letsL_len]; omega
    generalize hsh : shrL (lastW us) w = sh at *
    walk_at "st"
    refine ⟨mkT (lastW us), mkT w, rfl, fun H6 s6 => ?_⟩
    rw [mkT_list, mkT_list, hsh]
    walk_at "st"
    refine k_lenVT (by omega) ?_
    walk_at "st"
    rw [show ((w.length : Int) - (sh : Int)).toNat = w.length - sh by omega]
    refine loop_range (fun j σ' H' => ∃ (v6 : Option V), j ≤ w.length - sh ∧ Same G H' ∧ H' po = some (.lst (ws.map VT)) ∧ H' pd = some (.lst ((dpsL (nodesL us) ++ (List.range j).map fun k => ((sh + k + 1 : Nat) : Int)).map V.int)) ∧ H' pl = some (.lst ((letsL (nodesL us) ++ (List.range j).map fun k => ((w.getD (sh + k) 97 : Nat) : Int) - 97).map V.int)) ∧ H' pe = some (.lst ((endsL (nodesL us) us ++ List.replicate j 0).map V.int)) ∧ σ' = [some (.ref a), some (VT w), some (.ref pd), some (.ref pl), some (.ref pe), some (VT (lastW us)), v6, none, none, none, none, none, none]) ⟨v6, Nat.zero_le _, s5.trans s6, s6.get d4, by rw [List.range_zero, List.map_nil, List.append_nil]; exact s6.get d1, by rw [List.range_zero, List.map_nil, List.append_nil]; exact s6.get d2, by rw [List.replicate_zero, List.append_nil]; exact s6.get d3, rfl⟩ ?_ ?_
    · rintro j σ' H7 hj ⟨v6, _, s7, f4, f1, f2, f3, rfl⟩
      obtain ⟨c, hc⟩ : ∃ c, w[sh + j]? = some c := ⟨_, List.getElem?_eq_getElem (by omega)⟩
      have hcl := hwl.1 c (List.mem_of_getElem? hc)
      walk_at "st"
      refine k_tyL (.of f1) ?_
      walk_at "st"
      refine k_appI s7 hpd f1 (by rw [List.length_append, dpsL_len, List.length_map, List.length_range]; omega) fun H8 s8 n8 g1 => ?_
      replace f4 := n8 _ _ (Ne.symm nod) f4
      replace f2 := n8 _ _ (Ne.symm ndl) f2
      replace f3 := n8 _ _ (Ne.symm nde) f3
      walk_at "st"
      refine k_tyL (.of f2) ?_
      walk_at "st"
      refine ⟨⟨_, rfl⟩, ?_⟩
      walk_at "st"
      refine k_ixS (by omega) (at_int (by omega) (show w[((sh : Int) + (j : Int)).toNat]? = some c by rw [show ((sh : Int) + (j : Int)).toNat = sh + j by omega]; exact hc)) ?_
      refine k_findL hcl.1 hcl.2 ?_
      walk_at "st"
      refine k_appI s8 hplG f2 (by rw [List.length_append, List.length_map, List.length_range]; omega) fun H9 s9 n9 g2 => ?_
      replace f4 := n9 _ _ (Ne.symm nol) f4
      replace g1 := n9 _ _ ndl g1
      replace f3 := n9 _ _ (Ne.symm nle) f3
      walk_at "st"
      refine k_tyL (.of f3) ?_
      walk_at "st"
      refine k_appI s9 hpeG f3 (by rw [List.length_append, List.length_replicate, endsL_len]; omega) fun H10 s10 n10 g3 => ?_
      replace f4 := n10 _ _ (Ne.symm noe) f4
      replace g1 := n10 _ _ nde g1
      replace g2 := n10 _ _ nle g2
      walk_at "st"
      refine ⟨_, by omega, s10, f4, ?_, ?_, ?_, rfl⟩
      · rw [g1, List.range_succ, List.map_append (f := fun k : Nat => ((sh + k + 1 : Nat) : Int)), ← List.append_assoc]
        congr 5
      · rw [g2, List.range_succ, List.map_append (f := fun k : Nat => ((w.getD (sh + k) 97 : Nat) : Int) - 97), ← List.append_assoc]
        congr 4
        show [(c : Int) - 97] = [((w.getD (sh + j) 97 : Nat) : Int) - 97]
        rw [List.getD_eq_getElem?_getD, hc]; rfl
      · rw [g3, List.replicate_succ', ← List.append_assoc]
    · rintro σ' H7 ⟨v6, _, s7, f4, f1, f2, f3, rfl⟩
      have nl := newN_len (lastW us) w
      rw [hsh] at nl
      walk_at "st"
      obtain ⟨z1, z2⟩ := endsL_step hsrt1
      rw [nl] at z1 z2
      refine m_setI s7 hpeG f3 (ixN_last z2) fun H8 s8 n8 g3 => ?_
      rw [z1] at g3
      walk_at "st"
      have ed := dpsL_snoc us w
      rw [newN_dps, hsh] at ed
      have el := letsL_snoc us w
      rw [newN_lets, hsh] at el
      refine ⟨some (VT w), v6, by omega, s8, n8 _ _ (Ne.symm noe) f4, ?_, ?_, g3, ?_⟩
      · rw [ed]; exact n8 _ _ nde f1
      · rw [el]; exact n8 _ _ nle f2
      · rw [lastW_snoc]; rfl
  rintro σ' H5 ⟨v1, v6, _, s5, d4, d1, d2, d3, rfl⟩
  rw [List.length_map, List.take_length] at d1 d2 d3
  obtain ⟨r1, r2⟩ := q3 ws hO
  have hD := nodesL_deep hO.srt
  have hdl := dpsL_len (nodesL ws)
  have hll := letsL_len (nodesL ws)
  have hel := endsL_len (nodesL ws) ws
  walk_at "st"
  refine ⟨pd, dpsL (nodesL ws), rfl, .of d1, by omega, fun z => r1 (by omega) _ s5, fun _ z => absurd hD z, fun z _ p6 t1 pa ph pb H6 hp6 hpb s6 f1 f2 f3 f4 f5 => ?_⟩
  have hN : (nodesL ws).length ≤ 2048 := by omega
  replace r2 := r2 hN
  have s56 := s5.trans s6
  have hpbG := s5.gone _ hpb
  walk_at "st"
  refine m_gTup (.of f1) rfl ?_
  walk_at "st"
  have hLT : ∀ x ∈ letsL (nodesL ws), 0 ≤ x ∧ x < 26 := fun x hx => by
    unfold letsL at hx
    obtain ⟨t, ht, rfl⟩ := List.mem_map.mp hx
    have hm := (mem_nodesL hO.srt).mp (List.mem_of_mem_tail ht)
    unfold lastL
    rcases hm with e | ⟨w, hw, p⟩
    · subst e; decide
    · by_cases e : t = []
      · subst e; decide
      · have hc : t.getLastD 97 ∈ w := p.subset (by
          rw [List.getLastD_eq_getLast?, List.getLast?_eq_some_getLast e]
          exact List.getLast_mem e)
        have := (hf2 w hw).1 _ hc
        omega
  have hnf : ∀ x ∈ letsL (nodesL ws), ¬ FarS x := fun x hx z => by
    have := hLT x hx
    unfold FarS at z; omega
  refine ⟨pl, letsL (nodesL ws), ints0 26, rfl, s6.get d2, by omega, fun z => by omega, fun _ ⟨x, hx, z⟩ => absurd z (hnf x hx), fun _ _ => ⟨by rw [ints0_len]; decide, fun x hx => ?_, ?_⟩⟩
  · have := hLT x hx
    unfold ints0
    exact List.mem_map.mpr ⟨x.toNat, List.mem_range.mpr (by omega), by omega⟩
  intro ks p7 t2 pk pas pb2 as H7 hK hp7 hpb2 s7 k1 k2 k3 k4 k5 k6 k7
  have s57 := s56.trans s7
  walk_at "st"
  refine m_gTup (.of k1) rfl ?_
  walk_at "st"
  have hB := endsL_bits (nodesL ws) ws
  refine ⟨pe, endsL (nodesL ws) ws, rfl, .of (s7.get (s6.get d3)), by omega, fun z => by omega, fun _ z => absurd hB z, fun _ _ p8 t3 pr pb3 H8 hp8 ht3 hpr hpb3 s8 m1 m2 m3 m4 => ?_⟩
  have s58 := s57.trans s8
  walk_at "st"
  refine m_gTup (.of m1) rfl ?_
  walk_at "st"
  intro pt hpt
  obtain ⟨s9, e9⟩ := new_both (o := .tup [.ref t1, .ref t2, .ref t3]) hpt
  generalize upd H8 pt (.tup [.ref t1, .ref t2, .ref t3]) = H9 at s9 e9 ⊢
  have s89 := s8.trans s9
  have s79 := s7.trans s89
  have hb1 := brk_len hD
  have hb2 := blks_len (brk (dpsL (nodesL ws)))
  have hb3 := blks_len (endsL (nodesL ws) ws)
  have hb4 := sgB_len ks (letsL (nodesL ws)) (lvK ks)
  have hb5 := lvK_le hK (by omega)
  have hb6 : lvK ks * eachB (letsL (nodesL ws)) ≤ 12 * 64 := Nat.mul_le_mul hb5 (by unfold eachB; omega)
  walk_at "st"
  refine k_catI (s79.get f5) (s89.get k7) (by omega) fun pc Hc hpc sc ec => ?_
  have s9c := s9.trans sc
  walk_at "st"
  refine k_catI ec (s9c.get m4) (by rw [List.length_append]; omega) fun pd2 Hd hpd2 sd ed => ?_
  walk_at "st"
  intro pz hpz
  obtain ⟨sz, ez⟩ := new_both (o := .tup [.ref pt, .ref pd2]) hpz
  generalize upd Hd pz (.tup [.ref pt, .ref pd2]) = Hz at sz ez ⊢
  have tz := ((s9.trans sc).trans sd).trans sz
  have t8 := s8.trans tz
  have t7 := s7.trans t8
  have tG := s58.trans tz
  have hpdG : G pd2 = none := ((s58.trans s9).trans sc).gone _ hpd2
  refine r2 pz pt pd2 Hz ((((s58.trans s9).trans sc).trans sd).gone _ hpz) hpdG tG ez ⟨t1, t2, t3, pa, ph, pk, pas, pr, ks, as, ?_, t7.get f2, t7.get f3, t7.get f4, hK, t8.get k2, t8.get k3, t8.get k4, k5, fun l x e => t8.get (k6 l x e), tz.get m2, tz.get m3⟩ fun ks' hK' => ?_
  · exact ((sc.trans sd).trans sz).get e9
  · rw [isK_uniq hK'.srt hK.srt fun k => (hK'.mem k).trans (hK.mem k).symm]
    exact sz.get ed

/-- _law_cell_at(script, k) -/
def sp_law_cell_at (K : PySem.W.Frag) : Sp := fun vs H Q _ => ∃ (a : Addr) (ns : List Int) (k : Int), vs = [.ref a, .int k] ∧ SqL K H a (ns.map V.int) ∧ 0 ≤ k ∧ ∀ c : Int, c = ns.getD k.toNat 0 → Q (.int c) H
theorem len_law_cell_at (K : PySem.W.Frag) : ∀ vs H Q E, sp_law_cell_at K vs H Q E → vs.length = 2 := by
  rintro vs H Q E ⟨x, y, z, rfl, _⟩; rfl
def t_law_cell_at (K : PySem.W.Frag) : TS :=
  (tSeq (tIfS (tTest (tOp rLt (tVar 1) (tCB (rLen K) (tCons (tVar 0) tNil))))
  (tRet (tOp (rIxL K) (tVar 0) (tVar 1)))
  tNext)
  (tRet (tC (.int 0))))
abbrev n_law_cell_at : List Str := ["_law_script", "_law_k"]

theorem rd_law_cell_at (K : PySem.W.Frag) (vs : List V) (H : Hp) (Q : VK) (E : XK) (h : sp_law_cell_at K vs H Q E) : t_law_cell_at K { nx := fun _ H' => Q .non H', rt := Q } (start n_law_cell_at vs) H := by
  obtain ⟨a, ns, k, rfl, hS, hk, q⟩ := h
  unfold t_law_cell_at
  walk_at "st"
  refine k_lenL hS ?_
  walk_at "st"
  rw [List.length_map]
  walk_at "if" <;> intro c
  · walk_at "st"
    have hlt : k.toNat < ns.length := by omega
    refine k_ixL hS (at_int hk (mapint (List.getElem?_eq_getElem hlt))) ?_
    walk_at "st"
    exact q _ (by rw [List.getD_eq_getElem?_getD, List.getElem?_eq_getElem hlt]; rfl)
  · walk_at "st"
    exact q _ (by rw [List.getD_eq_getElem?_getD, List.getElem?_eq_none (by omega)]; rfl)
theorem call_cell_at {K : PySem.W.Frag} {H : Hp} {Q : VK} {E : XK} {a : Addr} {ns : List Int} {k : Int} (hS : SqL K H a (ns.map V.int)) (hk : 0 ≤ k) (q : ∀ c : Int, c = ns.getD k.toNat 0 → Q (.int c) H) : sp_law_cell_at K [.ref a, .int k] H Q E :=
  ⟨a, ns, k, rfl, hS, hk, q⟩

/-- _law_whole(x) -/
def sp_law_whole (_ : PySem.W.Frag) : Sp := fun vs H Q _ => ∃ x : V, vs = [x] ∧ ((∃ n : Int, x = .int n ∧ Q (.bl true) H) ∨ (x = .non ∧ Q (.bl false) H))
theorem whole_int {K : PySem.W.Frag} {H : Hp} {Q : VK} {E : XK} {n : Int} (q : Q (.bl true) H) : sp_law_whole K [.int n] H Q E := ⟨_, rfl, .inl ⟨n, rfl, q⟩⟩
theorem whole_non {K : PySem.W.Frag} {H : Hp} {Q : VK} {E : XK} (q : Q (.bl false) H) : sp_law_whole K [.non] H Q E := ⟨_, rfl, .inr ⟨rfl, q⟩⟩
theorem len_law_whole (K : PySem.W.Frag) : ∀ vs H Q E, sp_law_whole K vs H Q E → vs.length = 1 := by
  rintro vs H Q E ⟨x, rfl, _⟩; rfl
def t_law_whole (K : PySem.W.Frag) : TS :=
  (tRet (tAndV (tCB rIsB (tCons (tVar 0) (tCons (tC (.ty "int")) tNil))) (tNotV (tCB rIsB (tCons (tVar 0) (tCons (tC (.ty "bool")) tNil))))))
abbrev n_law_whole : List Str := ["_law_found"]

theorem rd_law_whole (K : PySem.W.Frag) (vs : List V) (H : Hp) (Q : VK) (E : XK) (h : sp_law_whole K vs H Q E) : t_law_whole K { nx := fun _ H' => Q .non H', rt := Q } (start n_law_whole vs) H := by
  obtain ⟨x, rfl, (⟨n, rfl, q⟩ | ⟨rfl, q⟩)⟩ := h
  · unfold t_law_whole
    walk_at "st"
    exact q
  · unfold t_law_whole
    walk_at "st"
    refine k_isIntN ?_
    walk_at "st"
    exact q

/-- words of a law: small letters, at most forty, each once, three hundred in all -/
structure WdsL (ws : List (List Nat)) : Prop where
  ltr : ∀ t ∈ ws, Ltr t ∧ t.length ≤ 40
  nd : ws.Nodup
  len : ws.length ≤ 63
  sum : (ws.map List.length).sum ≤ 300
theorem WdsL.asc {ws : List (List Nat)} (h : WdsL ws) : ∀ t ∈ ws, Asc t := fun t ht => (h.ltr t ht).1.asc
theorem Ordd.sum {xs ws : List (List Nat)} (hO : Ordd xs ws) (hn : xs.Nodup) : (ws.map List.length).sum = (xs.map List.length).sum := by
  have hp : ws.Perm xs := (List.perm_ext_iff_of_nodup (srt_nodup hO.srt) hn).mpr hO.mem
  exact (hp.map _).sum_nat
theorem WdsL.nodes {ws us : List (List Nat)} (h : WdsL ws) (hO : Ordd ws us) : (nodesL us).length ≤ 301 := by
  have h1 := nodesL_len us
  have h2 := hO.sum h.nd
  have := h.sum
  omega

/-- _law_spelt(number, kinds, many) -/
def sp_law_spelt (_ : PySem.W.Frag) : Sp := fun vs H Q _ => ∃ n k m : Int, vs = [.int n, .int k, .int m] ∧ (0 ≤ n ∧ n < 2147483648) ∧ 0 < k ∧ k ≤ 26 ∧ 0 ≤ m ∧ m ≤ 1000 ∧ ∀ t : List Nat, Ltr t → (t.length : Int) = m → Q (VT t) H
theorem len_law_spelt (K : PySem.W.Frag) : ∀ vs H Q E, sp_law_spelt K vs H Q E → vs.length = 3 := by
  rintro vs H Q E ⟨n, k, m, rfl, _⟩; rfl
def t_law_spelt (K : PySem.W.Frag) : TS :=
  (tSeq (tAsg (tC (.str "")) (gName 3))
  (tSeq (tFor (iRng1 (tCons (tVar 2) tNil)) (gName 4)
  (tSeq (tAsg (tOp rMod (tOp rPlus (tOp rPlus (tOp rTimes (tVar 0) (tVar 0)) (tOp rTimes (tC (.int 16807)) (tVar 0))) (tVar 4)) (tC (.int 2147483647))) (gName 0))
  (tAsg (tOp rAddStr (tVar 3) (tOp rIxS (tC (.str "abcdefghijklmnopqrstuvwxyz")) (tOp rMod (tOp rDiv (tVar 0) (tC (.int 64))) (tVar 1)))) (gName 3))))
  (tRet (tVar 3))))
abbrev n_law_spelt : List Str := ["_law_number", "_law_kinds", "_law_many", "_law_word", "_law_k"]

theorem rd_law_spelt (K : PySem.W.Frag) (vs : List V) (H : Hp) (Q : VK) (E : XK) (h : sp_law_spelt K vs H Q E) : t_law_spelt K { nx := fun _ H' => Q .non H', rt := Q } (start n_law_spelt vs) H := by
  obtain ⟨n, k, m, rfl, hn, hk, hk2, hm0, hm, q⟩ := h
  obtain ⟨m, rfl⟩ := Int.eq_ofNat_of_zero_le hm0
  unfold t_law_spelt
  walk_at "st"
  refine loop_range0 (fun i σ' H' => ∃ (n : Int) (w : List Nat) (v5 : Option V), H' = H ∧ (0 ≤ n ∧ n < 2147483648) ∧ Ltr w ∧ w.length = i ∧ σ' = [some (.int n), some (.int k), some (.int (m : Int)), some (VT w), v5]) ⟨n, [], none, rfl, hn, ltr_nil, rfl, rfl⟩ ?_ ?_
  · rintro i σ' H' hi ⟨n, w, v5, rfl, hn, hw, hl, rfl⟩
    walk_at "st"
    have m0 := Int.emod_nonneg ((n * n + 16807 * n + (i : Int)) % 2147483647 / 64) (show k ≠ 0 by omega)
    have m1 := Int.emod_lt_of_pos ((n * n + 16807 * n + (i : Int)) % 2147483647 / 64) hk
    refine k_ixA m0 (by omega) fun c hc => ?_
    refine k_addVT (by simp only [List.length_cons, List.length_nil]; omega) ?_
    exact ⟨_, _, _, rfl, by omega, ltr_app hw fun d hd => by rw [List.mem_singleton.mp hd]; exact hc, by rw [List.length_append, hl]; rfl, rfl⟩
  · rintro σ' H' ⟨n, w, v5, rfl, hn, hw, hl, rfl⟩
    walk_at "st"
    exact q w hw (by omega)
/-- _law_words(script) -/
def sp_law_words (K : PySem.W.Frag) : Sp := fun vs H Q _ => ∃ (a : Addr) (ns : List Int), vs = [.ref a] ∧ SqL K H a (ns.map V.int) ∧ ns.length ≤ 100000 ∧ ∀ (ws : List (List Nat)) p H', (∀ t ∈ ws, Ltr t ∧ t.length ≤ 40) → ws.Nodup → ws.length ≤ 30 → H p = none → Same H H' → H' p = some (.lst (ws.map VT)) → Q (.ref p) H'
theorem len_law_words (K : PySem.W.Frag) : ∀ vs H Q E, sp_law_words K vs H Q E → vs.length = 1 := by
  rintro vs H Q E ⟨a, ns, rfl, _⟩; rfl
def t_law_words (K : PySem.W.Frag) : TS :=
  (tSeq (tAsg (tLst tNil) (gName 1))
  (tSeq (tFor (iList K (tSl (rSlL K) (tVar 0) (tPart (tC (.int 5))) (tPart (tC (.int 35))))) (gName 2)
  (tSeq (tAsg (tOp rMod (tOp rTimes (tVar 2) (tC (.int 16807))) (tC (.int 2147483647))) (gName 3))
  (tSeq (tAsg (tOp (rIxL K) (tLst (tCons (tOp rMod (tOp rDiv (tVar 3) (tC (.int 8))) (tC (.int 6))) (tCons (tOp rMod (tOp rDiv (tVar 3) (tC (.int 8))) (tC (.int 41))) tNil))) (tCB rInt1 (tCons (tOp rEq (tOp rMod (tVar 3) (tC (.int 8))) (tC (.int 3))) tNil))) (gName 4))
  (tSeq (tAsg (tCall (sp_law_spelt K) [] E0 (tCons (tVar 3) (tCons (tOp rPlus (tC (.int 1)) (tOp rMod (tOp rDiv (tVar 3) (tC (.int 336))) (tC (.int 26)))) (tCons (tVar 4) tNil)))) (gName 5))
  (tIfS (tTest (tOp (rNotInD K) (tVar 5) (tVar 1)))
  (tDrop (tBM K "list" rAppend (tVar 1) (tCons (tVar 5) tNil)))
  tNext)))))
  (tRet (tVar 1))))
abbrev n_law_words : List Str := ["_law_script", "_law_words_here", "_law_cell", "_law_number", "_law_many", "_law_word"]

theorem rd_law_words (K : PySem.W.Frag) (vs : List V) (H : Hp) (Q : VK) (E : XK) (h : sp_law_words K vs H Q E) : t_law_words K { nx := fun _ H' => Q .non H', rt := Q } (start n_law_words vs) H := by
  obtain ⟨a, ns, rfl, hS, hl, q⟩ := h
  unfold t_law_words
  walk_at "st"
  intro p hp
  obtain ⟨s1, e1⟩ := new_both (o := .lst []) hp
  generalize upd H p (.lst []) = H1 at s1 e1 ⊢
  walk_at "st"
  refine k_slL (s1.seq hS) fun l hl2 => ?_
  have ecut : cutV (ns.map V.int) (some 5) (some 35) = ((ns.take 35).drop 5).map V.int := by
    rw [show (5 : Int) = ((5 : Nat) : Int) from rfl, show (35 : Int) = ((35 : Nat) : Int) from rfl, cutPart, List.map_drop, List.map_take]
  rw [ecut]
  have npl := ne_of_none e1 hl2
  obtain ⟨s2, e2⟩ := new_both (o := .lst (((ns.take 35).drop 5).map V.int)) hl2
  replace e1 := s2.get e1
  replace s2 := s1.trans s2
  generalize upd H1 l (.lst (((ns.take 35).drop 5).map V.int)) = H2 at s2 e1 e2 ⊢
  have hlen : ((ns.take 35).drop 5).length ≤ 30 := by rw [List.length_drop, List.length_take]; omega
  generalize (ns.take 35).drop 5 = ms at *
  walk_at "st"
  refine m_iLe (.of e2) ?_
  refine loop_ints (ns := ms) (fun i σ' H' => ∃ (ws : List (List Nat)) (v2 v3 v4 v5 : Option V), (∀ t ∈ ws, Ltr t ∧ t.length ≤ 40) ∧ ws.Nodup ∧ ws.length ≤ i ∧ i ≤ ms.length ∧ Same H H' ∧ H' l = some (.lst (ms.map V.int)) ∧ H' p = some (.lst (ws.map VT)) ∧ σ' = [some (.ref a), some (.ref p), v2, v3, v4, v5]) ⟨[], none, none, none, none, by simp, .nil, Nat.zero_le _, Nat.zero_le _, s2, e2, e1, rfl⟩ (fun i σ' H' ⟨_, _, _, _, _, _, _, _, _, _, e, _⟩ => .of e) ?_ ?_
  · rintro i c σ' H3 hc ⟨ws, v2, v3, v4, v5, hw, hnd, hwl, hi, s, e2, e1, rfl⟩
    have hlt := (List.getElem?_eq_some_iff.mp hc).1
    walk_at "st"
    have hn : 0 ≤ c * 16807 % 2147483647 ∧ c * 16807 % 2147483647 < 2147483648 := by omega
    generalize c * 16807 % 2147483647 = num at hn ⊢
    intro p4 hp4
    have n14 := ne_of_none e1 hp4
    obtain ⟨s4, e4⟩ := new_both (o := .lst [.int (num / 8 % 6), .int (num / 8 % 41)]) hp4
    replace e1 := s4.get e1
    replace e2 := s4.get e2
    replace s := s.trans s4
    generalize upd H3 p4 (.lst [.int (num / 8 % 6), .int (num / 8 % 41)]) = H4 at s e1 e2 e4 ⊢
    walk_at "st"
    refine k_intB ?_
    obtain ⟨x, hx, hx0, hx1⟩ : ∃ x : Int, atI [V.int (num / 8 % 6), V.int (num / 8 % 41)] (if decide (num % 8 = 3) = true then 1 else 0) = some (.int x) ∧ 0 ≤ x ∧ x ≤ 40 := by
      by_cases c1 : num % 8 = 3
      · rw [if_pos (decide_eq_true c1)]; exact ⟨_, rfl, by omega, by omega⟩
      · rw [if_neg (by rw [decide_eq_false c1]; decide)]; exact ⟨_, rfl, by omega, by omega⟩
    refine k_ixL (.of e4) hx ?_
    walk_at "st"
    refine ⟨num, _, x, rfl, hn, by omega, by omega, hx0, by omega, fun t ht htl => ?_⟩
    walk_at "st"
    refine k_notInLT (.of e1) ht.asc (fun u hu => (hw u hu).1.asc) ?_
    walk_at "st"
    walk_at "if" <;> intro c1
    · walk_at "st"
      refine k_tyL (.of e1) ?_
      walk_at "st"
      refine k_appP s hp e1 (by rw [List.length_map]; omega) fun H5 s5 n5 e5 => ?_
      walk_at "st"
      exact ⟨ws ++ [t], _, _, _, _, fun u hu => (List.mem_append.mp hu).elim (hw u) (fun z => by rw [List.mem_singleton.mp z]; exact ⟨ht, by omega⟩),
            List.nodup_append.mpr ⟨hnd, by simp, fun u hu v hv e => by rw [List.mem_singleton.mp hv] at e; rw [e] at hu; exact c1 hu⟩,
            by rw [List.length_append]; show ws.length + 1 ≤ _; omega, hlt, s5, n5 _ _ (Ne.symm npl) e2, by rw [e5, List.map_append]; rfl, rfl⟩
    · walk_at "st"
      exact ⟨ws, _, _, _, _, hw, hnd, by omega, hlt, s, e2, e1, rfl⟩
  · rintro σ' H3 ⟨ws, v2, v3, v4, v5, hw, hnd, hwl, hi, s, e2, e1, rfl⟩
    walk_at "st"
    exact q ws p H3 hw hnd (by omega) hp s e1

/-! words with so many beginnings (pure) -/
/-- the six letters of a number -/
def headW (k : Nat) : List Nat := [97 + k / 32 % 2, 97 + k / 16 % 2, 97 + k / 8 % 2, 97 + k / 4 % 2, 97 + k / 2 % 2, 97 + k / 1 % 2]
def manyW (k : Nat) : List Nat := headW k ++ List.replicate 34 98
/-- the words, as they are handed in -/
def manyL (m : Nat) : List (List Nat) := List.replicate (31 + m) 99 :: (List.range 56).map manyW
/-- .. sorted -/
def manyS (m : Nat) : List (List Nat) := (List.range 56).map manyW ++ [List.replicate (31 + m) 99]
def ltB : List Nat → List Nat → Bool
  | [], [] => false
  | [], _ :: _ => true
  | _ :: _, [] => false
  | a :: r, b :: t => Nat.blt a b || (Nat.beq a b && ltB r t)
theorem ltB_lt : ∀ {a b : List Nat}, ltB a b = true → a < b
  | [], [], h => by simp [ltB] at h
  | [], b :: t, _ => llt_nil_cons b t
  | a :: r, [], h => by simp [ltB] at h
  | a :: r, b :: t, h => by
    unfold ltB at h
    rw [Bool.or_eq_true, Bool.and_eq_true] at h
    rcases h with h | ⟨h1, h2⟩
    · exact llt_cons.mpr (.inl (by simpa using h))
    · exact llt_cons.mpr (.inr ⟨Nat.eq_of_beq_eq_true h1, ltB_lt h2⟩)
def risB : List Nat → List (List Nat) → Bool
  | _, [] => true
  | a, b :: r => ltB a b && risB b r
theorem risB_srt : ∀ {r : List (List Nat)} {a : List Nat}, risB a r = true → (a :: r).Pairwise (· < ·)
  | [], a, _ => List.pairwise_singleton _ _
  | b :: r, a, h => by
    unfold risB at h
    rw [Bool.and_eq_true] at h
    have ih := risB_srt h.2
    have hab := ltB_lt h.1
    refine List.pairwise_cons.mpr ⟨fun x hx => ?_, ih⟩
    rcases List.mem_cons.mp hx with e | e
    · rw [e]; exact hab
    · exact llt_trans hab ((List.pairwise_cons.mp ih).1 x e)
def lensN : List Nat → List (List Nat) → Nat
  | _, [] => 0
  | a, w :: ws => (w.length - shrL a w) + lensN w ws
theorem lensN_len : ∀ (ws : List (List Nat)) (a : List Nat), (nodesF a ws).length = lensN a ws
  | [], _ => rfl
  | w :: ws, a => by
    unfold nodesF lensN
    rw [List.length_append, newN_len, lensN_len ws w]
theorem many_srt : ∀ m : Fin 4, risB [] (manyS m.val) = true := by decide +kernel
theorem many_len : ∀ m : Fin 4, lensN [] (manyS m.val) = 2046 + m.val := by decide +kernel
theorem manyS_srt {m : Nat} (h : m < 4) : SrtW (manyS m) := (List.pairwise_cons.mp (risB_srt (many_srt ⟨m, h⟩))).2
theorem manyS_len {m : Nat} (h : m < 4) : (nodesL (manyS m)).length = 2047 + m := by
  unfold nodesL
  rw [List.length_cons, lensN_len, many_len ⟨m, h⟩]
  show 2046 + m + 1 = _
  omega
theorem many_ord {m : Nat} (h : m < 4) : Ordd (manyL m) (manyS m) := by
  refine ⟨manyS_srt h, fun t => ?_, ?_⟩
  · unfold manyL manyS
    simp only [List.mem_append, List.mem_cons, List.not_mem_nil, or_false]
    exact ⟨fun z => z.elim .inr .inl, fun z => z.elim .inr .inl⟩
  · unfold manyL manyS
    rw [List.length_append, List.length_cons]; rfl
theorem many_nd {m : Nat} (h : m < 4) : (manyL m).Nodup := by
  have hp : (manyL m).Perm (manyS m) := by
    unfold manyL manyS
    exact List.perm_append_comm (l₁ := [List.replicate (31 + m) 99])
  exact hp.nodup_iff.mpr (srt_nodup (manyS_srt h))
theorem headW_ltr (k : Nat) : Ltr (headW k) := fun c hc => by
  unfold headW at hc
  simp only [List.mem_cons, List.not_mem_nil, or_false] at hc
  omega
theorem many_wd {m : Nat} (h : m < 4) : ∀ x ∈ manyL m, Ltr x ∧ x.length ≤ 40 := fun x hx => by
  unfold manyL at hx
  rcases List.mem_cons.mp hx with e | e
  · rw [e]
    exact ⟨fun c hc => by rw [List.eq_of_mem_replicate hc]; decide, by rw [List.length_replicate]; omega⟩
  · obtain ⟨k, _, rfl⟩ := List.mem_map.mp e
    unfold manyW
    exact ⟨ltr_app (headW_ltr k) fun c hc => by rw [List.eq_of_mem_replicate hc]; decide, by rw [List.length_append, List.length_replicate]; show 6 + 34 ≤ 40; decide⟩
/-- _law_many_words(more) -/
def sp_law_many_words (K : PySem.W.Frag) : Sp := fun vs H Q _ => ∃ m : Nat, vs = [.int (m : Int)] ∧ m < 4 ∧ ∀ p H', H p = none → Same H H' → H' p = some (.lst ((manyL m).map VT)) → Q (.ref p) H'
theorem len_law_many_words (K : PySem.W.Frag) : ∀ vs H Q E, sp_law_many_words K vs H Q E → vs.length = 1 := by
  rintro vs H Q E ⟨m, rfl, _⟩; rfl
def t_law_many_words (K : PySem.W.Frag) : TS :=
  (tSeq (tAsg (tLst (tCons (tOp rRepS (tC (.str "c")) (tOp rPlus (tC (.int 31)) (tVar 0))) tNil)) (gName 1))
  (tSeq (tFor (iRng1 (tCons (tC (.int 56)) tNil)) (gName 2)
  (tSeq (tAsg (tC (.str "")) (gName 3))
  (tSeq (tFor (iList K (tLst (tCons (tC (.int 32)) (tCons (tC (.int 16)) (tCons (tC (.int 8)) (tCons (tC (.int 4)) (tCons (tC (.int 2)) (tCons (tC (.int 1)) tNil)))))))) (gName 4)
  (tAsg (tOp rAddStr (tVar 3) (tOp rIxS (tC (.str "ab")) (tOp rMod (tOp rDivW (tVar 2) (tVar 4)) (tC (.int 2))))) (gName 3)))
  (tDrop (tBM K "list" rAppend (tVar 1) (tCons (tOp rAddStr (tVar 3) (tOp rRepS (tC (.str "b")) (tC (.int 34)))) tNil))))))
  (tRet (tVar 1))))
abbrev n_law_many_words : List Str := ["_law_more", "_law_words_here", "_law_k", "_law_head", "_law_weight"]

theorem rd_law_many_words (K : PySem.W.Frag) (vs : List V) (H : Hp) (Q : VK) (E : XK) (h : sp_law_many_words K vs H Q E) : t_law_many_words K { nx := fun _ H' => Q .non H', rt := Q } (start n_law_many_words vs) H := by
  obtain ⟨m, rfl, hm, q⟩ := h
  unfold t_law_many_words
  walk_at "st"
  refine k_repS (c := 99) (by omega) ?_
  walk_at "st"
  intro p hp
  have e0 : (.str ⟨(List.replicate (31 + (m : Int)).toNat 99).toArray⟩ : V) = VT (List.replicate (31 + m) 99) := by
    rw [show (31 + (m : Int)).toNat = 31 + m by omega]; rfl
  rw [e0]
  obtain ⟨s1, e1⟩ := new_both (o := .lst [VT (List.replicate (31 + m) 99)]) hp
  generalize upd H p (.lst [VT (List.replicate (31 + m) 99)]) = H1 at s1 e1 ⊢
  walk_at "st"
  refine loop_range0 (fun k σ' H' => ∃ v2 v3 v4, Same H H' ∧ H' p = some (.lst ((List.replicate (31 + m) 99 :: (List.range k).map manyW).map VT)) ∧ k ≤ 56 ∧ σ' = [some (.int (m : Int)), some (.ref p), v2, v3, v4]) ⟨none, none, none, s1, e1, Nat.zero_le _, rfl⟩ ?_ ?_
  · rintro k σ' H2 hk ⟨v2, v3, v4, s, e, _, rfl⟩
    walk_at "st"
    intro pw hpw
    have npw := ne_of_none e hpw
    obtain ⟨s2, e2⟩ := new_both (o := .lst (([32, 16, 8, 4, 2, 1] : List Int).map V.int)) hpw
    replace e := s2.get e
    replace s := s.trans s2
    have e2' : (upd H2 pw (.lst [.int 32, .int 16, .int 8, .int 4, .int 2, .int 1])) pw = some (.lst (([32, 16, 8, 4, 2, 1] : List Int).map V.int)) := e2
    change Same H (upd H2 pw (.lst [.int 32, .int 16, .int 8, .int 4, .int 2, .int 1])) at s
    change (upd H2 pw (.lst [.int 32, .int 16, .int 8, .int 4, .int 2, .int 1])) p = _ at e
    clear e2 s2
    generalize upd H2 pw (.lst [.int 32, .int 16, .int 8, .int 4, .int 2, .int 1]) = H3 at s e e2' ⊢
    refine m_iLe (.of e2') ?_
    refine loop_ints (ns := [32, 16, 8, 4, 2, 1]) (fun i σ' H' => ∃ v4, H' = H3 ∧ i ≤ 6 ∧ σ' = [some (.int (m : Int)), some (.ref p), some (.int (k : Int)), some (VT ((headW k).take i)), v4]) ⟨v4, rfl, Nat.zero_le _, rfl⟩ (fun i σ' H' ⟨_, e, _⟩ => e ▸ .of e2') ?_ ?_
    · rintro i w σ' H' hw ⟨v4, rfl, hi, rfl⟩
      have hlt := (List.getElem?_eq_some_iff.mp hw).1
      have hw0 := hw
      simp only [List.length_cons, List.length_nil] at hlt
      have hw2 : 1 ≤ w ∧ w ≤ 32 := by
        have := List.mem_of_getElem? hw
        simp only [List.mem_cons, List.not_mem_nil, or_false] at this
        omega
      obtain ⟨c, hc, hc2⟩ : ∃ c, atI ([97, 98] : List Nat) ((k : Int) / w % 2) = some c ∧ (headW k)[i]? = some c := by
        have key : ∀ d : Nat, atI ([97, 98] : List Nat) ((k : Int) / (d : Int) % 2) = some (97 + k / d % 2) := fun d => by
          rw [show (k : Int) / (d : Int) % 2 = ((k / d % 2 : Nat) : Int) by push_cast; rfl]
          rcases (by omega : k / d % 2 = 0 ∨ k / d % 2 = 1) with z | z <;> rw [z] <;> rfl
        rcases (by omega : i = 0 ∨ i = 1 ∨ i = 2 ∨ i = 3 ∨ i = 4 ∨ i = 5) with rfl | rfl | rfl | rfl | rfl | rfl <;> (simp only [List.getElem?_cons_zero, List.getElem?_cons_succ, Option.some.injEq] at hw; subst hw)
        · exact ⟨_, key 32, rfl⟩
        · exact ⟨_, key 16, rfl⟩
        · exact ⟨_, key 8, rfl⟩
        · exact ⟨_, key 4, rfl⟩
        · exact ⟨_, key 2, rfl⟩
        · exact ⟨_, key 1, rfl⟩
      walk_at "st"
      refine k_I (show CDivW (k : Int) w from by
        have := List.mem_of_getElem? hw0
        simp only [List.mem_cons, List.not_mem_nil, or_false] at this
        rcases this with rfl | rfl | rfl | rfl | rfl | rfl <;> exact ⟨by decide, by decide +kernel⟩) ?_
      walk_at "st"
      refine k_ixS (t := [97, 98]) (by decide) hc ?_
      refine k_addVT (by rw [List.length_take]; simp only [List.length_cons, List.length_nil]; omega) ?_
      refine ⟨some (.int w), rfl, by omega, ?_⟩
      rw [List.take_add_one, hc2]; rfl
    rintro σ' H' ⟨v4, rfl, _, rfl⟩
    walk_at "st"
    refine k_tyL (.of e) ?_
    walk_at "st"
    refine k_repS (c := 98) (by omega) ?_
    have e3 : (.str ⟨(List.replicate (34 : Int).toNat 98).toArray⟩ : V) = VT (List.replicate 34 98) := rfl
    rw [e3]
    refine k_addVT (by rw [List.length_take, List.length_replicate]; simp only [List.length_cons, List.length_nil]; omega) ?_
    walk_at "st"
    refine k_appP s hp e (by rw [List.length_map, List.length_cons, List.length_map, List.length_range]; omega) fun H4 s4 n4 e4 => ?_
    walk_at "st"
    refine ⟨_, _, _, s4, ?_, hk, rfl⟩
    rw [e4, List.range_succ, List.map_append (f := manyW), ← List.cons_append, List.map_append (f := VT)]
    congr 3
  · rintro σ' H2 ⟨v2, v3, v4, s, e, _, rfl⟩
    walk_at "st"
    exact q p H2 hp s e

/-! lists of numbers and truths -/
def sV : Int ⊕ Bool → V
  | .inl i => .int i
  | .inr b => .bl b
def sD : Int ⊕ Bool → PyData
  | .inl i => .int i
  | .inr b => .bool b
theorem dp_mixA {K : PySem.W.Frag} {H : Hp} : ∀ cs : List (Int ⊕ Bool), DpAll K H (cs.map sV) (cs.map sD)
  | [] => .nil
  | .inl i :: cs => .cons (.int i) (dp_mixA cs)
  | .inr b :: cs => .cons (.bl b) (dp_mixA cs)
theorem dp_mix {K : PySem.W.Frag} {H : Hp} {a : Addr} {cs : List (Int ⊕ Bool)} (h : SqL K H a (cs.map sV)) : Dp K H (.ref a) (.list (cs.map sD)) := .lst h (dp_mixA cs)
theorem laid_mix (cs : List (Int ⊕ Bool)) : laid 64 (.list (cs.map sD)) := laid_list (n := 63) fun d hd => by
  obtain ⟨c, _, rfl⟩ := List.mem_map.mp hd
  cases c with
  | inl i => exact laid_int _
  | inr b => exact laid_bool _
theorem k_eqMix {K : PySem.W.Frag} {H : Hp} {Q : VK} {a b : Addr} (cs ds : List (Int ⊕ Bool)) {r : Bool} (h1 : SqL K H a (cs.map sV)) (h2 : SqL K H b (ds.map sV)) (e : PyData.eqv (.list (cs.map sD)) (.list (ds.map sD)) = r) (q : Q (.bl r) H) : rEqD K (.ref a) (.ref b) H Q :=
  k_eqD (dp_mix h1) (dp_mix h2) (laid_mix cs) (laid_mix ds) (by rw [e]; exact q)
theorem k_neMix {K : PySem.W.Frag} {H : Hp} {Q : VK} {a b : Addr} (cs ds : List (Int ⊕ Bool)) {r : Bool} (h1 : SqL K H a (cs.map sV)) (h2 : SqL K H b (ds.map sV)) (e : PyData.eqv (.list (cs.map sD)) (.list (ds.map sD)) = r) (q : Q (.bl (!r)) H) : rNeD K (.ref a) (.ref b) H Q :=
  k_neD (dp_mix h1) (dp_mix h2) (laid_mix cs) (laid_mix ds) (by rw [e]; exact q)
theorem eqv_same : ∀ cs : List (Int ⊕ Bool), PyData.eqvAll (cs.map sD) (cs.map sD) = true
  | [] => by simp [PyData.eqvAll]
  | .inl i :: cs => by simp [PyData.eqvAll, sD, PyData.eqv, eqv_same cs]
  | .inr b :: cs => by simp [PyData.eqvAll, sD, PyData.eqv, eqv_same cs]

abbrev IsWd (x : List Nat) : Prop := Ltr x ∧ x.length ≤ 40
/-- no class of those that are not asked for -/
structure Oth (K : PySem.W.Frag) (D : Addr) : Prop where
  a : PySem.W.kitAny K (.ref D) ([He.ga K "NoBit", He.ga K "NoNode", He.ga K "NoOctets"].map Value.ref) = some false
  b : PySem.W.kitAny K (.ref D) ([He.ga K "NoPlace", He.ga K "NoSign", He.ga K "NoTree"].map Value.ref) = some false
theorem oth_NoWord {K : PySem.W.Frag} (F : KFx K) : Oth K (He.ga K "NoWord") := by
  refine ⟨kitAny_no _ fun u hu => ?_, kitAny_no _ fun u hu => ?_⟩ <;> simp only [List.map_cons, List.map_nil, List.mem_cons, List.not_mem_nil, or_false] at hu
  · rcases hu with rfl | rfl | rfl
    · exact F.k_NoWord_NoBit
    · exact F.k_NoWord_NoNode
    · exact F.k_NoWord_NoOctets
  · rcases hu with rfl | rfl | rfl
    · exact F.k_NoWord_NoPlace
    · exact F.k_NoWord_NoSign
    · exact F.k_NoWord_NoTree
theorem oth_Twice {K : PySem.W.Frag} (F : KFx K) : Oth K (He.ga K "Twice") := by
  refine ⟨kitAny_no _ fun u hu => ?_, kitAny_no _ fun u hu => ?_⟩ <;> simp only [List.map_cons, List.map_nil, List.mem_cons, List.not_mem_nil, or_false] at hu
  · rcases hu with rfl | rfl | rfl
    · exact F.k_Twice_NoBit
    · exact F.k_Twice_NoNode
    · exact F.k_Twice_NoOctets
  · rcases hu with rfl | rfl | rfl
    · exact F.k_Twice_NoPlace
    · exact F.k_Twice_NoSign
    · exact F.k_Twice_NoTree
theorem oth_TooMany {K : PySem.W.Frag} (F : KFx K) : Oth K (He.ga K "TooMany") := by
  refine ⟨kitAny_no _ fun u hu => ?_, kitAny_no _ fun u hu => ?_⟩ <;> simp only [List.map_cons, List.map_nil, List.mem_cons, List.not_mem_nil, or_false] at hu
  · rcases hu with rfl | rfl | rfl
    · exact F.k_TooMany_NoBit
    · exact F.k_TooMany_NoNode
    · exact F.k_TooMany_NoOctets
  · rcases hu with rfl | rfl | rfl
    · exact F.k_TooMany_NoPlace
    · exact F.k_TooMany_NoSign
    · exact F.k_TooMany_NoTree
/-- _law_others(e) -/
def sp_law_others (K : PySem.W.Frag) : Sp := fun vs H Q _ => ∃ (a D : Addr), vs = [.ref a] ∧ ExcAt K H a D ∧ Oth K D ∧ ∀ H', L2.Same H H' → Q (.bl false) H'
theorem len_law_others (K : PySem.W.Frag) : ∀ vs H Q E, sp_law_others K vs H Q E → vs.length = 1 := by
  rintro vs H Q E ⟨a, D, rfl, _⟩; rfl
def t_law_others (K : PySem.W.Frag) : TS :=
  (tSeq (tIfS (tB (tCB (rIsH K) (tCons (tVar 0) (tCons (tTup (tCons (tC (.ref (He.ga K "NoBit"))) (tCons (tC (.ref (He.ga K "NoNode"))) (tCons (tC (.ref (He.ga K "NoOctets"))) tNil)))) tNil))))
  (tRet (tC (.bl true)))
  tNext)
  (tRet (tCB (rIsH K) (tCons (tVar 0) (tCons (tTup (tCons (tC (.ref (He.ga K "NoPlace"))) (tCons (tC (.ref (He.ga K "NoSign"))) (tCons (tC (.ref (He.ga K "NoTree"))) tNil)))) tNil)))))
abbrev n_law_others : List Str := ["_law_e"]

theorem rd_law_others (K : PySem.W.Frag) (F : KFx K) (vs : List V) (H : Hp) (Q : VK) (E : XK) (h : sp_law_others K vs H Q E) : t_law_others K { nx := fun _ H' => Q .non H', rt := Q } (start n_law_others vs) H := by
  obtain ⟨a, D, rfl, hA, hO, q⟩ := h
  unfold t_law_others
  walk_at "st"
  intro p1 hp1
  have s1 := all_new (o := .tup ([He.ga K "NoBit", He.ga K "NoNode", He.ga K "NoOctets"].map V.ref)) hp1
  refine k_isHT _ (H := upd H p1 (.tup ([He.ga K "NoBit", He.ga K "NoNode", He.ga K "NoOctets"].map V.ref))) upd_same (hA.same (.of s1)) hO.a ?_
  generalize upd H p1 (.tup ([He.ga K "NoBit", He.ga K "NoNode", He.ga K "NoOctets"].map V.ref)) = H1 at s1 ⊢
  walk_at "st"
  intro p2 hp2
  have s2 := all_new (o := .tup ([He.ga K "NoPlace", He.ga K "NoSign", He.ga K "NoTree"].map V.ref)) hp2
  refine k_isHT _ (H := upd H1 p2 (.tup ([He.ga K "NoPlace", He.ga K "NoSign", He.ga K "NoTree"].map V.ref))) upd_same (hA.same (.of (all_trans s1 s2))) hO.b ?_
  exact q _ (all_trans s1 s2)
/-- what is told of a list of texts -/
inductive WayW (xs : List (List Nat)) : Nat → Prop
  | bad : (∃ x ∈ xs, ¬ IsWd x) → WayW xs 1
  | two : (∀ x ∈ xs, IsWd x) → ¬ xs.Nodup → WayW xs 2
  | many (us : List (List Nat)) : (∀ x ∈ xs, IsWd x) → xs.Nodup → Ordd xs us → 2048 < (nodesL us).length → WayW xs 3
  | good (us : List (List Nat)) : (∀ x ∈ xs, IsWd x) → xs.Nodup → Ordd xs us → (nodesL us).length ≤ 2048 → WayW xs 0
def tR (w : Nat) : List (Int ⊕ Bool) := [.inl (w : Int), .inr true, .inr false, .inr false]
theorem ends_sum {us : List (List Nat)} (h : SrtW us) : (endsL (nodesL us) us).sum = us.length := by
  have hs := srt_nodup (nodesL_sorted h)
  have hsub : ∀ w ∈ us, w ∈ nodesL us := fun w hw => (mem_nodesL h).mpr (.inr ⟨w, hw, List.prefix_refl w⟩)
  have hus := srt_nodup h
  have key : ∀ l : List (List Nat), (endsL l us).sum = ((l.filter fun t => decide (t ∈ us)).length : Int) := by
    intro l
    induction l with
    | nil => rfl
    | cons t l ih =>
      show (if t ∈ us then (1 : Int) else 0) + (endsL l us).sum = _
      rw [ih, List.filter_cons]
      by_cases c : t ∈ us
      · rw [if_pos c, if_pos (decide_eq_true c), List.length_cons]; omega
      · rw [if_neg c, if_neg (by rw [decide_eq_false c]; decide)]; omega
  rw [key]
  have hp : ((nodesL us).filter fun t => decide (t ∈ us)).Perm us := by
    refine (List.perm_ext_iff_of_nodup (hs.filter _) hus).mpr fun t => ?_
    rw [List.mem_filter, decide_eq_true_iff]
    exact ⟨fun z => z.2, fun z => ⟨hsub t z, z⟩⟩
  rw [hp.length_eq]
/-- _law_told(words) -/
def sp_law_told (K : PySem.W.Frag) : Sp := fun vs H Q _ => ∃ (a : Addr) (xs : List (List Nat)), vs = [.ref a] ∧ H a = some (.lst (xs.map VT)) ∧ xs.length ≤ 100 ∧ (∀ x ∈ xs, x.length ≤ 1000) ∧ ∀ w p H', WayW xs w → H p = none → Same H H' → H' p = some (.lst ((tR w).map sV)) → Q (.ref p) H'
theorem len_law_told (K : PySem.W.Frag) : ∀ vs H Q E, sp_law_told K vs H Q E → vs.length = 1 := by
  rintro vs H Q E ⟨a, xs, rfl, _⟩; rfl
def t_law_told (K : PySem.W.Frag) : TS :=
  (tSeq (tAsg (tC .non) (gName 1))
  (tSeq (tAsg (tLst (tCons (tC (.int 0)) tNil)) (gName 2))
  (tSeq (tTryM K (fun W => (tAsg (tCallS (sp_kept_store K) (WE W) (tCons (tVar 0) tNil)) (gName 1))) [(.ref (He.ga K "NoWord"), 3, fun a cls d => (tAsg (tLst (tCons (tC (.int 1)) (tCons (tCB (rIsX K cls d a) (tCons (tVar 3) (tCons (tC (.ref (He.ga K "WoodError"))) tNil))) (tCons (tCB (rIsXT K cls d a) (tCons (tVar 3) (tCons (tTup (tCons (tC (.ref (He.ga K "Twice"))) (tCons (tC (.ref (He.ga K "TooMany"))) tNil))) tNil))) (tCons (tCallH (sp_law_others K) a cls d (tCons (tVar 3) tNil)) tNil))))) (gName 2))), (.ref (He.ga K "Twice"), 3, fun a cls d => (tAsg (tLst (tCons (tC (.int 2)) (tCons (tCB (rIsX K cls d a) (tCons (tVar 3) (tCons (tC (.ref (He.ga K "WoodError"))) tNil))) (tCons (tCB (rIsXT K cls d a) (tCons (tVar 3) (tCons (tTup (tCons (tC (.ref (He.ga K "NoWord"))) (tCons (tC (.ref (He.ga K "TooMany"))) tNil))) tNil))) (tCons (tCallH (sp_law_others K) a cls d (tCons (tVar 3) tNil)) tNil))))) (gName 2))), (.ref (He.ga K "TooMany"), 3, fun a cls d => (tAsg (tLst (tCons (tC (.int 3)) (tCons (tCB (rIsX K cls d a) (tCons (tVar 3) (tCons (tC (.ref (He.ga K "WoodError"))) tNil))) (tCons (tCB (rIsXT K cls d a) (tCons (tVar 3) (tCons (tTup (tCons (tC (.ref (He.ga K "NoWord"))) (tCons (tC (.ref (He.ga K "Twice"))) tNil))) tNil))) (tCons (tCallH (sp_law_others K) a cls d (tCons (tVar 3) tNil)) tNil))))) (gName 2)))] (fun _ _ _ _ => False))
  (tSeq (tIfS (tTest (tOp (rEqD K) (tVar 2) (tLst (tCons (tC (.int 0)) tNil))))
  (tSeq (tAsg (tOp (rIxT K) (tOp (rIxT K) (tOp (rIxT K) (tOp (rIxT K) (tVar 1) (tC (.int 0))) (tC (.int 2))) (tC (.int 1))) (tUn rNeg (tC (.int 1)))) (gName 4))
  (tRet (tLst (tCons (tC (.int 0)) (tCons (tAndV (tCall (sp_law_whole K) [] E0 (tCons (tVar 4) tNil)) (tOp rEq (tVar 4) (tCB (rLen K) (tCons (tVar 0) tNil)))) (tCons (tC (.bl false)) (tCons (tC (.bl false)) tNil)))))))
  tNext)
  (tRet (tVar 2))))))
abbrev n_law_told : List Str := ["_law_words_here", "_law_found", "_law_told_here", "_law_e", "_law_total"]

theorem rd_law_told (K : PySem.W.Frag) (F : KFx K) (vs : List V) (H : Hp) (Q : VK) (E : XK) (h : sp_law_told K vs H Q E) : t_law_told K { nx := fun _ H' => Q .non H', rt := Q } (start n_law_told vs) H := by
  obtain ⟨a, xs, rfl, hS, hl, hx, q⟩ := h
  unfold t_law_told
  walk_at "st"
  intro p1 hp1
  have s1 := same_new (o := .lst [.int 0]) hp1
  have e1 := upd_same (H := H) (a := p1) (o := .lst [.int 0])
  generalize upd H p1 (.lst [.int 0]) = H1 at s1 e1 ⊢
  walk_at "st"
  refine ⟨a, xs, rfl, .of (s1.get hS), by omega, hx, fun hb => ?_, fun hf hn => ?_, fun hf hn us hO => ⟨fun hm H2 s2 => ?_, fun hm p t pb H2 hp hpb s2 ep hT hB => ?_⟩⟩
  · refine m_caughtM F.e_NoWord_NoWord fun x hx => ?_
    walk_at "st"
    refine k_isX F.ec_NoWord F.k_NoWord_WoodError ?_
    walk_at "st"
    intro pt hpt
    walk_at "st"
    obtain ⟨st, et⟩ := new_both (o := .tup ([He.ga K "Twice", He.ga K "TooMany"].map V.ref)) hpt
    change rIsXT K _ _ _ _ (upd H1 pt (.tup ([He.ga K "Twice", He.ga K "TooMany"].map V.ref))) _
    generalize upd H1 pt (.tup ([He.ga K "Twice", He.ga K "TooMany"].map V.ref)) = Ht at st et ⊢
    refine k_isXT [He.ga K "Twice", He.ga K "TooMany"] et F.ec_NoWord (kitAny_no _ fun u hu => ?_) ?_
    · simp only [List.map_cons, List.map_nil, List.mem_cons, List.not_mem_nil, or_false] at hu
      rcases hu with rfl | rfl
      · exact F.k_NoWord_Twice
      · exact F.k_NoWord_TooMany
    walk_at "st"
    refine m_callH ?_
    walk_at "st"
    intro oe hz hf2 hn2
    refine ⟨x, _, rfl, ⟨F.ec_NoWord, oe, upd_same, hz, hf2⟩, oth_NoWord F, fun H3 a3 => ⟨a3 _ _ upd_same, ?_⟩⟩
    have s3 := (s1.trans st).trans (same_del a3 hn2)
    generalize delH H3 x = H4 at s3 ⊢
    walk_at "st"
    intro p4 hp4
    walk_at "st"
    intro p5 hp5
    refine k_eqMix (tR 1) [.inl 0] (r := false) (.of ((same_new hp5).get upd_same)) (.of upd_same) (by simp [tR, sD, PyData.eqv, PyData.eqvAll]) ?_
    walk_at "st"
    exact q 1 p4 _ (.bad hb) (s3.gone _ hp4) ((s3.trans (same_new hp4)).trans (same_new hp5)) ((same_new hp5).get upd_same)
  · refine m_nextM F.e_Twice_NoWord ?_
    refine m_caughtM F.e_Twice_Twice fun x hx => ?_
    walk_at "st"
    refine k_isX F.ec_Twice F.k_Twice_WoodError ?_
    walk_at "st"
    intro pt hpt
    walk_at "st"
    obtain ⟨st, et⟩ := new_both (o := .tup ([He.ga K "NoWord", He.ga K "TooMany"].map V.ref)) hpt
    change rIsXT K _ _ _ _ (upd H1 pt (.tup ([He.ga K "NoWord", He.ga K "TooMany"].map V.ref))) _
    generalize upd H1 pt (.tup ([He.ga K "NoWord", He.ga K "TooMany"].map V.ref)) = Ht at st et ⊢
    refine k_isXT [He.ga K "NoWord", He.ga K "TooMany"] et F.ec_Twice (kitAny_no _ fun u hu => ?_) ?_
    · simp only [List.map_cons, List.map_nil, List.mem_cons, List.not_mem_nil, or_false] at hu
      rcases hu with rfl | rfl
      · exact F.k_Twice_NoWord
      · exact F.k_Twice_TooMany
    walk_at "st"
    refine m_callH ?_
    walk_at "st"
    intro oe hz hf2 hn2
    refine ⟨x, _, rfl, ⟨F.ec_Twice, oe, upd_same, hz, hf2⟩, oth_Twice F, fun H3 a3 => ⟨a3 _ _ upd_same, ?_⟩⟩
    have s3 := (s1.trans st).trans (same_del a3 hn2)
    generalize delH H3 x = H4 at s3 ⊢
    walk_at "st"
    intro p4 hp4
    walk_at "st"
    intro p5 hp5
    refine k_eqMix (tR 2) [.inl 0] (r := false) (.of ((same_new hp5).get upd_same)) (.of upd_same) (by simp [tR, sD, PyData.eqv, PyData.eqvAll]) ?_
    walk_at "st"
    exact q 2 p4 _ (.two hf hn) (s3.gone _ hp4) ((s3.trans (same_new hp4)).trans (same_new hp5)) ((same_new hp5).get upd_same)
  · refine m_nextM F.e_TooMany_NoWord ?_
    refine m_nextM F.e_TooMany_Twice ?_
    refine m_caughtM F.e_TooMany_TooMany fun x hx => ?_
    walk_at "st"
    refine k_isX F.ec_TooMany F.k_TooMany_WoodError ?_
    walk_at "st"
    intro pt hpt
    walk_at "st"
    obtain ⟨st, et⟩ := new_both (o := .tup ([He.ga K "NoWord", He.ga K "Twice"].map V.ref)) hpt
    change rIsXT K _ _ _ _ (upd H2 pt (.tup ([He.ga K "NoWord", He.ga K "Twice"].map V.ref))) _
    generalize upd H2 pt (.tup ([He.ga K "NoWord", He.ga K "Twice"].map V.ref)) = Ht at st et ⊢
    refine k_isXT [He.ga K "NoWord", He.ga K "Twice"] et F.ec_TooMany (kitAny_no _ fun u hu => ?_) ?_
    · simp only [List.map_cons, List.map_nil, List.mem_cons, List.not_mem_nil, or_false] at hu
      rcases hu with rfl | rfl
      · exact F.k_TooMany_NoWord
      · exact F.k_TooMany_Twice
    walk_at "st"
    refine m_callH ?_
    walk_at "st"
    intro oe hz hf2 hn2
    refine ⟨x, _, rfl, ⟨F.ec_TooMany, oe, upd_same, hz, hf2⟩, oth_TooMany F, fun H3 a3 => ⟨a3 _ _ upd_same, ?_⟩⟩
    have s3 := ((s1.trans s2).trans st).trans (same_del a3 hn2)
    generalize delH H3 x = H4 at s3 ⊢
    walk_at "st"
    intro p4 hp4
    walk_at "st"
    intro p5 hp5
    refine k_eqMix (tR 3) [.inl 0] (r := false) (.of ((same_new hp5).get upd_same)) (.of upd_same) (by simp [tR, sD, PyData.eqv, PyData.eqvAll]) ?_
    walk_at "st"
    exact q 3 p4 _ (.many us hf hn hO hm) (s3.gone _ hp4) ((s3.trans (same_new hp4)).trans (same_new hp5)) ((same_new hp5).get upd_same)
  · obtain ⟨t1, t2, t3, pa, ph, pk, pas, pr, ks, as, f1, f2, f3, f4, hK, f5, f6, f7, f8, f9, f10, f11⟩ := hT.tab
    walk_at "st"
    intro p5 hp5
    have s5 := s2.trans (same_new (o := .lst [.int 0]) hp5)
    refine k_eqMix [.inl 0] [.inl 0] (r := true) (.of (s5.get e1)) (.of upd_same) (by simp [sD, PyData.eqv, PyData.eqvAll]) ?_
    walk_at "st"
    have sn := same_new (o := .lst [.int 0]) hp5
    replace ep := sn.get ep
    replace f1 := sn.get f1
    replace f10 := sn.get f10
    replace f11 := sn.get f11
    have hS5 := (s1.trans s5).get hS
    generalize upd H2 p5 (.lst [.int 0]) = H5 at s5 ep f1 f10 f11 hS5 ⊢
    refine k_ixT (.of ep) (x := .ref t) rfl ?_
    walk_at "st"
    refine k_ixT (.of f1) (x := .ref t3) rfl ?_
    walk_at "st"
    refine k_ixT (.of f10) (x := .ref pr) rfl ?_
    walk_at "st"
    refine k_ixT (.of f11) (ahead_last _) ?_
    rw [ends_sum hO.srt]
    walk_at "st"
    refine whole_int ?_
    walk_at "st"
    refine k_lenL (.of hS5) ?_
    walk_at "st"
    rw [List.length_map, decide_eq_true (show (us.length : Int) = (xs.length : Int) by rw [hO.len])]
    intro p6 hp6
    exact q 0 p6 _ (.good us hf hn hO hm) ((s1.trans s5).gone _ hp6) ((s1.trans s5).trans (same_new hp6)) upd_same

--#base
/-- _law_spoilt(word, cell): a text that is no word -/
def sp_law_spoilt (_ : PySem.W.Frag) : Sp := fun vs H Q _ => ∃ (w : List Nat) (c : Int), vs = [VT w, .int c] ∧ IsWd w ∧ ∀ t : List Nat, ¬ IsWd t → Asc t → t.length ≤ 200 → Q (VT t) H
theorem len_law_spoilt (K : PySem.W.Frag) : ∀ vs H Q E, sp_law_spoilt K vs H Q E → vs.length = 2 := by
  rintro vs H Q E ⟨w, c, rfl, _⟩; rfl
def oddT : List Nat := ("`{AZ0 \n." : Str).cps.toList
theorem oddT_facts : oddT.length = 8 ∧ (∀ c ∈ oddT, c < 128 ∧ ¬ (97 ≤ c ∧ c ≤ 122)) := by decide +kernel
def t_law_spoilt (K : PySem.W.Frag) : TS :=
  (tSeq (tAsg (tOp rMod (tVar 1) (tC (.int 10))) (gName 2))
  (tSeq (tIfS (tTest (tOp rLt (tVar 2) (tC (.int 2))))
  (tRet (tOp rAddStr (tVar 0) (tOp rRepS (tC (.str "z")) (tOp rPlus (tOp rMinus (tC (.int 41)) (tCB rLenStr (tCons (tVar 0) tNil))) (tOp rTimes (tVar 2) (tOp rMod (tOp rDiv (tVar 1) (tC (.int 10))) (tC (.int 30))))))))
  tNext)
  (tSeq (tAsg (tCB rMin2 (tCons (tOp rMod (tOp rDiv (tVar 1) (tC (.int 10))) (tOp rPlus (tCB rLenStr (tCons (tVar 0) tNil)) (tC (.int 1)))) (tCons (tC (.int 39)) tNil))) (gName 3))
  (tRet (tOp rAddStr (tOp rAddStr (tSl rSlS (tVar 0) tNoPart (tPart (tVar 3))) (tOp rIxS (tC (.str "`{AZ0 \n.")) (tOp rMinus (tVar 2) (tC (.int 2))))) (tSl rSlS (tVar 0) (tPart (tOp rPlus (tVar 3) (tC (.int 1)))) tNoPart))))))
abbrev n_law_spoilt : List Str := ["_law_word", "_law_cell", "_law_way", "_law_at"]

theorem rd_law_spoilt (K : PySem.W.Frag) (vs : List V) (H : Hp) (Q : VK) (E : XK) (h : sp_law_spoilt K vs H Q E) : t_law_spoilt K { nx := fun _ H' => Q .non H', rt := Q } (start n_law_spoilt vs) H := by
  obtain ⟨w, c, rfl, hw, q⟩ := h
  obtain ⟨g1, g2⟩ := oddT_facts
  have hwl := hw.2
  have hwa := hw.1.asc
  unfold t_law_spoilt
  walk_at "st"
  have hm : 0 ≤ c % 10 ∧ c % 10 < 10 := by omega
  generalize c % 10 = m at hm ⊢
  walk_at "if" <;> intro c1
  · walk_at "st"
    refine k_lenVT (by omega) ?_
    walk_at "st"
    obtain ⟨n, hn, hn2⟩ : ∃ n : Nat, 41 - (w.length : Int) + m * (c / 10 % 30) = (n : Int) ∧ 41 ≤ w.length + n ∧ n ≤ 80 := by
      rcases (by omega : m = 0 ∨ m = 1) with rfl | rfl
      · exact ⟨(41 - w.length : Nat), by omega, by omega⟩
      · exact ⟨(41 - (w.length : Int) + c / 10 % 30).toNat, by omega, by omega⟩
    rw [hn]
    refine k_repS (c := 122) (by omega) ?_
    rw [Int.toNat_natCast]
    refine k_addVT (b := List.replicate n 122) (by rw [List.length_replicate]; omega) ?_
    refine q _ (fun z => by have := z.2; rw [List.length_append, List.length_replicate] at this; omega) (fun d hd => ?_) (by rw [List.length_append, List.length_replicate]; omega)
    rcases List.mem_append.mp hd with hd | hd
    · exact hwa d hd
    · rw [List.eq_of_mem_replicate hd]; decide
  walk_at "st"
  refine k_lenVT (by omega) ?_
  walk_at "st"
  have m0 := Int.emod_nonneg (c / 10) (show (w.length : Int) + 1 ≠ 0 by omega)
  obtain ⟨k, hk⟩ : ∃ k : Nat, (if (39 : Int) < c / 10 % ((w.length : Int) + 1) then 39 else c / 10 % ((w.length : Int) + 1)) = (k : Int) := ⟨_, (Int.toNat_of_nonneg (by split <;> omega)).symm⟩
  rw [hk]
  refine k_slTakeVT (by omega) ?_
  walk_at "st"
  obtain ⟨x, hx⟩ : ∃ x, oddT[(m - 2).toNat]? = some x := ⟨_, List.getElem?_eq_getElem (by omega)⟩
  obtain ⟨x1, x2⟩ := g2 x (List.mem_of_getElem? hx)
  refine k_ixS (t := oddT) (by omega) (at_int (by omega) hx) ?_
  refine k_addVT (by rw [List.length_take]; simp only [List.length_cons, List.length_nil]; omega) ?_
  walk_at "st"
  rw [show (k : Int) + 1 = ((k + 1 : Nat) : Int) by omega]
  refine k_slDropVT (by omega) ?_
  refine k_addVT (by rw [List.length_append, List.length_take, List.length_drop]; simp only [List.length_cons, List.length_nil]; omega) ?_
  refine q _ (fun z => x2 (z.1 x (by simp))) (fun d hd => ?_) (by rw [List.length_append, List.length_append, List.length_take, List.length_drop]; simp only [List.length_cons, List.length_nil]; omega)
  rcases List.mem_append.mp hd with hd | hd
  · rcases List.mem_append.mp hd with hd | hd
    · exact hwa d (List.mem_of_mem_take hd)
    · rw [List.mem_singleton.mp hd]; exact x1
  · exact hwa d (List.mem_of_mem_drop hd)

/-- law(script) -/
def sp_law (K : PySem.W.Frag) : Sp := fun vs H Q _ => ∃ (a : Addr) (ns : List Int), vs = [.ref a] ∧ SqL K H a (ns.map V.int) ∧ ns.length ≤ 63 ∧ ∀ H', Q (.bl true) H'
theorem len_law (K : PySem.W.Frag) : ∀ vs H Q E, sp_law K vs H Q E → vs.length = 1 := by
  rintro vs H Q E ⟨x, y, rfl, _⟩; rfl

theorem WayW.perm {xs : List (List Nat)} {w : Nat} (h : WayW xs w) : w = 1 ∨ w = 2 ∨ w = 3 ∨ w = 0 := by cases h <;> simp
theorem WayW.u {xs : List (List Nat)} {w v : Nat} (a : WayW xs w) (b : WayW xs v) : w = v := by
  have nall : ∀ {zs : List (List Nat)}, (∃ x ∈ zs, ¬ IsWd x) → ¬ ∀ x ∈ zs, IsWd x := fun ⟨x, hx, n⟩ z => n (z x hx)
  have un : ∀ {us vs : List (List Nat)}, Ordd xs us → Ordd xs vs → us = vs := fun p q => srt_uniq p.srt q.srt fun z => by rw [p.mem, q.mem]
  cases a with
  | bad a1 => cases b with
    | bad b1 => rfl
    | two b1 b2 => exact absurd b1 (nall a1)
    | many us b1 b2 b3 b4 => exact absurd b1 (nall a1)
    | good us b1 b2 b3 b4 => exact absurd b1 (nall a1)
  | two a1 a2 => cases b with
    | bad b1 => exact absurd a1 (nall b1)
    | two b1 b2 => rfl
    | many us b1 b2 b3 b4 => exact absurd b2 a2
    | good us b1 b2 b3 b4 => exact absurd b2 a2
  | many us a1 a2 a3 a4 => cases b with
    | bad b1 => exact absurd a1 (nall b1)
    | two b1 b2 => exact absurd a2 b2
    | many us b1 b2 b3 b4 => rfl
    | good us' b1 b2 b3 b4 => rw [un a3 b3] at a4; omega
  | good us a1 a2 a3 a4 => cases b with
    | bad b1 => exact absurd a1 (nall b1)
    | two b1 b2 => exact absurd a2 b2
    | many us' b1 b2 b3 b4 => rw [un a3 b3] at a4; omega
    | good us' b1 b2 b3 b4 => rfl
theorem put_perm (xs : List (List Nat)) (i : Nat) (y : List Nat) : (xs.take i ++ [y] ++ xs.drop i).Perm (y :: xs) := by
  have h : (xs.take i ++ [y] ++ xs.drop i).Perm ([y] ++ xs.take i ++ xs.drop i) := List.Perm.append_right _ List.perm_append_comm
  rw [List.append_assoc [y], List.take_append_drop] at h
  exact h
theorem k_insertT {G H : Hp} {Q : VK} {l : Addr} {xs : List (List Nat)} {i : Int} {y : List Nat} (s : Same G H) (hp : G l = none) (h : H l = some (.lst (xs.map VT))) (hz : xs.length ≤ 1000) (hi : 0 ≤ i ∧ i ≤ 1000) (q : ∀ H', Same G H' → (∀ b u, b ≠ l → H b = some u → H' b = some u) → H' l = some (.lst ((xs.take i.toNat ++ [y] ++ xs.drop i.toNat).map VT)) → Q .non H') : rInsert (.ref l) [.int i, VT y] H Q := by
  obtain ⟨k, rfl⟩ := Int.eq_ofNat_of_zero_le hi.1
  refine k_insert h (by rw [List.length_map]; omega) (by omega) (q _ (s.mut hp ⟨_, h⟩) (fun b u n e => (upd_ne n).trans e) ?_)
  rw [upd_same, List.map_append, List.map_append, List.map_take, List.map_drop, Int.toNat_natCast]; rfl
/-- the words at hand: not more beginnings than are borne, or more -/
structure Hand (xs : List (List Nat)) (o : Bool) : Prop where
  wd : ∀ x ∈ xs, IsWd x
  nd : xs.Nodup
  len : xs.length ≤ 57
  way : ∀ w, WayW xs w → w = if o then 3 else 0
/-- what the list that is handed in holds -/
structure Spo (zs xs : List (List Nat)) (bad two : Bool) (o : Bool) : Prop where
  way : ∀ w, WayW zs w → w = if bad then 1 else if two then 2 else if o then 3 else 0
  len : zs.length ≤ 60
  each : ∀ x ∈ zs, Asc x ∧ x.length ≤ 1000
def t_law (K : PySem.W.Frag) : TS :=
  (tSeq (tAsg (tCall (sp_law_words K) [] E0 (tCons (tVar 0) tNil)) (gName 1))
  (tSeq (tAsg (tCall (sp_law_cell_at K) [] E0 (tCons (tVar 0) (tCons (tC (.int 0)) tNil))) (gName 2))
  (tSeq (tAsg (tC (.bl false)) (gName 3))
  (Evl.tCut (tIfS (tTest (tOp rEq (tOp rMod (tVar 2) (tC (.int 12))) (tC (.int 7))))
  (tSeq (tAsg (tCall (sp_law_many_words K) [] E0 (tCons (tOp rMod (tOp rDiv (tVar 2) (tC (.int 12))) (tC (.int 4))) tNil)) (gName 1))
  (tAsg (tOp rGtI (tOp rMod (tOp rDiv (tVar 2) (tC (.int 12))) (tC (.int 4))) (tC (.int 1))) (gName 3)))
  tNext)
  (tSeq (tAsg (tOp rMod (tCall (sp_law_cell_at K) [] E0 (tCons (tVar 0) (tCons (tC (.int 1)) tNil))) (tC (.int 6))) (gName 4))
  (tSeq (tAsg (tCB (rListOf K) (tCons (tVar 1) tNil)) (gName 5))
  (Evl.tCut (tAsg (tAndV (tOp rGtI (tCB (rLen K) (tCons (tVar 1) tNil)) (tC (.int 0))) (tOp (rIn K false) (tVar 4) (tTup (tCons (tC (.int 1)) (tCons (tC (.int 3)) tNil))))) (gName 6))
  (Evl.tCut (tAsg (tAndV (tOp rGtI (tCB (rLen K) (tCons (tVar 1) tNil)) (tC (.int 0))) (tOp (rIn K false) (tVar 4) (tTup (tCons (tC (.int 2)) (tCons (tC (.int 3)) tNil))))) (gName 7))
  (Evl.tCut (tIfS (tB (tVar 6))
  (tSeq (tAsg (tOp rMod (tCall (sp_law_cell_at K) [] E0 (tCons (tVar 0) (tCons (tC (.int 2)) tNil))) (tCB (rLen K) (tCons (tVar 1) tNil))) (gName 8))
  (tAsg (tCall (sp_law_spoilt K) [] E0 (tCons (tOp (rIxL K) (tVar 5) (tVar 8)) (tCons (tCall (sp_law_cell_at K) [] E0 (tCons (tVar 0) (tCons (tC (.int 3)) tNil))) tNil))) (gSub (tVar 5) (tVar 8) rSetL)))
  tNext)
  (Evl.tCut (tIfS (tB (tVar 7))
  (tSeq (tAsg (tOp (rIxL K) (tVar 1) (tOp rMod (tCall (sp_law_cell_at K) [] E0 (tCons (tVar 0) (tCons (tC (.int 4)) tNil))) (tCB (rLen K) (tCons (tVar 1) tNil)))) (gName 9))
  (tSeq (tAsg (tOp rMod (tOp rDiv (tCall (sp_law_cell_at K) [] E0 (tCons (tVar 0) (tCons (tC (.int 2)) tNil))) (tC (.int 64))) (tOp rPlus (tCB (rLen K) (tCons (tVar 1) tNil)) (tC (.int 1)))) (gName 8))
  (tSeq (tDrop (tBM K "list" rInsert (tVar 5) (tCons (tVar 8) (tCons (tVar 9) tNil))))
  (tIfS (tTest (tOp (rNotInD K) (tVar 9) (tOp rCat (tSl (rSlL K) (tVar 5) tNoPart (tPart (tVar 8))) (tSl (rSlL K) (tVar 5) (tPart (tOp rPlus (tVar 8) (tC (.int 1)))) tNoPart))))
  (tDrop (tBM K "list" rAppend (tVar 5) (tCons (tVar 9) tNil)))
  tNext))))
  tNext)
  (tSeq (tAsg (tLst (tCons (tC (.int 0)) (tCons (tC (.bl true)) (tCons (tC (.bl false)) (tCons (tC (.bl false)) tNil))))) (gName 10))
  (Evl.tCut (tIfS (tB (tVar 3))
  (tAsg (tLst (tCons (tC (.int 3)) (tCons (tC (.bl true)) (tCons (tC (.bl false)) (tCons (tC (.bl false)) tNil))))) (gName 10))
  tNext)
  (tSeq (tAsg (tVar 10) (gName 11))
  (Evl.tCut (tIfS (tB (tVar 6))
  (tAsg (tLst (tCons (tC (.int 1)) (tCons (tC (.bl true)) (tCons (tC (.bl false)) (tCons (tC (.bl false)) tNil))))) (gName 11))
  (tIfS (tB (tVar 7))
  (tAsg (tLst (tCons (tC (.int 2)) (tCons (tC (.bl true)) (tCons (tC (.bl false)) (tCons (tC (.bl false)) tNil))))) (gName 11))
  tNext))
  (tSeq (tAsg (tCB (rListOf K) (tCons (tVar 5) tNil)) (gName 12))
  (tSeq (tIfS (tOr (tTest (tOp (rNeD K) (tCall (sp_law_told K) [] E0 (tCons (tVar 12) tNil)) (tVar 11))) (tTest (tOp (rNeD K) (tVar 12) (tVar 5))))
  (tRet (tC (.bl false)))
  tNext)
  (tRet (tOrV (tNotV (tOrV (tVar 6) (tVar 7))) (tOp (rEqD K) (tCall (sp_law_told K) [] E0 (tCons (tCB (rListOf K) (tCons (tVar 1) tNil)) tNil)) (tVar 10))))))))))))))))))))
abbrev n_law : List Str := ["_law_script", "_law_words_here", "_law_many", "_law_over", "_law_way", "_law_spoilt_here", "_law_bad", "_law_twice", "_law_at", "_law_one", "_law_due", "_law_first", "_law_handed"]

theorem rd_law (K : PySem.W.Frag) (F : KFx K) (vs : List V) (H : Hp) (Q : VK) (E : XK) (h : sp_law K vs H Q E) : t_law K { nx := fun _ H' => Q .non H', rt := Q } (start n_law vs) H := by
  obtain ⟨a, ns, rfl, hS, hl, q⟩ := h
  unfold t_law
  walk_at "st"
  refine ⟨a, ns, rfl, hS, by omega, fun ws0 pw0 H1 hw0 hn0 hl0 hpw0 s1 e1 => ?_⟩
  have hH0 : Hand ws0 false := by
    refine ⟨hw0, hn0, by omega, fun w hw => ?_⟩
    cases hw with
    | bad b => obtain ⟨x, hx, n⟩ := b; exact absurd (hw0 x hx) n
    | two _ n => exact absurd hn0 n
    | many us _ _ hO hm =>
      have h1 := nodesL_len us
      have h2 := hO.sum hn0
      have key : ∀ l : List (List Nat), (∀ x ∈ l, IsWd x) → (l.map List.length).sum ≤ 40 * l.length := by
        intro l
        induction l with
        | nil => intro _; simp
        | cons w l ih =>
          intro hl
          have h3 := ih (fun x hx => hl x (List.mem_cons_of_mem _ hx))
          have h4 := (hl w List.mem_cons_self).2
          rw [List.map_cons, List.sum_cons, List.length_cons]; omega
      have := key ws0 hw0
      omega
    | good => rfl
  walk_at "st"
  refine call_cell_at (s1.seq hS) (by decide) fun c0 _ => ?_
  walk_at "st"
  refine m_cut (fun σ' H' => ∃ (xs : List (List Nat)) (pw : Addr) (o : Bool), Same H H' ∧ H' pw = some (.lst (xs.map VT)) ∧ Hand xs o ∧ σ' = [some (.ref a), some (.ref pw), some (.int c0), some (.bl o), none, none, none, none, none, none, none, none, none]) ?_ ?_
  · walk_at "st"
    walk_at "if" <;> intro z1
    · walk_at "st"
      obtain ⟨m, hm, hm4⟩ : ∃ m : Nat, c0 / 12 % 4 = (m : Int) ∧ m < 4 := ⟨(c0 / 12 % 4).toNat, by omega, by omega⟩
      refine ⟨m, by rw [hm], hm4, fun p H2 hp s2 e2 => ?_⟩
      walk_at "st"
      refine ⟨manyL m, p, decide ((1 : Int) < c0 / 12 % 4), s1.trans s2, e2, ⟨many_wd hm4, many_nd hm4, by unfold manyL; rw [List.length_cons, List.length_map, List.length_range]; decide, fun w hw => ?_⟩, rfl⟩
      have hlen := manyS_len hm4
      by_cases c : (1 : Int) < c0 / 12 % 4
      · rw [decide_eq_true c]
        exact hw.u (.many _ (many_wd hm4) (many_nd hm4) (many_ord hm4) (by omega))
      · rw [decide_eq_false c]
        exact hw.u (.good _ (many_wd hm4) (many_nd hm4) (many_ord hm4) (by omega))
    · walk_at "st"
      exact ⟨ws0, pw0, false, s1, e1, hH0, rfl⟩
  rintro σ' H2 ⟨xs, pw, o, s2, e2, hH, rfl⟩
  clear hH0 s1 e1 hw0 hn0 hl0 hpw0
  have hxl := hH.len
  have hxa : ∀ x ∈ xs, Asc x := fun x hx => (hH.wd x hx).1.asc
  walk_at "st"
  refine call_cell_at (s2.seq hS) (by decide) fun c1 _ => ?_
  walk_at "st"
  refine k_listL (.of e2) fun pz hpz => ?_
  have nwz := ne_of_none e2 hpz
  have hpzH := s2.gone _ hpz
  obtain ⟨s3, e3⟩ := new_both (o := .lst (xs.map VT)) hpz
  replace e2 := s3.get e2
  replace s3 := s2.trans s3
  generalize upd H2 pz (.lst (xs.map VT)) = H3 at s3 e2 e3 ⊢
  walk_at "st"
  refine m_cut (fun σ' H' => ∃ b1 : Bool, (b1 = true → 0 < xs.length) ∧ Same H H' ∧ H' pw = some (.lst (xs.map VT)) ∧ H' pz = some (.lst (xs.map VT)) ∧ σ' = [some (.ref a), some (.ref pw), some (.int c0), some (.bl o), some (.int (c1 % 6)), some (.ref pz), some (.bl b1), none, none, none, none, none, none]) ?_ ?_
  · walk_at "st"
    refine k_lenL (.of e2) ?_
    walk_at "st"
    rw [List.length_map]
    walk_at "if" <;> intro z1
    · walk_at "st"
      intro pt hpt
      have st := same_new (o := .tup [.int 1, .int 3]) hpt
      refine k_inT upd_same rfl fun b => ?_
      exact ⟨b, fun _ => by omega, s3.trans st, st.get e2, st.get e3, rfl⟩
    · walk_at "st"
      exact ⟨false, fun z => Bool.noConfusion z, s3, e2, e3, rfl⟩
  clear e2 e3 s3
  rintro σ' H4 ⟨b1, hb1, s4, e2, e3, rfl⟩
  refine m_cut (fun σ' H' => ∃ b2 : Bool, (b2 = true → 0 < xs.length) ∧ Same H H' ∧ H' pw = some (.lst (xs.map VT)) ∧ H' pz = some (.lst (xs.map VT)) ∧ σ' = [some (.ref a), some (.ref pw), some (.int c0), some (.bl o), some (.int (c1 % 6)), some (.ref pz), some (.bl b1), some (.bl b2), none, none, none, none, none]) ?_ ?_
  · walk_at "st"
    refine k_lenL (.of e2) ?_
    walk_at "st"
    rw [List.length_map]
    walk_at "if" <;> intro z1
    · walk_at "st"
      intro pt hpt
      have st := same_new (o := .tup [.int 2, .int 3]) hpt
      refine k_inT upd_same rfl fun b => ?_
      exact ⟨b, fun _ => by omega, s4.trans st, st.get e2, st.get e3, rfl⟩
    · walk_at "st"
      exact ⟨false, fun z => Bool.noConfusion z, s4, e2, e3, rfl⟩
  clear e2 e3 s4
  rintro σ' H5 ⟨b2, hb2, s5, e2, e3, rfl⟩
  refine m_cut (fun σ' H' => ∃ (zs : List (List Nat)) (v8 : Option V), Same H H' ∧ H' pw = some (.lst (xs.map VT)) ∧ H' pz = some (.lst (zs.map VT)) ∧ zs.length = xs.length ∧ (∀ x ∈ zs, Asc x ∧ x.length ≤ 1000) ∧ (if b1 then ∃ x ∈ zs, ¬ IsWd x else zs = xs) ∧ σ' = [some (.ref a), some (.ref pw), some (.int c0), some (.bl o), some (.int (c1 % 6)), some (.ref pz), some (.bl b1), some (.bl b2), v8, none, none, none, none]) ?_ ?_
  · have hx4 : ∀ x ∈ xs, Asc x ∧ x.length ≤ 1000 := fun x hx => ⟨hxa x hx, by have := (hH.wd x hx).2; omega⟩
    cases b1 with
    | false =>
      walk_at "st"
      exact ⟨xs, none, s5, e2, e3, rfl, hx4, rfl, rfl⟩
    | true =>
      have hx0 := hb1 rfl
      walk_at "st"
      refine call_cell_at (s5.seq hS) (by decide) fun c2 _ => ?_
      walk_at "st"
      refine k_lenL (.of e2) ?_
      walk_at "st"
      rw [List.length_map]
      refine k_modP (by omega) fun r hr0 hr1 => ?_
      obtain ⟨k, rfl⟩ := Int.eq_ofNat_of_zero_le hr0
      obtain ⟨w, hw⟩ : ∃ w, xs[k]? = some w := ⟨_, List.getElem?_eq_getElem (by omega)⟩
      walk_at "st"
      refine k_ixL (.of e3) (at_nat (mapVT hw)) ?_
      walk_at "st"
      refine call_cell_at (s5.seq hS) (by decide) fun c3 _ => ?_
      walk_at "st"
      refine ⟨w, c3, rfl, hH.wd w (List.mem_of_getElem? hw), fun t ht1 ht2 ht3 => ?_⟩
      walk_at "st"
      refine m_setL e3 (ixN_nat (by omega) (by rw [List.length_map]; omega)) ?_
      rw [Int.toNat_natCast, ← List.map_set]
      refine ⟨xs.set k t, _, s5.mut hpzH ⟨_, e3⟩, (upd_ne nwz).trans e2, upd_same, by rw [List.length_set], fun x hx => ?_, ?_, rfl⟩
      · rcases List.mem_or_eq_of_mem_set hx with z | z
        · exact hx4 x z
        · rw [z]; exact ⟨ht2, by omega⟩
      · exact ⟨t, List.mem_iff_getElem?.mpr ⟨k, by rw [List.getElem?_set, if_pos rfl, if_pos (by omega)]⟩, ht1⟩
  clear e2 e3 s5
  rintro σ' H6 ⟨zs, v8, s6, e2, e3, hzl, hza, hzb, rfl⟩
  refine m_cut (fun σ' H' => ∃ (ys : List (List Nat)) (v8 v9 : Option V), Same H H' ∧ H' pw = some (.lst (xs.map VT)) ∧ H' pz = some (.lst (ys.map VT)) ∧ Spo ys xs b1 b2 o ∧ σ' = [some (.ref a), some (.ref pw), some (.int c0), some (.bl o), some (.int (c1 % 6)), some (.ref pz), some (.bl b1), some (.bl b2), v8, v9, none, none, none]) ?_ ?_
  · cases b2 with
    | false =>
      walk_at "st"
      refine ⟨zs, v8, none, s6, e2, e3, ⟨fun w hw => ?_, by omega, hza⟩, rfl⟩
      cases b1 with
      | true => exact hw.u (.bad hzb)
      | false =>
        have hzb : zs = xs := hzb
        rw [hzb] at hw
        exact hH.way w hw
    | true =>
      have hx0 := hb2 rfl
      walk_at "st"
      refine call_cell_at (s6.seq hS) (by decide) fun c4 _ => ?_
      walk_at "st"
      refine k_lenL (.of e2) ?_
      walk_at "st"
      rw [List.length_map]
      refine k_modP (by omega) fun r hr0 hr1 => ?_
      obtain ⟨y, hy⟩ : ∃ y, xs[r.toNat]? = some y := ⟨_, List.getElem?_eq_getElem (by omega)⟩
      have hym := List.mem_of_getElem? hy
      refine k_ixL (.of e2) (at_int hr0 (mapVT hy)) ?_
      walk_at "st"
      refine call_cell_at (s6.seq hS) (by decide) fun c2 _ => ?_
      walk_at "st"
      refine k_lenL (.of e2) ?_
      walk_at "st"
      rw [List.length_map]
      have hk0 := Int.emod_nonneg (c2 / 64) (show (xs.length : Int) + 1 ≠ 0 by omega)
      have hk1 := Int.emod_lt_of_pos (c2 / 64) (show (0 : Int) < (xs.length : Int) + 1 by omega)
      generalize c2 / 64 % ((xs.length : Int) + 1) = k at hk0 hk1 ⊢
      obtain ⟨k, rfl⟩ := Int.eq_ofNat_of_zero_le hk0
      refine k_tyL (.of e3) ?_
      walk_at "st"
      refine k_insertT s6 hpzH e3 (by omega) (by omega) fun H7 s7 n7 e7 => ?_
      rw [Int.toNat_natCast] at e7
      replace e2 := n7 _ _ nwz e2
      have hpm := put_perm zs k y
      have hL1 : (zs.take k ++ [y] ++ zs.drop k).take k = zs.take k := by
        rw [List.append_assoc, List.take_append_of_le_length (by rw [List.length_take]; omega), List.take_take, Nat.min_self]
      have hL2 : (zs.take k ++ [y] ++ zs.drop k).drop (k + 1) = zs.drop k := by
        rw [List.drop_left' (by rw [List.length_append, List.length_take, List.length_singleton]; omega)]
      have hLe : ∀ x ∈ zs.take k ++ [y] ++ zs.drop k, Asc x ∧ x.length ≤ 1000 := fun x hx => by
        rcases List.mem_cons.mp (hpm.mem_iff.mp hx) with e | e
        · rw [e]; exact ⟨hxa y hym, by have := (hH.wd y hym).2; omega⟩
        · exact hza x e
      have hLb : b1 = true → ∃ x ∈ zs.take k ++ [y] ++ zs.drop k, ¬ IsWd x := fun z => by
        rw [z] at hzb
        obtain ⟨x, hx, n⟩ := hzb
        exact ⟨x, hpm.mem_iff.mpr (List.mem_cons_of_mem _ hx), n⟩
      have hLt : b1 = false → (∀ x ∈ zs.take k ++ [y] ++ zs.drop k, IsWd x) ∧ ¬ (zs.take k ++ [y] ++ zs.drop k).Nodup := fun z => by
        rw [z] at hzb
        have hzb : zs = xs := hzb
        refine ⟨fun x hx => ?_, fun n => ?_⟩
        · rcases List.mem_cons.mp (hpm.mem_iff.mp hx) with e | e
          · rw [e]; exact hH.wd y hym
          · rw [hzb] at e; exact hH.wd x e
        · have := hpm.nodup_iff.mp n
          rw [hzb] at this
          exact (List.nodup_cons.mp this).1 hym
      have hLl : (zs.take k ++ [y] ++ zs.drop k).length = zs.length + 1 := by rw [hpm.length_eq]; rfl
      generalize hLL : zs.take k ++ [y] ++ zs.drop k = L at *
      walk_at "st"
      refine k_slL (.of e7) fun p8 hp8 => ?_
      rw [cutTake, ← List.map_take, hL1]
      have nz8 := ne_of_none e7 hp8
      obtain ⟨s8, e8⟩ := new_both (o := .lst ((zs.take k).map VT)) hp8
      replace e2 := s8.get e2
      replace e7 := s8.get e7
      replace s8 := s7.trans s8
      generalize upd H7 p8 (.lst ((zs.take k).map VT)) = H8 at s8 e2 e7 e8 ⊢
      walk_at "st"
      refine k_slL (.of e7) fun p9 hp9 => ?_
      rw [show (k : Int) + 1 = ((k + 1 : Nat) : Int) by omega, cutDrop, ← List.map_drop, hL2]
      have nz9 := ne_of_none e7 hp9
      obtain ⟨s9, e9⟩ := new_both (o := .lst ((zs.drop k).map VT)) hp9
      replace e2 := s9.get e2
      replace e7 := s9.get e7
      replace e8 := s9.get e8
      replace s9 := s8.trans s9
      generalize upd H8 p9 (.lst ((zs.drop k).map VT)) = H9 at s9 e2 e7 e8 e9 ⊢
      refine k_cat e8 e9 (by rw [List.length_map, List.length_map, List.length_take, List.length_drop]; omega) fun p10 hp10 => ?_
      rw [← List.map_append, List.take_append_drop]
      have nz10 := ne_of_none e7 hp10
      obtain ⟨s10, e10⟩ := new_both (o := .lst (zs.map VT)) hp10
      replace e2 := s10.get e2
      replace e7 := s10.get e7
      replace s10 := s9.trans s10
      generalize upd H9 p10 (.lst (zs.map VT)) = H10 at s10 e2 e7 e10 ⊢
      refine k_notInLT (.of e10) (hxa y hym) (fun u hu => (hza u hu).1) ?_
      walk_at "st"
      walk_at "if" <;> intro z3
      · walk_at "st"
        refine k_tyL (.of e7) ?_
        walk_at "st"
        refine k_appP s10 hpzH e7 (by rw [List.length_map]; omega) fun H11 s11 n11 e11 => ?_
        walk_at "st"
        refine ⟨L ++ [y], _, _, s11, n11 _ _ nwz e2, by rw [e11, List.map_append]; rfl, ⟨fun w hw => ?_, by rw [List.length_append, List.length_singleton]; omega, fun x hx => ?_⟩, rfl⟩
        · cases b1 with
          | true =>
            obtain ⟨x, hx, n⟩ := hLb rfl
            exact hw.u (.bad ⟨x, List.mem_append_left _ hx, n⟩)
          | false =>
            obtain ⟨h1, h2⟩ := hLt rfl
            exact hw.u (.two (fun x hx => (List.mem_append.mp hx).elim (h1 x) fun z => by rw [List.mem_singleton.mp z]; exact hH.wd y hym) fun n => h2 (List.nodup_append.mp n).1)
        · rcases List.mem_append.mp hx with z | z
          · exact hLe x z
          · rw [List.mem_singleton.mp z]; exact ⟨hxa y hym, by have := (hH.wd y hym).2; omega⟩
      · walk_at "st"
        refine ⟨L, _, _, s10, e2, e7, ⟨fun w hw => ?_, by omega, hLe⟩, rfl⟩
        cases b1 with
        | true => exact hw.u (.bad (hLb rfl))
        | false =>
          obtain ⟨h1, h2⟩ := hLt rfl
          exact hw.u (.two h1 h2)
  clear e2 e3 s6 hzl hza hzb
  rintro σ' H7 ⟨ys, v8, v9, s7, e2, e3, hsp, rfl⟩
  walk_at "st"
  intro p8 hp8
  obtain ⟨s8, e8⟩ := new_both (o := .lst ((tR 0).map sV)) hp8
  change Same H7 (upd H7 p8 (.lst [.int 0, .bl true, .bl false, .bl false])) at s8
  change upd H7 p8 (.lst [.int 0, .bl true, .bl false, .bl false]) p8 = _ at e8
  replace e2 := s8.get e2
  replace e3 := s8.get e3
  replace s8 := s7.trans s8
  generalize upd H7 p8 (.lst [.int 0, .bl true, .bl false, .bl false]) = H8 at s8 e2 e3 e8 ⊢
  walk_at "st"
  refine m_cut (fun σ' H' => ∃ (pd : Addr), Same H H' ∧ H' pw = some (.lst (xs.map VT)) ∧ H' pz = some (.lst (ys.map VT)) ∧ H' pd = some (.lst ((tR (if o then 3 else 0)).map sV)) ∧ σ' = [some (.ref a), some (.ref pw), some (.int c0), some (.bl o), some (.int (c1 % 6)), some (.ref pz), some (.bl b1), some (.bl b2), v8, v9, some (.ref pd), none, none]) ?_ ?_
  · cases o with
    | false =>
      walk_at "st"
      exact ⟨p8, s8, e2, e3, e8, rfl⟩
    | true =>
      walk_at "st"
      intro p9 hp9
      have s9 := same_new (o := .lst [.int 3, .bl true, .bl false, .bl false]) hp9
      exact ⟨p9, s8.trans s9, s9.get e2, s9.get e3, upd_same, rfl⟩
  clear e2 e3 e8 s8
  rintro σ' H9 ⟨pd, s9, e2, e3, e9, rfl⟩
  walk_at "st"
  refine m_cut (fun σ' H' => ∃ (pf : Addr), Same H H' ∧ H' pw = some (.lst (xs.map VT)) ∧ H' pz = some (.lst (ys.map VT)) ∧ H' pd = some (.lst ((tR (if o then 3 else 0)).map sV)) ∧ H' pf = some (.lst ((tR (if b1 then 1 else if b2 then 2 else if o then 3 else 0)).map sV)) ∧ σ' = [some (.ref a), some (.ref pw), some (.int c0), some (.bl o), some (.int (c1 % 6)), some (.ref pz), some (.bl b1), some (.bl b2), v8, v9, some (.ref pd), some (.ref pf), none]) ?_ ?_
  · cases b1 with
    | true =>
      walk_at "st"
      intro p10 hp10
      have s10 := same_new (o := .lst [.int 1, .bl true, .bl false, .bl false]) hp10
      exact ⟨p10, s9.trans s10, s10.get e2, s10.get e3, s10.get e9, upd_same, rfl⟩
    | false =>
      cases b2 with
      | true =>
        walk_at "st"
        intro p10 hp10
        have s10 := same_new (o := .lst [.int 2, .bl true, .bl false, .bl false]) hp10
        exact ⟨p10, s9.trans s10, s10.get e2, s10.get e3, s10.get e9, upd_same, rfl⟩
      | false =>
        walk_at "st"
        exact ⟨pd, s9, e2, e3, e9, e9, rfl⟩
  clear e2 e3 e9 s9
  rintro σ' H10 ⟨pf, s10, e2, e3, e9, e10, rfl⟩
  have hya : ∀ x ∈ ys, Asc x := fun x hx => (hsp.each x hx).1
  walk_at "st"
  refine k_listL (.of e3) fun ph hph => ?_
  obtain ⟨s11, e11⟩ := new_both (o := .lst (ys.map VT)) hph
  replace e2 := s11.get e2
  replace e3 := s11.get e3
  replace e9 := s11.get e9
  replace e10 := s11.get e10
  generalize upd H10 ph (.lst (ys.map VT)) = H11 at s11 e2 e3 e9 e10 e11 ⊢
  have hylen := hsp.len
  walk_at "st"
  refine ⟨ph, ys, rfl, e11, by omega, fun x hx => (hsp.each x hx).2, fun w p12 H12 hw hp12 s12 e12 => ?_⟩
  have ew := hsp.way w hw
  subst ew
  walk_at "st"
  refine k_neMix _ _ (.of e12) (.of (s12.get e10)) (r := true) (by unfold PyData.eqv; exact eqv_same _) ?_
  walk_at "st"
  refine k_neLT (.of (s12.get e11)) (.of (s12.get e3)) hya hya ?_
  rw [decide_eq_true rfl]
  have last : ∀ {H' : Hp} {Qr : VK}, (∀ p13 H13, H13 p13 = some (.lst ((tR (if o then 3 else 0)).map sV)) → H13 pd = some (.lst ((tR (if o then 3 else 0)).map sV)) → Qr (.ref p13) H13) → Same H12 H' → ∀ (pc : Addr), H' pc = some (.lst (xs.map VT)) → sp_law_told K [.ref pc] H' Qr E0 := by
    intro H' Qr hq sH pc ec
    refine ⟨pc, xs, rfl, ec, by omega, fun x hx => by have := (hH.wd x hx).2; omega, fun w p13 H13 hw hp13 s13 e13 => ?_⟩
    have ew := hH.way w hw
    subst ew
    exact hq p13 H13 e13 ((sH.trans s13).get (s12.get e9))
  have e2' := s12.get e2
  cases b1 with
  | true =>
    walk_at "st"
    refine k_listL (.of e2') fun pc hpc => ?_
    obtain ⟨s14, e14⟩ := new_both (o := .lst (xs.map VT)) hpc
    walk_at "st"
    refine last (fun p13 H13 e13 e14 => ?_) s14 pc e14
    walk_at "st"
    exact k_eqMix _ _ (.of e13) (.of e14) (r := true) (by unfold PyData.eqv; exact eqv_same _) (q _)
  | false =>
    cases b2 with
    | true =>
      walk_at "st"
      refine k_listL (.of e2') fun pc hpc => ?_
      obtain ⟨s14, e14⟩ := new_both (o := .lst (xs.map VT)) hpc
      walk_at "st"
      refine last (fun p13 H13 e13 e14 => ?_) s14 pc e14
      walk_at "st"
      exact k_eqMix _ _ (.of e13) (.of e14) (r := true) (by unfold PyData.eqv; exact eqv_same _) (q _)
    | false =>
      walk_at "st"
      exact q _

end Tw
namespace Tw
open PySem PySem.Spec PyProof.Rows L2
/-! the text -/
def topS (i : Nat) : Stmt := PySem.Challenge.pw_thinwood_k72_words_refused.main.body.getD i (.Pass ⟨0, 0, 0, 0⟩)
abbrev s_packed : Stmt := topS 14
theorem sc_packed : FnScope n_packed ["bits"] (defScope s_packed) := ⟨rfl, rfl, rfl, by decide +kernel, rfl, by decide +kernel, by decide +kernel⟩

abbrev s_ones_in : Stmt := topS 15
theorem sc_ones_in : FnScope n_ones_in ["block", "upto"] (defScope s_ones_in) := ⟨rfl, rfl, rfl, by decide +kernel, rfl, by decide +kernel, by decide +kernel⟩

abbrev s_low_in : Stmt := topS 16
theorem sc_low_in : FnScope n_low_in ["block", "upto"] (defScope s_low_in) := ⟨rfl, rfl, rfl, by decide +kernel, rfl, by decide +kernel, by decide +kernel⟩

abbrev s_ones_table : Stmt := topS 18
theorem sc_ones_table : FnScope n_ones_table ["blocks"] (defScope s_ones_table) := ⟨rfl, rfl, rfl, by decide +kernel, rfl, by decide +kernel, by decide +kernel⟩

abbrev s_kept_row : Stmt := topS 19
theorem sc_kept_row : FnScope n_kept_row ["bits"] (defScope s_kept_row) := ⟨rfl, rfl, rfl, by decide +kernel, rfl, by decide +kernel, by decide +kernel⟩

abbrev s_size_of : Stmt := topS 21
theorem sc_size_of : FnScope n_size_of ["many"] (defScope s_size_of) := ⟨rfl, rfl, rfl, by decide +kernel, rfl, by decide +kernel, by decide +kernel⟩

abbrev s_lesser_of : Stmt := topS 22
theorem sc_lesser_of : FnScope n_lesser_of ["one", "other"] (defScope s_lesser_of) := ⟨rfl, rfl, rfl, by decide +kernel, rfl, by decide +kernel, by decide +kernel⟩

abbrev s_heap_of : Stmt := topS 23
theorem sc_heap_of : FnScope n_heap_of ["numbers"] (defScope s_heap_of) := ⟨rfl, rfl, rfl, by decide +kernel, rfl, by decide +kernel, by decide +kernel⟩

abbrev s_is_tree : Stmt := topS 25
theorem sc_is_tree : FnScope n_is_tree ["bits"] (defScope s_is_tree) := ⟨rfl, rfl, rfl, by decide +kernel, rfl, by decide +kernel, by decide +kernel⟩

abbrev s_begin_height : Stmt := topS 26
theorem sc_begin_height : FnScope n_begin_height ["ahead", "number"] (defScope s_begin_height) := ⟨rfl, rfl, rfl, by decide +kernel, rfl, by decide +kernel, by decide +kernel⟩

abbrev s_kept_brackets : Stmt := topS 27
theorem sc_kept_brackets : FnScope n_kept_brackets ["bits"] (defScope s_kept_brackets) := ⟨rfl, rfl, rfl, by decide +kernel, rfl, by decide +kernel, by decide +kernel⟩

abbrev s_brackets_of : Stmt := topS 29
theorem sc_brackets_of : FnScope n_brackets_of ["depths"] (defScope s_brackets_of) := ⟨rfl, rfl, rfl, by decide +kernel, rfl, by decide +kernel, by decide +kernel⟩

abbrev s_kept_tree : Stmt := topS 30
theorem sc_kept_tree : FnScope n_kept_tree ["depths"] (defScope s_kept_tree) := ⟨rfl, rfl, rfl, by decide +kernel, rfl, by decide +kernel, by decide +kernel⟩

abbrev s_levels_for : Stmt := topS 33
theorem sc_levels_for : FnScope n_levels_for ["kinds"] (defScope s_levels_for) := ⟨rfl, rfl, rfl, by decide +kernel, rfl, by decide +kernel, by decide +kernel⟩

abbrev s_kept_signs : Stmt := topS 34
theorem sc_kept_signs : FnScope n_kept_signs ["signs"] (defScope s_kept_signs) := ⟨rfl, rfl, rfl, by decide +kernel, rfl, by decide +kernel, by decide +kernel⟩

abbrev s_is_word : Stmt := topS 38
theorem sc_is_word : FnScope n_is_word ["text"] (defScope s_is_word) := ⟨rfl, rfl, rfl, by decide +kernel, rfl, by decide +kernel, by decide +kernel⟩

abbrev s_shared_letters : Stmt := topS 39
theorem sc_shared_letters : FnScope n_shared_letters ["one", "other"] (defScope s_shared_letters) := ⟨rfl, rfl, rfl, by decide +kernel, rfl, by decide +kernel, by decide +kernel⟩

abbrev s_kept_store : Stmt := topS 40
theorem sc_kept_store : FnScope n_kept_store ["words"] (defScope s_kept_store) := ⟨rfl, rfl, rfl, by decide +kernel, rfl, by decide +kernel, by decide +kernel⟩

abbrev s_law_cell_at : Stmt := topS 42
theorem sc_law_cell_at : FnScope n_law_cell_at ["_law_script", "_law_k"] (defScope s_law_cell_at) := ⟨rfl, rfl, rfl, by decide +kernel, rfl, by decide +kernel, by decide +kernel⟩

abbrev s_law_whole : Stmt := topS 43
theorem sc_law_whole : FnScope n_law_whole ["_law_found"] (defScope s_law_whole) := ⟨rfl, rfl, rfl, by decide +kernel, rfl, by decide +kernel, by decide +kernel⟩

abbrev s_law_spelt : Stmt := topS 44
theorem sc_law_spelt : FnScope n_law_spelt ["_law_number", "_law_kinds", "_law_many"] (defScope s_law_spelt) := ⟨rfl, rfl, rfl, by decide +kernel, rfl, by decide +kernel, by decide +kernel⟩

abbrev s_law_words : Stmt := topS 45
theorem sc_law_words : FnScope n_law_words ["_law_script"] (defScope s_law_words) := ⟨rfl, rfl, rfl, by decide +kernel, rfl, by decide +kernel, by decide +kernel⟩

abbrev s_law_many_words : Stmt := topS 46
theorem sc_law_many_words : FnScope n_law_many_words ["_law_more"] (defScope s_law_many_words) := ⟨rfl, rfl, rfl, by decide +kernel, rfl, by decide +kernel, by decide +kernel⟩

abbrev s_law_others : Stmt := topS 47
theorem sc_law_others : FnScope n_law_others ["_law_e"] (defScope s_law_others) := ⟨rfl, rfl, rfl, by decide +kernel, rfl, by decide +kernel, by decide +kernel⟩

abbrev s_law_told : Stmt := topS 48
theorem sc_law_told : FnScope n_law_told ["_law_words_here"] (defScope s_law_told) := ⟨rfl, rfl, rfl, by decide +kernel, rfl, by decide +kernel, by decide +kernel⟩

abbrev s_law_spoilt : Stmt := topS 49
theorem sc_law_spoilt : FnScope n_law_spoilt ["_law_word", "_law_cell"] (defScope s_law_spoilt) := ⟨rfl, rfl, rfl, by decide +kernel, rfl, by decide +kernel, by decide +kernel⟩

abbrev s_law : Stmt := topS 50
theorem sc_law : FnScope n_law ["_law_script"] (defScope s_law) := ⟨rfl, rfl, rfl, by decide +kernel, rfl, by decide +kernel, by decide +kernel⟩

structure Tx (P : Program) (w : World) (K : PySem.W.Frag) (mg : Str → Option Value) (base : Heap) : Prop where
  d_packed : ∃ fd, FunD K "packed" "packed" (defArgs s_packed) (defBody s_packed) (defScope s_packed) [] [] (He.ga K "packed") fd
  g_packed : mg "packed" = some (.ref (He.ga K "packed"))
  d_ones_in : ∃ fd, FunD K "ones_in" "ones_in" (defArgs s_ones_in) (defBody s_ones_in) (defScope s_ones_in) [] [] (He.ga K "ones_in") fd
  g_ones_in : mg "ones_in" = some (.ref (He.ga K "ones_in"))
  d_low_in : ∃ fd, FunD K "low_in" "low_in" (defArgs s_low_in) (defBody s_low_in) (defScope s_low_in) [] [] (He.ga K "low_in") fd
  g_low_in : mg "low_in" = some (.ref (He.ga K "low_in"))
  d_ones_table : ∃ fd, FunD K "ones_table" "ones_table" (defArgs s_ones_table) (defBody s_ones_table) (defScope s_ones_table) [] [] (He.ga K "ones_table") fd
  g_ones_table : mg "ones_table" = some (.ref (He.ga K "ones_table"))
  d_kept_row : ∃ fd, FunD K "kept_row" "kept_row" (defArgs s_kept_row) (defBody s_kept_row) (defScope s_kept_row) [] [] (He.ga K "kept_row") fd
  g_kept_row : mg "kept_row" = some (.ref (He.ga K "kept_row"))
  d_size_of : ∃ fd, FunD K "size_of" "size_of" (defArgs s_size_of) (defBody s_size_of) (defScope s_size_of) [] [] (He.ga K "size_of") fd
  g_size_of : mg "size_of" = some (.ref (He.ga K "size_of"))
  d_lesser_of : ∃ fd, FunD K "lesser_of" "lesser_of" (defArgs s_lesser_of) (defBody s_lesser_of) (defScope s_lesser_of) [] [] (He.ga K "lesser_of") fd
  g_lesser_of : mg "lesser_of" = some (.ref (He.ga K "lesser_of"))
  d_heap_of : ∃ fd, FunD K "heap_of" "heap_of" (defArgs s_heap_of) (defBody s_heap_of) (defScope s_heap_of) [] [] (He.ga K "heap_of") fd
  g_heap_of : mg "heap_of" = some (.ref (He.ga K "heap_of"))
  d_is_tree : ∃ fd, FunD K "is_tree" "is_tree" (defArgs s_is_tree) (defBody s_is_tree) (defScope s_is_tree) [] [] (He.ga K "is_tree") fd
  g_is_tree : mg "is_tree" = some (.ref (He.ga K "is_tree"))
  d_begin_height : ∃ fd, FunD K "begin_height" "begin_height" (defArgs s_begin_height) (defBody s_begin_height) (defScope s_begin_height) [] [] (He.ga K "begin_height") fd
  g_begin_height : mg "begin_height" = some (.ref (He.ga K "begin_height"))
  d_kept_brackets : ∃ fd, FunD K "kept_brackets" "kept_brackets" (defArgs s_kept_brackets) (defBody s_kept_brackets) (defScope s_kept_brackets) [] [] (He.ga K "kept_brackets") fd
  g_kept_brackets : mg "kept_brackets" = some (.ref (He.ga K "kept_brackets"))
  d_brackets_of : ∃ fd, FunD K "brackets_of" "brackets_of" (defArgs s_brackets_of) (defBody s_brackets_of) (defScope s_brackets_of) [] [] (He.ga K "brackets_of") fd
  g_brackets_of : mg "brackets_of" = some (.ref (He.ga K "brackets_of"))
  d_kept_tree : ∃ fd, FunD K "kept_tree" "kept_tree" (defArgs s_kept_tree) (defBody s_kept_tree) (defScope s_kept_tree) [] [] (He.ga K "kept_tree") fd
  g_kept_tree : mg "kept_tree" = some (.ref (He.ga K "kept_tree"))
  d_levels_for : ∃ fd, FunD K "levels_for" "levels_for" (defArgs s_levels_for) (defBody s_levels_for) (defScope s_levels_for) [] [] (He.ga K "levels_for") fd
  g_levels_for : mg "levels_for" = some (.ref (He.ga K "levels_for"))
  d_kept_signs : ∃ fd, FunD K "kept_signs" "kept_signs" (defArgs s_kept_signs) (defBody s_kept_signs) (defScope s_kept_signs) [] [] (He.ga K "kept_signs") fd
  g_kept_signs : mg "kept_signs" = some (.ref (He.ga K "kept_signs"))
  d_is_word : ∃ fd, FunD K "is_word" "is_word" (defArgs s_is_word) (defBody s_is_word) (defScope s_is_word) [] [] (He.ga K "is_word") fd
  g_is_word : mg "is_word" = some (.ref (He.ga K "is_word"))
  d_shared_letters : ∃ fd, FunD K "shared_letters" "shared_letters" (defArgs s_shared_letters) (defBody s_shared_letters) (defScope s_shared_letters) [] [] (He.ga K "shared_letters") fd
  g_shared_letters : mg "shared_letters" = some (.ref (He.ga K "shared_letters"))
  d_kept_store : ∃ fd, FunD K "kept_store" "kept_store" (defArgs s_kept_store) (defBody s_kept_store) (defScope s_kept_store) [] [] (He.ga K "kept_store") fd
  g_kept_store : mg "kept_store" = some (.ref (He.ga K "kept_store"))
  d_law_cell_at : ∃ fd, FunD K "_law_cell_at" "_law_cell_at" (defArgs s_law_cell_at) (defBody s_law_cell_at) (defScope s_law_cell_at) [] [] (He.ga K "_law_cell_at") fd
  g_law_cell_at : mg "_law_cell_at" = some (.ref (He.ga K "_law_cell_at"))
  d_law_whole : ∃ fd, FunD K "_law_whole" "_law_whole" (defArgs s_law_whole) (defBody s_law_whole) (defScope s_law_whole) [] [] (He.ga K "_law_whole") fd
  g_law_whole : mg "_law_whole" = some (.ref (He.ga K "_law_whole"))
  d_law_spelt : ∃ fd, FunD K "_law_spelt" "_law_spelt" (defArgs s_law_spelt) (defBody s_law_spelt) (defScope s_law_spelt) [] [] (He.ga K "_law_spelt") fd
  g_law_spelt : mg "_law_spelt" = some (.ref (He.ga K "_law_spelt"))
  d_law_words : ∃ fd, FunD K "_law_words" "_law_words" (defArgs s_law_words) (defBody s_law_words) (defScope s_law_words) [] [] (He.ga K "_law_words") fd
  g_law_words : mg "_law_words" = some (.ref (He.ga K "_law_words"))
  d_law_many_words : ∃ fd, FunD K "_law_many_words" "_law_many_words" (defArgs s_law_many_words) (defBody s_law_many_words) (defScope s_law_many_words) [] [] (He.ga K "_law_many_words") fd
  g_law_many_words : mg "_law_many_words" = some (.ref (He.ga K "_law_many_words"))
  d_law_others : ∃ fd, FunD K "_law_others" "_law_others" (defArgs s_law_others) (defBody s_law_others) (defScope s_law_others) [] [] (He.ga K "_law_others") fd
  g_law_others : mg "_law_others" = some (.ref (He.ga K "_law_others"))
  d_law_told : ∃ fd, FunD K "_law_told" "_law_told" (defArgs s_law_told) (defBody s_law_told) (defScope s_law_told) [] [] (He.ga K "_law_told") fd
  g_law_told : mg "_law_told" = some (.ref (He.ga K "_law_told"))
  d_law_spoilt : ∃ fd, FunD K "_law_spoilt" "_law_spoilt" (defArgs s_law_spoilt) (defBody s_law_spoilt) (defScope s_law_spoilt) [] [] (He.ga K "_law_spoilt") fd
  g_law_spoilt : mg "_law_spoilt" = some (.ref (He.ga K "_law_spoilt"))
  d_law : ∃ fd, FunD K "law" "law" (defArgs s_law) (defBody s_law) (defScope s_law) [] [] (He.ga K "law") fd
  g_law : mg "law" = some (.ref (He.ga K "law"))
  b_bool : mg "bool" = none
  b_enumerate : mg "enumerate" = none
  b_int : mg "int" = none
  b_isinstance : mg "isinstance" = none
  b_len : mg "len" = none
  b_list : mg "list" = none
  b_min : mg "min" = none
  b_range : mg "range" = none
  b_reversed : mg "reversed" = none
  b_set : mg "set" = none
  b_sorted : mg "sorted" = none
  b_sum : mg "sum" = none
  b_tuple : mg "tuple" = none
  b_zip : mg "zip" = none
  x_NoBit : ExF K mg "NoBit"
  x_NoNode : ExF K mg "NoNode"
  x_NoOctets : ExF K mg "NoOctets"
  x_NoPlace : ExF K mg "NoPlace"
  x_NoSign : ExF K mg "NoSign"
  x_NoTree : ExF K mg "NoTree"
  x_NoWord : ExF K mg "NoWord"
  x_TooMany : ExF K mg "TooMany"
  x_Twice : ExF K mg "Twice"
  x_WoodError : ExF K mg "WoodError"
  g_NoBit : mg "NoBit" = some (.ref (He.ga K "NoBit"))
  g_NoNode : mg "NoNode" = some (.ref (He.ga K "NoNode"))
  g_NoOctets : mg "NoOctets" = some (.ref (He.ga K "NoOctets"))
  g_NoPlace : mg "NoPlace" = some (.ref (He.ga K "NoPlace"))
  g_NoSign : mg "NoSign" = some (.ref (He.ga K "NoSign"))
  g_NoTree : mg "NoTree" = some (.ref (He.ga K "NoTree"))
  g_NoWord : mg "NoWord" = some (.ref (He.ga K "NoWord"))
  g_TooMany : mg "TooMany" = some (.ref (He.ga K "TooMany"))
  g_Twice : mg "Twice" = some (.ref (He.ga K "Twice"))
  g_WoodError : mg "WoodError" = some (.ref (He.ga K "WoodError"))
  fx : KFx K
  i_FAR : ∃ t, mg "FAR" = some (.int 1000000000000000000000000000000000000000000000000000000000000 t)
  i_LONGEST : ∃ t, mg "LONGEST" = some (.int 40 t)
  i_MOST : ∃ t, mg "MOST" = some (.int 4096 t)
  i_WIDE : ∃ t, mg "WIDE" = some (.int 32 t)
  s_LETTERS : ∃ t, mg "LETTERS" = some (.str "abcdefghijklmnopqrstuvwxyz" t)
section
variable {P : Program} {w : World} {K : PySem.W.Frag} {mg : Str → Option Value} {base : Heap}
theorem ok_packed (T : Tx P w K mg base) : Okf P w K mg base (L2.CX P w) 2 "packed" ["bits"] (sp_packed K) := by
  obtain ⟨fd, FD⟩ := T.d_packed
  refine ⟨⟨fd, FunD.look FD, FD.bindsN fun _ _ _ _ _ _ us hl => match us, hl with | [_], _ => rfl, ?_⟩, FD.kp, T.g_packed⟩
  refine FunD.ok (CX := (L2.CX P w)) FD sc_packed (len_packed K) (fun cdv A outer s H vs Q E hr h => ⟨t_packed K E, ?_, rd_packed K vs H Q E h⟩)
  exact (pss_cons (ps_if (pt_cmpR op_gt (pe_callB call_lenK (by rfl) T.b_len (by decide +kernel) (pa_cons (pv 0) pa_nil)) (pe_gint T.i_MOST (by rfl)) (nomark _))
  (pss_one (ps_rz T.x_TooMany (takes_of rfl rfl rfl rfl)))
  pss_nil)
  (pss_cons (ps_set (i := 1) sc_packed.nd rfl (.inl rfl) (pe_op op_rep (pe_lst (pa_cons pe_int pa_nil)) (pe_op op_fdiv (pe_op op_sub (pe_op op_add (pe_callB call_lenK (by rfl) T.b_len (by decide +kernel) (pa_cons (pv 0) pa_nil)) (pe_gint T.i_WIDE (by rfl))) pe_int) (pe_gint T.i_WIDE (by rfl)))))
  (pss_cons (ps_for (passes_of rfl) rfl (pi_enum (by rfl) T.b_enumerate (pa_cons (pv 0) pa_nil)) (pg_tup rfl (pgs_cons (pg_name (i := 2) sc_packed.nd rfl (.inl rfl)) (pgs_cons (pg_name (i := 3) sc_packed.nd rfl (.inl rfl)) pgs_nil)))
  (pss_cons (ps_if (PW.pt (pw_and (pt_cmpR op_ne (pv 3) pe_int (nomark _)) (pw_and1 (pt_cmpR op_ne (pv 3) pe_int (nomark _)))))
  (pss_one (ps_rz T.x_NoBit (takes_of rfl rfl rfl rfl)))
  pss_nil)
  (pss_one (ps_if (pt_cmpR op_eq (pv 3) pe_int (nomark _))
  (pss_one (ps_asg (pe_op op_or (pe_ix ix_list (pv 1) (pe_op op_fdiv (pv 2) (pe_gint T.i_WIDE (by rfl))) (fun _ _ => rfl)) (pe_op op_shlW pe_int (pe_op op_mod (pv 2) (pe_gint T.i_WIDE (by rfl))))) (pg_sub (pv 1) (pe_op op_fdiv (pv 2) (pe_gint T.i_WIDE (by rfl))) set_list)))
  pss_nil))))
  (pss_one (ps_ret (pv 1))))))

theorem ok_ones_in (T : Tx P w K mg base) : Okf P w K mg base CX0 1 "ones_in" ["block", "upto"] (sp_ones_in K) := by
  obtain ⟨fd, FD⟩ := T.d_ones_in
  refine ⟨⟨fd, FunD.look FD, FD.bindsN fun _ _ _ _ _ _ us hl => match us, hl with | [_, _], _ => rfl, ?_⟩, FD.kp, T.g_ones_in⟩
  refine FunD.ok (CX := CX0) FD sc_ones_in (len_ones_in K) (fun cdv A outer s H vs Q E hr h => ⟨t_ones_in K, PSs.nox ?_, rd_ones_in K vs H Q E h⟩)
  exact (pss_one (ps_ret (pe_callB (cr_sum rfl) (by rfl) T.b_sum (by decide +kernel) (pa_cons (pe_lc (own := [("k", 2)]) (g := (gName 2)) (tt := tYes) rfl sc_ones_in.nd (pi_range1 (by rfl) T.b_range (pa_cons (pv 1) pa_nil)) (blkOk_by (N := ["block", "upto", "k"]) (sc := defScope s_ones_in) (own := [("k", 2)]) (by decide +kernel)) (fun _ _ _ _ _ => (pg_name (i := 2) sc_ones_in.nd rfl (.inl rfl))) (fun _ _ _ _ _ => pts_nil) (fun _ _ _ _ _ => (pe_op op_and1 (pe_op op_shr (pv 0) (pv 2)) pe_int))) pa_nil))))

theorem ok_low_in (T : Tx P w K mg base) : Okf P w K mg base CX0 1 "low_in" ["block", "upto"] (sp_low_in K) := by
  obtain ⟨fd, FD⟩ := T.d_low_in
  refine ⟨⟨fd, FunD.look FD, FD.bindsN fun _ _ _ _ _ _ us hl => match us, hl with | [_, _], _ => rfl, ?_⟩, FD.kp, T.g_low_in⟩
  refine FunD.ok (CX := CX0) FD sc_low_in (len_low_in K) (fun cdv A outer s H vs Q E hr h => ⟨t_low_in K, PSs.nox ?_, rd_low_in K vs H Q E h⟩)
  exact (pss_cons (ps_set (i := 2) sc_low_in.nd rfl (.inl rfl) pe_int)
  (pss_cons (ps_set (i := 3) sc_low_in.nd rfl (.inl rfl) pe_int)
  (pss_cons (ps_for PassesOwn.never rfl (pi_range1 (by rfl) T.b_range (pa_cons (pv 1) pa_nil)) (pg_name (i := 4) sc_low_in.nd rfl (.inl rfl))
  (pss_cons (ps_aug (i := 2) sc_low_in.nd rfl (.inl rfl) (pe_op op_sub (pe_op op_mul pe_int (pe_op op_and1 (pe_op op_shr (pv 0) (pv 4)) pe_int)) pe_int) ip_add)
  (pss_one (ps_set (i := 3) sc_low_in.nd rfl (.inl rfl) (pe_callB (call_min2K rfl) (by rfl) T.b_min (by decide +kernel) (pa_cons (pv 3) (pa_cons (pv 2) pa_nil)))))))
  (pss_one (ps_ret (pv 3))))))

theorem ok_ones_table (T : Tx P w K mg base) (o_ones_in : Okf P w K mg base CX0 1 "ones_in" ["block", "upto"] (sp_ones_in K)) : Okf P w K mg base CX0 2 "ones_table" ["blocks"] (sp_ones_table K) := by
  obtain ⟨fd, FD⟩ := T.d_ones_table
  refine ⟨⟨fd, FunD.look FD, FD.bindsN fun _ _ _ _ _ _ us hl => match us, hl with | [_], _ => rfl, ?_⟩, FD.kp, T.g_ones_table⟩
  refine FunD.ok (CX := CX0) FD sc_ones_table (len_ones_table K) (fun cdv A outer s H vs Q E hr h => ⟨t_ones_table K, PSs.nox ?_, rd_ones_table K vs H Q E h⟩)
  exact (pss_cons (ps_set (i := 1) sc_ones_table.nd rfl (.inl rfl) (pe_lst (pa_cons pe_int pa_nil)))
  (pss_cons (ps_for PassesOwn.never rfl (pi_list (pv 0)) (pg_name (i := 2) sc_ones_table.nd rfl (.inl rfl))
  (pss_one (ps_expr (pe_bm PySem.F.plainAttrs_list PySem.F.slot_list_append PySem.F.type_list_append mt_append (pv 1) (pa_cons (pe_op op_add (pe_ix ix_list (pv 1) (pe_un un_neg pe_int) (fun _ _ => rfl)) (pe_callF o_ones_in hr (by decide) (by rfl) pass0 (pa_cons (pv 2) (pa_cons (pe_gint T.i_WIDE (by rfl)) pa_nil)))) pa_nil)))))
  (pss_one (ps_ret (pe_callTy call_tupK (by rfl) T.b_tuple (by decide +kernel) (pa_cons (pv 1) pa_nil))))))

theorem ok_kept_row (T : Tx P w K mg base) (o_packed : Okf P w K mg base (L2.CX P w) 2 "packed" ["bits"] (sp_packed K)) (o_ones_table : Okf P w K mg base CX0 2 "ones_table" ["blocks"] (sp_ones_table K)) : Okf P w K mg base (L2.CX P w) 4 "kept_row" ["bits"] (sp_kept_row K) := by
  obtain ⟨fd, FD⟩ := T.d_kept_row
  refine ⟨⟨fd, FunD.look FD, FD.bindsN fun _ _ _ _ _ _ us hl => match us, hl with | [_], _ => rfl, ?_⟩, FD.kp, T.g_kept_row⟩
  refine FunD.ok (CX := (L2.CX P w)) FD sc_kept_row (len_kept_row K) (fun cdv A outer s H vs Q E hr h => ⟨t_kept_row K E, ?_, rd_kept_row K vs H Q E h⟩)
  exact (pss_cons (ps_set (i := 1) sc_kept_row.nd rfl (.inl rfl) (pe_callF o_packed hr (by decide) (by rfl) (passX (takes_of rfl rfl rfl rfl)) (pa_cons (pv 0) pa_nil)))
  (pss_one (ps_ret (pe_tup (pa_cons (pe_tup (pa_cons (pe_callB call_lenK (by rfl) T.b_len (by decide +kernel) (pa_cons (pv 0) pa_nil)) (pa_cons (pe_callF o_ones_table hr (by decide) (by rfl) pass0 (pa_cons (pv 1) pa_nil)) pa_nil))) (pa_cons (pv 1) pa_nil))))))

theorem ok_size_of (T : Tx P w K mg base) : Okf P w K mg base CX0 1 "size_of" ["many"] (sp_size_of K) := by
  obtain ⟨fd, FD⟩ := T.d_size_of
  refine ⟨⟨fd, FunD.look FD, FD.bindsN fun _ _ _ _ _ _ us hl => match us, hl with | [_], _ => rfl, ?_⟩, FD.kp, T.g_size_of⟩
  refine FunD.ok (CX := CX0) FD sc_size_of (len_size_of K) (fun cdv A outer s H vs Q E hr h => ⟨t_size_of K, PSs.nox ?_, rd_size_of K vs H Q E h⟩)
  exact (pss_cons (ps_set (i := 1) sc_size_of.nd rfl (.inl rfl) pe_int)
  (pss_cons (ps_while PassesOwn.never (pt_cmpR op_lt (pv 1) (pv 0) (nomark _))
  (pss_one (ps_aug (i := 1) sc_size_of.nd rfl (.inl rfl) pe_int iop_mul)))
  (pss_one (ps_ret (pv 1)))))

theorem ok_lesser_of (T : Tx P w K mg base) : Okf P w K mg base CX0 1 "lesser_of" ["one", "other"] (sp_lesser_of K) := by
  obtain ⟨fd, FD⟩ := T.d_lesser_of
  refine ⟨⟨fd, FunD.look FD, FD.bindsN fun _ _ _ _ _ _ us hl => match us, hl with | [_, _], _ => rfl, ?_⟩, FD.kp, T.g_lesser_of⟩
  refine FunD.ok (CX := CX0) FD sc_lesser_of (len_lesser_of K) (fun cdv A outer s H vs Q E hr h => ⟨t_lesser_of K, PSs.nox ?_, rd_lesser_of K vs H Q E h⟩)
  exact (pss_cons (ps_if (pt_cmpR op_isN1 (pv 0) pe_non (nomark _))
  (pss_one (ps_ret (pv 1)))
  pss_nil)
  (pss_cons (ps_if (pt_cmpR op_isN1 (pv 1) pe_non (nomark _))
  (pss_one (ps_ret (pv 0)))
  pss_nil)
  (pss_one (ps_ret (pe_callB (call_min2K rfl) (by rfl) T.b_min (by decide +kernel) (pa_cons (pv 0) (pa_cons (pv 1) pa_nil)))))))

theorem ok_heap_of (T : Tx P w K mg base) (o_size_of : Okf P w K mg base CX0 1 "size_of" ["many"] (sp_size_of K)) (o_lesser_of : Okf P w K mg base CX0 1 "lesser_of" ["one", "other"] (sp_lesser_of K)) : Okf P w K mg base (L2.CX P w) 3 "heap_of" ["numbers"] (sp_heap_of K) := by
  obtain ⟨fd, FD⟩ := T.d_heap_of
  refine ⟨⟨fd, FunD.look FD, FD.bindsN fun _ _ _ _ _ _ us hl => match us, hl with | [_], _ => rfl, ?_⟩, FD.kp, T.g_heap_of⟩
  refine FunD.ok (CX := (L2.CX P w)) FD sc_heap_of (len_heap_of K) (fun cdv A outer s H vs Q E hr h => ⟨t_heap_of K E, ?_, rd_heap_of K vs H Q E h⟩)
  exact (pss_cons (ps_if (pt_cmpR op_gt (pe_callB call_lenK (by rfl) T.b_len (by decide +kernel) (pa_cons (pv 0) pa_nil)) (pe_gint T.i_MOST (by rfl)) (nomark _))
  (pss_one (ps_rz T.x_TooMany (takes_of rfl rfl rfl rfl)))
  pss_nil)
  (pss_cons (ps_set (i := 1) sc_heap_of.nd rfl (.inl rfl) (pe_callF o_size_of hr (by decide) (by rfl) pass0 (pa_cons (pe_callB call_lenK (by rfl) T.b_len (by decide +kernel) (pa_cons (pv 0) pa_nil)) pa_nil)))
  (pss_cons (ps_set (i := 2) sc_heap_of.nd rfl (.inl rfl) (pe_op op_cat (pe_op op_cat (pe_op op_rep (pe_lst (pa_cons pe_non pa_nil)) (pv 1)) (pe_callTy call_listK (by rfl) T.b_list (by decide +kernel) (pa_cons (pv 0) pa_nil))) (pe_op op_rep (pe_lst (pa_cons pe_non pa_nil)) (pe_op op_sub (pv 1) (pe_callB call_lenK (by rfl) T.b_len (by decide +kernel) (pa_cons (pv 0) pa_nil))))))
  (pss_cons (ps_for (passes_of rfl) rfl (pi_range3 (by rfl) T.b_range (pa_cons (pe_op op_sub (pv 1) pe_int) (pa_cons pe_int (pa_cons (pe_un un_neg pe_int) pa_nil)))) (pg_name (i := 3) sc_heap_of.nd rfl (.inl rfl))
  (pss_one (ps_asg (pe_callF o_lesser_of hr (by decide) (by rfl) pass0 (pa_cons (pe_ix ix_list (pv 2) (pe_op op_mul pe_int (pv 3)) (fun _ _ => rfl)) (pa_cons (pe_ix ix_list (pv 2) (pe_op op_add (pe_op op_mul pe_int (pv 3)) pe_int) (fun _ _ => rfl)) pa_nil))) (pg_sub (pv 2) (pv 3) set_list))))
  (pss_one (ps_ret (pv 2)))))))

theorem ok_is_tree (T : Tx P w K mg base) : Okf P w K mg base CX0 1 "is_tree" ["bits"] (sp_is_tree K) := by
  obtain ⟨fd, FD⟩ := T.d_is_tree
  refine ⟨⟨fd, FunD.look FD, FD.bindsN fun _ _ _ _ _ _ us hl => match us, hl with | [_], _ => rfl, ?_⟩, FD.kp, T.g_is_tree⟩
  refine FunD.ok (CX := CX0) FD sc_is_tree (len_is_tree K) (fun cdv A outer s H vs Q E hr h => ⟨t_is_tree K, PSs.nox ?_, rd_is_tree K vs H Q E h⟩)
  exact (pss_cons (ps_set (i := 1) sc_is_tree.nd rfl (.inl rfl) pe_int)
  (pss_cons (ps_for PassesOwn.never rfl (pi_enum (by rfl) T.b_enumerate (pa_cons (pv 0) pa_nil)) (pg_tup rfl (pgs_cons (pg_name (i := 2) sc_is_tree.nd rfl (.inl rfl)) (pgs_cons (pg_name (i := 3) sc_is_tree.nd rfl (.inl rfl)) pgs_nil)))
  (pss_cons (ps_aug (i := 1) sc_is_tree.nd rfl (.inl rfl) (pe_op op_sub (pe_op op_mul pe_int (pv 3)) pe_int) ip_add)
  (pss_one (ps_if (PW.pt (pw_and (pt_cmpR op_le (pv 1) pe_int (nomark _)) (pw_and1 (pt_cmpR op_lt (pe_op op_add (pv 2) pe_int) (pe_callB call_lenK (by rfl) T.b_len (by decide +kernel) (pa_cons (pv 0) pa_nil)) (nomark _)))))
  (pss_one (ps_ret pe_bl))
  pss_nil))))
  (pss_one (ps_ret (pe_and (pe_cmpR op_gt (pe_callB call_lenK (by rfl) T.b_len (by decide +kernel) (pa_cons (pv 0) pa_nil)) pe_int (nomark _)) (pe_one (pe_cmpR op_eq (pv 1) pe_int (nomark _))))))))

theorem ok_begin_height (T : Tx P w K mg base) : Okf P w K mg base CX0 1 "begin_height" ["ahead", "number"] (sp_begin_height K) := by
  obtain ⟨fd, FD⟩ := T.d_begin_height
  refine ⟨⟨fd, FunD.look FD, FD.bindsN fun _ _ _ _ _ _ us hl => match us, hl with | [_, _], _ => rfl, ?_⟩, FD.kp, T.g_begin_height⟩
  refine FunD.ok (CX := CX0) FD sc_begin_height (len_begin_height K) (fun cdv A outer s H vs Q E hr h => ⟨t_begin_height K, PSs.nox ?_, rd_begin_height K vs H Q E h⟩)
  exact (pss_one (ps_ret (pe_op op_sub (pe_op op_mul pe_int (pe_ix ix_tup (pv 0) (pv 1) (fun _ _ => rfl))) (pe_op op_mul (pe_gint T.i_WIDE (by rfl)) (pv 1)))))

theorem ok_kept_brackets (T : Tx P w K mg base) (o_kept_row : Okf P w K mg base (L2.CX P w) 4 "kept_row" ["bits"] (sp_kept_row K)) (o_is_tree : Okf P w K mg base CX0 1 "is_tree" ["bits"] (sp_is_tree K)) (o_begin_height : Okf P w K mg base CX0 1 "begin_height" ["ahead", "number"] (sp_begin_height K)) (o_low_in : Okf P w K mg base CX0 1 "low_in" ["block", "upto"] (sp_low_in K)) (o_heap_of : Okf P w K mg base (L2.CX P w) 3 "heap_of" ["numbers"] (sp_heap_of K)) : Okf P w K mg base (L2.CX P w) 6 "kept_brackets" ["bits"] (sp_kept_brackets K) := by
  obtain ⟨fd, FD⟩ := T.d_kept_brackets
  refine ⟨⟨fd, FunD.look FD, FD.bindsN fun _ _ _ _ _ _ us hl => match us, hl with | [_], _ => rfl, ?_⟩, FD.kp, T.g_kept_brackets⟩
  refine FunD.ok (CX := (L2.CX P w)) FD sc_kept_brackets (len_kept_brackets K) (fun cdv A outer s H vs Q E hr h => ⟨t_kept_brackets K E, ?_, rd_kept_brackets K vs H Q E h⟩)
  exact (pss_cons (ps_asg (pe_callF o_kept_row hr (by decide) (by rfl) (passX (takes_of rfl rfl rfl rfl)) (pa_cons (pv 0) pa_nil)) (pg_tup rfl (pgs_cons (pg_name (i := 1) sc_kept_brackets.nd rfl (.inl rfl)) (pgs_cons (pg_name (i := 2) sc_kept_brackets.nd rfl (.inl rfl)) pgs_nil))))
  (pss_cons (ps_if (pt_not (pt_val (pe_callF o_is_tree hr (by decide) (by rfl) pass0 (pa_cons (pv 0) pa_nil))))
  (pss_one (ps_rz T.x_NoTree (takes_of rfl rfl rfl rfl)))
  pss_nil)
  (pss_cons (ps_asg (pv 1) (pg_tup rfl (pgs_cons (pg_name (i := 3) sc_kept_brackets.nd rfl (.inl rfl)) (pgs_cons (pg_name (i := 4) sc_kept_brackets.nd rfl (.inl rfl)) pgs_nil))))
  (pss_cons (ps_set (i := 5) sc_kept_brackets.nd rfl (.inl rfl) (pe_lst pa_nil))
  (pss_cons (ps_for (passes_of rfl) rfl (pi_enum (by rfl) T.b_enumerate (pa_cons (pv 2) pa_nil)) (pg_tup rfl (pgs_cons (pg_name (i := 6) sc_kept_brackets.nd rfl (.inl rfl)) (pgs_cons (pg_name (i := 7) sc_kept_brackets.nd rfl (.inl rfl)) pgs_nil)))
  (pss_one (ps_expr (pe_bm PySem.F.plainAttrs_list PySem.F.slot_list_append PySem.F.type_list_append mt_append (pv 5) (pa_cons (pe_op op_add (pe_callF o_begin_height hr (by decide) (by rfl) pass0 (pa_cons (pv 4) (pa_cons (pv 6) pa_nil))) (pe_callF o_low_in hr (by decide) (by rfl) pass0 (pa_cons (pv 7) (pa_cons (pe_callB (call_min2K rfl) (by rfl) T.b_min (by decide +kernel) (pa_cons (pe_gint T.i_WIDE (by rfl)) (pa_cons (pe_op op_sub (pv 3) (pe_op op_mul (pe_gint T.i_WIDE (by rfl)) (pv 6))) pa_nil))) pa_nil)))) pa_nil)))))
  (pss_one (ps_ret (pe_tup (pa_cons (pe_tup (pa_cons (pv 3) (pa_cons (pv 4) (pa_cons (pe_callTy call_tupK (by rfl) T.b_tuple (by decide +kernel) (pa_cons (pe_callF o_heap_of hr (by decide) (by rfl) (passX (takes_of rfl rfl rfl rfl)) (pa_cons (pv 5) pa_nil)) pa_nil)) pa_nil)))) (pa_cons (pv 2) pa_nil))))))))))

theorem ok_brackets_of (T : Tx P w K mg base) : Okf P w K mg base (L2.CX P w) 2 "brackets_of" ["depths"] (sp_brackets_of K) := by
  obtain ⟨fd, FD⟩ := T.d_brackets_of
  refine ⟨⟨fd, FunD.look FD, FD.bindsN fun _ _ _ _ _ _ us hl => match us, hl with | [_], _ => rfl, ?_⟩, FD.kp, T.g_brackets_of⟩
  refine FunD.ok (CX := (L2.CX P w)) FD sc_brackets_of (len_brackets_of K) (fun cdv A outer s H vs Q E hr h => ⟨t_brackets_of K E, ?_, rd_brackets_of K vs H Q E h⟩)
  exact (pss_cons (ps_if (pt_cmpR op_gt (pe_op op_mul pe_int (pe_callB call_lenK (by rfl) T.b_len (by decide +kernel) (pa_cons (pv 0) pa_nil))) (pe_gint T.i_MOST (by rfl)) (nomark _))
  (pss_one (ps_rz T.x_TooMany (takes_of rfl rfl rfl rfl)))
  pss_nil)
  (pss_cons (ps_if (PW.pt (pw_or (pt_cmpR op_eq (pe_callB call_lenK (by rfl) T.b_len (by decide +kernel) (pa_cons (pv 0) pa_nil)) pe_int (nomark _)) (pw_or1 (pt_cmpR op_ne (pe_ix ix_list (pv 0) pe_int (fun _ _ => rfl)) pe_int (nomark _)))))
  (pss_one (ps_rz T.x_NoTree (takes_of rfl rfl rfl rfl)))
  pss_nil)
  (pss_cons (ps_set (i := 1) sc_brackets_of.nd rfl (.inl rfl) (pe_lst (pa_cons pe_int pa_nil)))
  (pss_cons (ps_for (passes_of rfl) rfl (pi_zip (by rfl) T.b_zip (pa_cons (pv 0) (pa_cons (pe_slice sl_list (pv 0) (po_some pe_int) po_none) pa_nil))) (pg_tup rfl (pgs_cons (pg_name (i := 2) sc_brackets_of.nd rfl (.inl rfl)) (pgs_cons (pg_name (i := 3) sc_brackets_of.nd rfl (.inl rfl)) pgs_nil)))
  (pss_cons (ps_if (PW.pt (pw_or (pt_cmpR op_lt (pv 3) pe_int (nomark _)) (pw_or1 (pt_cmpR op_gt (pv 3) (pe_op op_add (pv 2) pe_int) (nomark _)))))
  (pss_one (ps_rz T.x_NoTree (takes_of rfl rfl rfl rfl)))
  pss_nil)
  (pss_cons (ps_expr (pe_bm PySem.F.plainAttrs_list PySem.F.slot_list_extend PySem.F.type_list_extend mt_extend (pv 1) (pa_cons (pe_op op_rep (pe_lst (pa_cons pe_int pa_nil)) (pe_op op_sub (pe_op op_add (pv 2) pe_int) (pv 3))) pa_nil)))
  (pss_one (ps_expr (pe_bm PySem.F.plainAttrs_list PySem.F.slot_list_append PySem.F.type_list_append mt_append (pv 1) (pa_cons pe_int pa_nil)))))))
  (pss_cons (ps_expr (pe_bm PySem.F.plainAttrs_list PySem.F.slot_list_extend PySem.F.type_list_extend mt_extend (pv 1) (pa_cons (pe_op op_rep (pe_lst (pa_cons pe_int pa_nil)) (pe_op op_add (pe_ix ix_list (pv 0) (pe_un un_neg pe_int) (fun _ _ => rfl)) pe_int)) pa_nil)))
  (pss_one (ps_ret (pv 1))))))))

theorem ok_kept_tree (T : Tx P w K mg base) (o_kept_brackets : Okf P w K mg base (L2.CX P w) 6 "kept_brackets" ["bits"] (sp_kept_brackets K)) (o_brackets_of : Okf P w K mg base (L2.CX P w) 2 "brackets_of" ["depths"] (sp_brackets_of K)) : Okf P w K mg base (L2.CX P w) 8 "kept_tree" ["depths"] (sp_kept_tree K) := by
  obtain ⟨fd, FD⟩ := T.d_kept_tree
  refine ⟨⟨fd, FunD.look FD, FD.bindsN fun _ _ _ _ _ _ us hl => match us, hl with | [_], _ => rfl, ?_⟩, FD.kp, T.g_kept_tree⟩
  refine FunD.ok (CX := (L2.CX P w)) FD sc_kept_tree (len_kept_tree K) (fun cdv A outer s H vs Q E hr h => ⟨t_kept_tree K E, ?_, rd_kept_tree K vs H Q E h⟩)
  exact (pss_one (ps_ret (pe_callF o_kept_brackets hr (by decide) (by rfl) (passX (takes_of rfl rfl rfl rfl)) (pa_cons (pe_callF o_brackets_of hr (by decide) (by rfl) (passX (takes_of rfl rfl rfl rfl)) (pa_cons (pv 0) pa_nil)) pa_nil))))

theorem ok_levels_for (T : Tx P w K mg base) : Okf P w K mg base CX0 1 "levels_for" ["kinds"] (sp_levels_for K) := by
  obtain ⟨fd, FD⟩ := T.d_levels_for
  refine ⟨⟨fd, FunD.look FD, FD.bindsN fun _ _ _ _ _ _ us hl => match us, hl with | [_], _ => rfl, ?_⟩, FD.kp, T.g_levels_for⟩
  refine FunD.ok (CX := CX0) FD sc_levels_for (len_levels_for K) (fun cdv A outer s H vs Q E hr h => ⟨t_levels_for K, PSs.nox ?_, rd_levels_for K vs H Q E h⟩)
  exact (pss_cons (ps_set (i := 1) sc_levels_for.nd rfl (.inl rfl) pe_int)
  (pss_cons (ps_set (i := 2) sc_levels_for.nd rfl (.inl rfl) pe_int)
  (pss_cons (ps_while PassesOwn.never (pt_cmpR op_lt (pv 2) (pv 0) (nomark _))
  (pss_cons (ps_aug (i := 2) sc_levels_for.nd rfl (.inl rfl) (pv 2) ip_add)
  (pss_one (ps_aug (i := 1) sc_levels_for.nd rfl (.inl rfl) pe_int ip_add))))
  (pss_one (ps_ret (pv 1))))))

theorem ok_kept_signs (T : Tx P w K mg base) (o_levels_for : Okf P w K mg base CX0 1 "levels_for" ["kinds"] (sp_levels_for K)) (o_kept_row : Okf P w K mg base (L2.CX P w) 4 "kept_row" ["bits"] (sp_kept_row K)) : Okf P w K mg base (L2.CX P w) 6 "kept_signs" ["signs"] (sp_kept_signs K) := by
  obtain ⟨fd, FD⟩ := T.d_kept_signs
  refine ⟨⟨fd, FunD.look FD, FD.bindsN fun _ _ _ _ _ _ us hl => match us, hl with | [_], _ => rfl, ?_⟩, FD.kp, T.g_kept_signs⟩
  refine FunD.ok (CX := (L2.CX P w)) FD sc_kept_signs (len_kept_signs K) (fun cdv A outer s H vs Q E hr h => ⟨t_kept_signs K E, ?_, rd_kept_signs K vs H Q E h⟩)
  exact (pss_cons (ps_if (pt_cmpR op_gt (pe_callB call_lenK (by rfl) T.b_len (by decide +kernel) (pa_cons (pv 0) pa_nil)) (pe_gint T.i_MOST (by rfl)) (nomark _))
  (pss_one (ps_rz T.x_TooMany (takes_of rfl rfl rfl rfl)))
  pss_nil)
  (pss_cons (ps_for (passes_of rfl) rfl (pi_list (pv 0)) (pg_name (i := 1) sc_kept_signs.nd rfl (.inl rfl))
  (pss_one (ps_if (PW.pt (pw_or (pt_cmpR op_le (pv 1) (pe_cst (pe_op op_sub pe_int (pe_gint T.i_FAR (by rfl))) fun _ _ _ h => ⟨_, _, rfl, rfl, h⟩) (nomark _)) (pw_or1 (pt_cmpR op_ge (pv 1) (pe_gint T.i_FAR (by rfl)) (nomark _)))))
  (pss_one (ps_rz T.x_NoSign (takes_of rfl rfl rfl rfl)))
  pss_nil)))
  (pss_cons (ps_set (i := 2) sc_kept_signs.nd rfl (.inl rfl) (pe_sortSet (by rfl) T.b_sorted (by rfl) T.b_set (pv 0)))
  (pss_cons (ps_set (i := 3) sc_kept_signs.nd rfl (.inr rfl) pe_dnewK)
  (pss_cons (ps_for (passes_of rfl) rfl (pi_enum (by rfl) T.b_enumerate (pa_cons (pv 2) pa_nil)) (pg_tup rfl (pgs_cons (pg_name (i := 4) sc_kept_signs.nd rfl (.inl rfl)) (pgs_cons (pg_name (i := 1) sc_kept_signs.nd rfl (.inl rfl)) pgs_nil)))
  (pss_one (ps_dput (hu_of hr) (pv 3) (pv 1) (pv 4) rfl)))
  (pss_cons (ps_setLc (i := 5) (own := [("sign", 1)]) (g := (gName 1)) (tt := tYes) rfl sc_kept_signs.nd rfl rfl (sw_true rfl rfl rfl (by decide +kernel)) (pi_list (pv 0)) (blkOk_by (N := ["signs", "sign", "kinds", "ranks", "rank", "row", "aheads", "blocks", "weight", "tables", "some", "noughts"]) (sc := defScope s_kept_signs) (own := [("sign", 1)]) (by decide +kernel)) (fun _ _ _ _ _ => (pg_name (i := 1) sc_kept_signs.nd rfl (.inl rfl))) (fun _ _ _ _ _ => pts_nil) (fun _ _ _ _ _ => (pe_dget (hu_of hr) (pv 3) (pv 1) (fun _ _ => rfl))))
  (pss_cons (ps_set (i := 6) sc_kept_signs.nd rfl (.inl rfl) (pe_lst pa_nil))
  (pss_cons (ps_set (i := 7) sc_kept_signs.nd rfl (.inl rfl) (pe_lst pa_nil))
  (pss_cons (ps_for (passes_of rfl) rfl (pi_revR (by rfl) T.b_reversed (prg_1 (by rfl) T.b_range (pe_callF o_levels_for hr (by decide) (by rfl) pass0 (pa_cons (pe_callB call_lenK (by rfl) T.b_len (by decide +kernel) (pa_cons (pv 2) pa_nil)) pa_nil)))) (pg_name (i := 8) sc_kept_signs.nd rfl (.inr rfl))
  (pss_cons (ps_asg (pe_callF o_kept_row hr (by decide) (by rfl) (passX (takes_of rfl rfl rfl rfl)) (pa_cons (pe_lc (own := [("rank", 4)]) (g := (gName 4)) (tt := tYes) rfl sc_kept_signs.nd (pi_list (pv 5)) (blkOk_by (N := ["signs", "sign", "kinds", "ranks", "rank", "row", "aheads", "blocks", "weight", "tables", "some", "noughts"]) (sc := defScope s_kept_signs) (own := [("rank", 4)]) (by decide +kernel)) (fun _ _ _ _ _ => (pg_name (i := 4) sc_kept_signs.nd rfl (.inl rfl))) (fun _ _ _ _ _ => pts_nil) (fun _ _ _ _ _ => (pe_op op_and1 (pe_op op_shr (pv 4) (pv 8)) pe_int))) pa_nil)) (pg_tup rfl (pgs_cons (pg_name (i := 9) sc_kept_signs.nd rfl (.inl rfl)) (pgs_cons (pg_name (i := 10) sc_kept_signs.nd rfl (.inl rfl)) pgs_nil))))
  (pss_cons (ps_expr (pe_bm PySem.F.plainAttrs_list PySem.F.slot_list_append PySem.F.type_list_append mt_append (pv 6) (pa_cons (pe_ix ix_tup (pv 9) pe_int (fun _ _ => rfl)) pa_nil)))
  (pss_cons (ps_expr (pe_bm PySem.F.plainAttrs_list PySem.F.slot_list_extend PySem.F.type_list_extend mt_extend (pv 7) (pa_cons (pv 10) pa_nil)))
  (pss_cons (ps_setLc (i := 11) (own := [("rank", 4)]) (g := (gName 4)) (tt := (tTest (tOp rEq (tOp rAnd1 (tOp rShr (tVar 4) (tVar 8)) (tC (.int 1))) (tC (.int 0))))) rfl sc_kept_signs.nd rfl rfl (sw_true rfl rfl rfl (by decide +kernel)) (pi_list (pv 5)) (blkOk_by (N := ["signs", "sign", "kinds", "ranks", "rank", "row", "aheads", "blocks", "weight", "tables", "some", "noughts"]) (sc := defScope s_kept_signs) (own := [("rank", 4)]) (by decide +kernel)) (fun _ _ _ _ _ => (pg_name (i := 4) sc_kept_signs.nd rfl (.inl rfl))) (fun _ _ _ _ _ => (pts_one (pt_cmpR op_eq (pe_op op_and1 (pe_op op_shr (pv 4) (pv 8)) pe_int) pe_int (nomark _)))) (fun _ _ _ _ _ => (pv 4)))
  (pss_one (ps_set (i := 5) sc_kept_signs.nd rfl (.inl rfl) (pe_op op_cat (pv 11) (pe_lc (own := [("rank", 4)]) (g := (gName 4)) (tt := (tTest (tOp rEq (tOp rAnd1 (tOp rShr (tVar 4) (tVar 8)) (tC (.int 1))) (tC (.int 1))))) rfl sc_kept_signs.nd (pi_list (pv 5)) (blkOk_by (N := ["signs", "sign", "kinds", "ranks", "rank", "row", "aheads", "blocks", "weight", "tables", "some", "noughts"]) (sc := defScope s_kept_signs) (own := [("rank", 4)]) (by decide +kernel)) (fun _ _ _ _ _ => (pg_name (i := 4) sc_kept_signs.nd rfl (.inl rfl))) (fun _ _ _ _ _ => (pts_one (pt_cmpR op_eq (pe_op op_and1 (pe_op op_shr (pv 4) (pv 8)) pe_int) pe_int (nomark _)))) (fun _ _ _ _ _ => (pv 4)))))))))))
  (pss_one (ps_ret (pe_tup (pa_cons (pe_tup (pa_cons (pe_callB call_lenK (by rfl) T.b_len (by decide +kernel) (pa_cons (pv 0) pa_nil)) (pa_cons (pe_callTy call_tupK (by rfl) T.b_tuple (by decide +kernel) (pa_cons (pv 2) pa_nil)) (pa_cons (pe_callTy call_tupK (by rfl) T.b_tuple (by decide +kernel) (pa_cons (pv 6) pa_nil)) pa_nil)))) (pa_cons (pv 7) pa_nil))))))))))))))

theorem ok_is_word (T : Tx P w K mg base) : Okf P w K mg base CX0 1 "is_word" ["text"] (sp_is_word K) := by
  obtain ⟨fd, FD⟩ := T.d_is_word
  refine ⟨⟨fd, FunD.look FD, FD.bindsN fun _ _ _ _ _ _ us hl => match us, hl with | [_], _ => rfl, ?_⟩, FD.kp, T.g_is_word⟩
  refine FunD.ok (CX := CX0) FD sc_is_word (len_is_word K) (fun cdv A outer s H vs Q E hr h => ⟨t_is_word K, PSs.nox ?_, rd_is_word K vs H Q E h⟩)
  exact (pss_cons (ps_for PassesOwn.never rfl (pi_str (pv 0)) (pg_name (i := 1) sc_is_word.nd rfl (.inl rfl))
  (pss_one (ps_if (pt_cmpR op_notInS (pv 1) (pe_gstr T.s_LETTERS (by rfl)) (by rfl))
  (pss_one (ps_ret pe_bl))
  pss_nil)))
  (pss_one (ps_ret (pe_cmpR op_le (pe_callB call_len_str (by rfl) T.b_len (by decide +kernel) (pa_cons (pv 0) pa_nil)) (pe_gint T.i_LONGEST (by rfl)) (nomark _)))))

theorem ok_shared_letters (T : Tx P w K mg base) : Okf P w K mg base CX0 1 "shared_letters" ["one", "other"] (sp_shared_letters K) := by
  obtain ⟨fd, FD⟩ := T.d_shared_letters
  refine ⟨⟨fd, FunD.look FD, FD.bindsN fun _ _ _ _ _ _ us hl => match us, hl with | [_, _], _ => rfl, ?_⟩, FD.kp, T.g_shared_letters⟩
  refine FunD.ok (CX := CX0) FD sc_shared_letters (len_shared_letters K) (fun cdv A outer s H vs Q E hr h => ⟨t_shared_letters K, PSs.nox ?_, rd_shared_letters K vs H Q E h⟩)
  exact (pss_cons (ps_set (i := 2) sc_shared_letters.nd rfl (.inl rfl) pe_int)
  (pss_cons (ps_for PassesOwn.never rfl (pi_zipS (by rfl) T.b_zip (pa_cons (pv 0) (pa_cons (pv 1) pa_nil))) (pg_tup rfl (pgs_cons (pg_name (i := 3) sc_shared_letters.nd rfl (.inl rfl)) (pgs_cons (pg_name (i := 4) sc_shared_letters.nd rfl (.inl rfl)) pgs_nil)))
  (pss_cons (ps_if (pt_cmpR op_ne (pv 3) (pv 4) (nomark _))
  (pss_one ps_break)
  pss_nil)
  (pss_one (ps_aug (i := 2) sc_shared_letters.nd rfl (.inl rfl) pe_int ip_add))))
  (pss_one (ps_ret (pv 2)))))

theorem ok_kept_store (T : Tx P w K mg base) (o_is_word : Okf P w K mg base CX0 1 "is_word" ["text"] (sp_is_word K)) (o_shared_letters : Okf P w K mg base CX0 1 "shared_letters" ["one", "other"] (sp_shared_letters K)) (o_kept_tree : Okf P w K mg base (L2.CX P w) 8 "kept_tree" ["depths"] (sp_kept_tree K)) (o_kept_signs : Okf P w K mg base (L2.CX P w) 6 "kept_signs" ["signs"] (sp_kept_signs K)) (o_kept_row : Okf P w K mg base (L2.CX P w) 4 "kept_row" ["bits"] (sp_kept_row K)) : Okf P w K mg base (L2.CX P w) 10 "kept_store" ["words"] (sp_kept_store K) := by
  obtain ⟨fd, FD⟩ := T.d_kept_store
  refine ⟨⟨fd, FunD.look FD, FD.bindsN fun _ _ _ _ _ _ us hl => match us, hl with | [_], _ => rfl, ?_⟩, FD.kp, T.g_kept_store⟩
  refine FunD.ok (CX := (L2.CX P w)) FD sc_kept_store (len_kept_store K) (fun cdv A outer s H vs Q E hr h => ⟨t_kept_store K E, ?_, rd_kept_store K vs H Q E h⟩)
  exact (pss_cons (ps_for (passes_of rfl) rfl (pi_list (pv 0)) (pg_name (i := 1) sc_kept_store.nd rfl (.inl rfl))
  (pss_one (ps_if (pt_not (pt_val (pe_callF o_is_word hr (by decide) (by rfl) pass0 (pa_cons (pv 1) pa_nil))))
  (pss_one (ps_rz T.x_NoWord (takes_of rfl rfl rfl rfl)))
  pss_nil)))
  (pss_cons (ps_if (pt_cmpR op_lt (pe_lenSetT (by rfl) T.b_len (by rfl) T.b_set (pv 0)) (pe_callB call_lenK (by rfl) T.b_len (by decide +kernel) (pa_cons (pv 0) pa_nil)) (nomark _))
  (pss_one (ps_rz T.x_Twice (takes_of rfl rfl rfl rfl)))
  pss_nil)
  (pss_cons (ps_set (i := 2) sc_kept_store.nd rfl (.inl rfl) (pe_lst (pa_cons pe_int pa_nil)))
  (pss_cons (ps_set (i := 3) sc_kept_store.nd rfl (.inl rfl) (pe_lst pa_nil))
  (pss_cons (ps_set (i := 4) sc_kept_store.nd rfl (.inl rfl) (pe_lst (pa_cons pe_int pa_nil)))
  (pss_cons (ps_set (i := 5) sc_kept_store.nd rfl (.inl rfl) pe_str)
  (pss_cons (ps_for (passes_of rfl) rfl (pi_list (pe_callB cr_sortedSA (by rfl) T.b_sorted (by decide +kernel) (pa_cons (pv 0) pa_nil))) (pg_name (i := 1) sc_kept_store.nd rfl (.inl rfl))
  (pss_cons (ps_for (passes_of rfl) rfl (pi_range2 (by rfl) T.b_range (pa_cons (pe_callF o_shared_letters hr (by decide) (by rfl) pass0 (pa_cons (pv 5) (pa_cons (pv 1) pa_nil))) (pa_cons (pe_callB call_len_str (by rfl) T.b_len (by decide +kernel) (pa_cons (pv 1) pa_nil)) pa_nil))) (pg_name (i := 6) sc_kept_store.nd rfl (.inl rfl))
  (pss_cons (ps_expr (pe_bm PySem.F.plainAttrs_list PySem.F.slot_list_append PySem.F.type_list_append mt_append (pv 2) (pa_cons (pe_op op_add (pv 6) pe_int) pa_nil)))
  (pss_cons (ps_expr (pe_bm PySem.F.plainAttrs_list PySem.F.slot_list_append PySem.F.type_list_append mt_append (pv 3) (pa_cons (pe_findS (pe_gstr T.s_LETTERS (by rfl)) (pe_ix ix_str (pv 1) (pv 6) (fun _ _ => rfl))) pa_nil)))
  (pss_one (ps_expr (pe_bm PySem.F.plainAttrs_list PySem.F.slot_list_append PySem.F.type_list_append mt_append (pv 4) (pa_cons pe_int pa_nil)))))))
  (pss_cons (ps_asg pe_int (pg_sub (pv 4) (pe_un un_neg pe_int) set_list))
  (pss_one (ps_set (i := 5) sc_kept_store.nd rfl (.inl rfl) (pv 1))))))
  (pss_cons (ps_asg (pe_callF o_kept_tree hr (by decide) (by rfl) (passX (takes_of rfl rfl rfl rfl)) (pa_cons (pv 2) pa_nil)) (pg_tup rfl (pgs_cons (pg_name (i := 7) sc_kept_store.nd rfl (.inl rfl)) (pgs_cons (pg_name (i := 8) sc_kept_store.nd rfl (.inl rfl)) pgs_nil))))
  (pss_cons (ps_asg (pe_callF o_kept_signs hr (by decide) (by rfl) (passX (takes_of rfl rfl rfl rfl)) (pa_cons (pv 3) pa_nil)) (pg_tup rfl (pgs_cons (pg_name (i := 9) sc_kept_store.nd rfl (.inl rfl)) (pgs_cons (pg_name (i := 10) sc_kept_store.nd rfl (.inl rfl)) pgs_nil))))
  (pss_cons (ps_asg (pe_callF o_kept_row hr (by decide) (by rfl) (passX (takes_of rfl rfl rfl rfl)) (pa_cons (pv 4) pa_nil)) (pg_tup rfl (pgs_cons (pg_name (i := 11) sc_kept_store.nd rfl (.inl rfl)) (pgs_cons (pg_name (i := 12) sc_kept_store.nd rfl (.inl rfl)) pgs_nil))))
  (pss_one (ps_ret (pe_tup (pa_cons (pe_tup (pa_cons (pv 7) (pa_cons (pv 9) (pa_cons (pv 11) pa_nil)))) (pa_cons (pe_op op_cat (pe_op op_cat (pv 8) (pv 10)) (pv 12)) pa_nil)))))))))))))))

theorem ok_law_cell_at (T : Tx P w K mg base) : Okf P w K mg base CX0 1 "_law_cell_at" ["_law_script", "_law_k"] (sp_law_cell_at K) := by
  obtain ⟨fd, FD⟩ := T.d_law_cell_at
  refine ⟨⟨fd, FunD.look FD, FD.bindsN fun _ _ _ _ _ _ us hl => match us, hl with | [_, _], _ => rfl, ?_⟩, FD.kp, T.g_law_cell_at⟩
  refine FunD.ok (CX := CX0) FD sc_law_cell_at (len_law_cell_at K) (fun cdv A outer s H vs Q E hr h => ⟨t_law_cell_at K, PSs.nox ?_, rd_law_cell_at K vs H Q E h⟩)
  exact (pss_cons (ps_if (pt_cmpR op_lt (pv 1) (pe_callB call_lenK (by rfl) T.b_len (by decide +kernel) (pa_cons (pv 0) pa_nil)) (nomark _))
  (pss_one (ps_ret (pe_ix ix_list (pv 0) (pv 1) (fun _ _ => rfl))))
  pss_nil)
  (pss_one (ps_ret pe_int)))

theorem ok_law_whole (T : Tx P w K mg base) : Okf P w K mg base CX0 1 "_law_whole" ["_law_found"] (sp_law_whole K) := by
  obtain ⟨fd, FD⟩ := T.d_law_whole
  refine ⟨⟨fd, FunD.look FD, FD.bindsN fun _ _ _ _ _ _ us hl => match us, hl with | [_], _ => rfl, ?_⟩, FD.kp, T.g_law_whole⟩
  refine FunD.ok (CX := CX0) FD sc_law_whole (len_law_whole K) (fun cdv A outer s H vs Q E hr h => ⟨t_law_whole K, PSs.nox ?_, rd_law_whole K vs H Q E h⟩)
  exact (pss_one (ps_ret (pe_and (pe_callB call_isB (by rfl) T.b_isinstance (by decide +kernel) (pa_cons (pv 0) (pa_cons (pe_bltn (v := .ty "int") (by rfl) T.b_int (by decide +kernel) rfl) pa_nil))) (pe_one (pe_not (pe_callB call_isB (by rfl) T.b_isinstance (by decide +kernel) (pa_cons (pv 0) (pa_cons (pe_bltn (v := .ty "bool") (by rfl) T.b_bool (by decide +kernel) rfl) pa_nil))))))))

theorem ok_law_spelt (T : Tx P w K mg base) : Okf P w K mg base CX0 1 "_law_spelt" ["_law_number", "_law_kinds", "_law_many"] (sp_law_spelt K) := by
  obtain ⟨fd, FD⟩ := T.d_law_spelt
  refine ⟨⟨fd, FunD.look FD, FD.bindsN fun _ _ _ _ _ _ us hl => match us, hl with | [_, _, _], _ => rfl, ?_⟩, FD.kp, T.g_law_spelt⟩
  refine FunD.ok (CX := CX0) FD sc_law_spelt (len_law_spelt K) (fun cdv A outer s H vs Q E hr h => ⟨t_law_spelt K, PSs.nox ?_, rd_law_spelt K vs H Q E h⟩)
  exact (pss_cons (ps_set (i := 3) sc_law_spelt.nd rfl (.inl rfl) pe_str)
  (pss_cons (ps_for PassesOwn.never rfl (pi_range1 (by rfl) T.b_range (pa_cons (pv 2) pa_nil)) (pg_name (i := 4) sc_law_spelt.nd rfl (.inl rfl))
  (pss_cons (ps_set (i := 0) sc_law_spelt.nd rfl (.inl rfl) (pe_op op_mod (pe_op op_add (pe_op op_add (pe_op op_mul (pv 0) (pv 0)) (pe_op op_mul pe_int (pv 0))) (pv 4)) pe_int))
  (pss_one (ps_set (i := 3) sc_law_spelt.nd rfl (.inl rfl) (pe_op op_add_str (pv 3) (pe_ix ix_str pe_str (pe_op op_mod (pe_op op_fdiv (pv 0) pe_int) (pv 1)) (fun _ _ => rfl)))))))
  (pss_one (ps_ret (pv 3)))))

theorem ok_law_words (T : Tx P w K mg base) (o_law_spelt : Okf P w K mg base CX0 1 "_law_spelt" ["_law_number", "_law_kinds", "_law_many"] (sp_law_spelt K)) : Okf P w K mg base CX0 2 "_law_words" ["_law_script"] (sp_law_words K) := by
  obtain ⟨fd, FD⟩ := T.d_law_words
  refine ⟨⟨fd, FunD.look FD, FD.bindsN fun _ _ _ _ _ _ us hl => match us, hl with | [_], _ => rfl, ?_⟩, FD.kp, T.g_law_words⟩
  refine FunD.ok (CX := CX0) FD sc_law_words (len_law_words K) (fun cdv A outer s H vs Q E hr h => ⟨t_law_words K, PSs.nox ?_, rd_law_words K vs H Q E h⟩)
  exact (pss_cons (ps_set (i := 1) sc_law_words.nd rfl (.inl rfl) (pe_lst pa_nil))
  (pss_cons (ps_for PassesOwn.never rfl (pi_list (pe_slice sl_list (pv 0) (po_some pe_int) (po_some pe_int))) (pg_name (i := 2) sc_law_words.nd rfl (.inl rfl))
  (pss_cons (ps_set (i := 3) sc_law_words.nd rfl (.inl rfl) (pe_op op_mod (pe_op op_mul (pv 2) pe_int) pe_int))
  (pss_cons (ps_set (i := 4) sc_law_words.nd rfl (.inl rfl) (pe_ix ix_list (pe_lst (pa_cons (pe_op op_mod (pe_op op_fdiv (pv 3) pe_int) pe_int) (pa_cons (pe_op op_mod (pe_op op_fdiv (pv 3) pe_int) pe_int) pa_nil))) (pe_callTy call_int1 (by rfl) T.b_int (by decide +kernel) (pa_cons (pe_cmpR op_eq (pe_op op_mod (pv 3) pe_int) pe_int (nomark _)) pa_nil)) (fun _ _ => rfl)))
  (pss_cons (ps_set (i := 5) sc_law_words.nd rfl (.inl rfl) (pe_callF o_law_spelt hr (by decide) (by rfl) pass0 (pa_cons (pv 3) (pa_cons (pe_op op_add pe_int (pe_op op_mod (pe_op op_fdiv (pv 3) pe_int) pe_int)) (pa_cons (pv 4) pa_nil)))))
  (pss_one (ps_if (pt_cmpR (op_notInD (room65 hr)) (pv 5) (pv 1) (by rfl))
  (pss_one (ps_expr (pe_bm PySem.F.plainAttrs_list PySem.F.slot_list_append PySem.F.type_list_append mt_append (pv 1) (pa_cons (pv 5) pa_nil))))
  pss_nil))))))
  (pss_one (ps_ret (pv 1)))))

theorem ok_law_many_words (T : Tx P w K mg base) : Okf P w K mg base CX0 1 "_law_many_words" ["_law_more"] (sp_law_many_words K) := by
  obtain ⟨fd, FD⟩ := T.d_law_many_words
  refine ⟨⟨fd, FunD.look FD, FD.bindsN fun _ _ _ _ _ _ us hl => match us, hl with | [_], _ => rfl, ?_⟩, FD.kp, T.g_law_many_words⟩
  refine FunD.ok (CX := CX0) FD sc_law_many_words (len_law_many_words K) (fun cdv A outer s H vs Q E hr h => ⟨t_law_many_words K, PSs.nox ?_, rd_law_many_words K vs H Q E h⟩)
  exact (pss_cons (ps_set (i := 1) sc_law_many_words.nd rfl (.inl rfl) (pe_lst (pa_cons (pe_op op_repS pe_str (pe_op op_add pe_int (pv 0))) pa_nil)))
  (pss_cons (ps_for PassesOwn.never rfl (pi_range1 (by rfl) T.b_range (pa_cons pe_int pa_nil)) (pg_name (i := 2) sc_law_many_words.nd rfl (.inl rfl))
  (pss_cons (ps_set (i := 3) sc_law_many_words.nd rfl (.inl rfl) pe_str)
  (pss_cons (ps_for PassesOwn.never rfl (pi_list (pe_lst (pa_cons pe_int (pa_cons pe_int (pa_cons pe_int (pa_cons pe_int (pa_cons pe_int (pa_cons pe_int pa_nil)))))))) (pg_name (i := 4) sc_law_many_words.nd rfl (.inl rfl))
  (pss_one (ps_set (i := 3) sc_law_many_words.nd rfl (.inl rfl) (pe_op op_add_str (pv 3) (pe_ix ix_str pe_str (pe_op op_mod (pe_op op_fdivW (pv 2) (pv 4)) pe_int) (fun _ _ => rfl))))))
  (pss_one (ps_expr (pe_bm PySem.F.plainAttrs_list PySem.F.slot_list_append PySem.F.type_list_append mt_append (pv 1) (pa_cons (pe_op op_add_str (pv 3) (pe_op op_repS pe_str pe_int)) pa_nil)))))))
  (pss_one (ps_ret (pv 1)))))

theorem ok_law_others (T : Tx P w K mg base) : Okn P w K mg base 1 "_law_others" ["_law_e"] (sp_law_others K) := by
  obtain ⟨fd, FD⟩ := T.d_law_others
  refine ⟨⟨fd, FunD.look FD, FD.bindsN fun _ _ _ _ _ _ us hl => match us, hl with | [_], _ => rfl, ?_⟩, FD.kp, T.g_law_others⟩
  refine FunD.okN FD sc_law_others (len_law_others K) (fun cdv A outer s H vs Q hr h => ⟨t_law_others K, ?_, rd_law_others K T.fx vs H Q E0 h⟩)
  exact (pss_cons (ps_if (pt_val (pe_callB call_isH (by rfl) T.b_isinstance (by decide +kernel) (pa_cons (pv 0) (pa_cons (pe_tup (pa_cons (pe_glob (by rfl) T.g_NoBit rfl) (pa_cons (pe_glob (by rfl) T.g_NoNode rfl) (pa_cons (pe_glob (by rfl) T.g_NoOctets rfl) pa_nil)))) pa_nil))))
  (pss_one (ps_ret pe_bl))
  pss_nil)
  (pss_one (ps_ret (pe_callB call_isH (by rfl) T.b_isinstance (by decide +kernel) (pa_cons (pv 0) (pa_cons (pe_tup (pa_cons (pe_glob (by rfl) T.g_NoPlace rfl) (pa_cons (pe_glob (by rfl) T.g_NoSign rfl) (pa_cons (pe_glob (by rfl) T.g_NoTree rfl) pa_nil)))) pa_nil))))))

theorem ok_law_told (T : Tx P w K mg base) (o_kept_store : Okf P w K mg base (L2.CX P w) 10 "kept_store" ["words"] (sp_kept_store K)) (o_law_others : Okn P w K mg base  1 "_law_others" ["_law_e"] (sp_law_others K)) (o_law_whole : Okf P w K mg base CX0 1 "_law_whole" ["_law_found"] (sp_law_whole K)) : Okf P w K mg base CX0 11 "_law_told" ["_law_words_here"] (sp_law_told K) := by
  obtain ⟨fd, FD⟩ := T.d_law_told
  refine ⟨⟨fd, FunD.look FD, FD.bindsN fun _ _ _ _ _ _ us hl => match us, hl with | [_], _ => rfl, ?_⟩, FD.kp, T.g_law_told⟩
  refine FunD.ok (CX := CX0) FD sc_law_told (len_law_told K) (fun cdv A outer s H vs Q E hr h => ⟨t_law_told K, PSs.nox ?_, rd_law_told K T.fx vs H Q E h⟩)
  exact (pss_cons (ps_set (i := 1) sc_law_told.nd rfl (.inl rfl) pe_non)
  (pss_cons (ps_set (i := 2) sc_law_told.nd rfl (.inl rfl) (pe_lst (pa_cons pe_int pa_nil)))
  (pss_cons (ps_tryManyA (tb := fun W => (tAsg (tCallS (sp_kept_store K) (WE W) (tCons (tVar 0) tNil)) (gName 1))) (l := [(.ref (He.ga K "NoWord"), 3, fun a cls d => (tAsg (tLst (tCons (tC (.int 1)) (tCons (tCB (rIsX K cls d a) (tCons (tVar 3) (tCons (tC (.ref (He.ga K "WoodError"))) tNil))) (tCons (tCB (rIsXT K cls d a) (tCons (tVar 3) (tCons (tTup (tCons (tC (.ref (He.ga K "Twice"))) (tCons (tC (.ref (He.ga K "TooMany"))) tNil))) tNil))) (tCons (tCallH (sp_law_others K) a cls d (tCons (tVar 3) tNil)) tNil))))) (gName 2))), (.ref (He.ga K "Twice"), 3, fun a cls d => (tAsg (tLst (tCons (tC (.int 2)) (tCons (tCB (rIsX K cls d a) (tCons (tVar 3) (tCons (tC (.ref (He.ga K "WoodError"))) tNil))) (tCons (tCB (rIsXT K cls d a) (tCons (tVar 3) (tCons (tTup (tCons (tC (.ref (He.ga K "NoWord"))) (tCons (tC (.ref (He.ga K "TooMany"))) tNil))) tNil))) (tCons (tCallH (sp_law_others K) a cls d (tCons (tVar 3) tNil)) tNil))))) (gName 2))), (.ref (He.ga K "TooMany"), 3, fun a cls d => (tAsg (tLst (tCons (tC (.int 3)) (tCons (tCB (rIsX K cls d a) (tCons (tVar 3) (tCons (tC (.ref (He.ga K "WoodError"))) tNil))) (tCons (tCB (rIsXT K cls d a) (tCons (tVar 3) (tCons (tTup (tCons (tC (.ref (He.ga K "NoWord"))) (tCons (tC (.ref (He.ga K "Twice"))) tNil))) tNil))) (tCons (tCallH (sp_law_others K) a cls d (tCons (tVar 3) tNil)) tNil))))) (gName 2)))]) (Wout := (fun _ _ _ _ => False)) rfl rfl sc_law_told.nd takes0 (fun W pn xe tk po => (pss_one (ps_set (i := 1) sc_law_told.nd rfl (.inl rfl) (pe_callFS o_kept_store hr (by decide) (by rfl) tk (pa_cons (pv 0) pa_nil))))) (HdsA.cons (i := 3) (ts := fun a cls d => (tAsg (tLst (tCons (tC (.int 1)) (tCons (tCB (rIsX K cls d a) (tCons (tVar 3) (tCons (tC (.ref (He.ga K "WoodError"))) tNil))) (tCons (tCB (rIsXT K cls d a) (tCons (tVar 3) (tCons (tTup (tCons (tC (.ref (He.ga K "Twice"))) (tCons (tC (.ref (He.ga K "TooMany"))) tNil))) tNil))) (tCons (tCallH (sp_law_others K) a cls d (tCons (tVar 3) tNil)) tNil))))) (gName 2))) rfl rfl ⟨rfl, by decide, .inl T.g_NoWord⟩ (fun a oe cls d pn hz hf hbn => (pss_one (ps_set (i := 2) sc_law_told.nd rfl (.inl rfl) (pe_lst (pa_cons pe_int (pa_cons (pe_callB (call_isX hz hf) (by rfl) T.b_isinstance (by decide +kernel) (pa_cons (pv 3) (pa_cons (pe_glob (by rfl) T.g_WoodError rfl) pa_nil))) (pa_cons (pe_callB (call_isXT hz hf) (by rfl) T.b_isinstance (by decide +kernel) (pa_cons (pv 3) (pa_cons (pe_tup (pa_cons (pe_glob (by rfl) T.g_Twice rfl) (pa_cons (pe_glob (by rfl) T.g_TooMany rfl) pa_nil))) pa_nil))) (pa_cons (pe_callH (j := 10) List.mem_cons_self hz hf hbn o_law_others (RoomN.of hr _) (by decide) (by rfl) (pa_cons (pv 3) pa_nil)) pa_nil)))))))) (HdsA.cons (i := 3) (ts := fun a cls d => (tAsg (tLst (tCons (tC (.int 2)) (tCons (tCB (rIsX K cls d a) (tCons (tVar 3) (tCons (tC (.ref (He.ga K "WoodError"))) tNil))) (tCons (tCB (rIsXT K cls d a) (tCons (tVar 3) (tCons (tTup (tCons (tC (.ref (He.ga K "NoWord"))) (tCons (tC (.ref (He.ga K "TooMany"))) tNil))) tNil))) (tCons (tCallH (sp_law_others K) a cls d (tCons (tVar 3) tNil)) tNil))))) (gName 2))) rfl rfl ⟨rfl, by decide, .inl T.g_Twice⟩ (fun a oe cls d pn hz hf hbn => (pss_one (ps_set (i := 2) sc_law_told.nd rfl (.inl rfl) (pe_lst (pa_cons pe_int (pa_cons (pe_callB (call_isX hz hf) (by rfl) T.b_isinstance (by decide +kernel) (pa_cons (pv 3) (pa_cons (pe_glob (by rfl) T.g_WoodError rfl) pa_nil))) (pa_cons (pe_callB (call_isXT hz hf) (by rfl) T.b_isinstance (by decide +kernel) (pa_cons (pv 3) (pa_cons (pe_tup (pa_cons (pe_glob (by rfl) T.g_NoWord rfl) (pa_cons (pe_glob (by rfl) T.g_TooMany rfl) pa_nil))) pa_nil))) (pa_cons (pe_callH (j := 10) List.mem_cons_self hz hf hbn o_law_others (RoomN.of hr _) (by decide) (by rfl) (pa_cons (pv 3) pa_nil)) pa_nil)))))))) (HdsA.cons (i := 3) (ts := fun a cls d => (tAsg (tLst (tCons (tC (.int 3)) (tCons (tCB (rIsX K cls d a) (tCons (tVar 3) (tCons (tC (.ref (He.ga K "WoodError"))) tNil))) (tCons (tCB (rIsXT K cls d a) (tCons (tVar 3) (tCons (tTup (tCons (tC (.ref (He.ga K "NoWord"))) (tCons (tC (.ref (He.ga K "Twice"))) tNil))) tNil))) (tCons (tCallH (sp_law_others K) a cls d (tCons (tVar 3) tNil)) tNil))))) (gName 2))) rfl rfl ⟨rfl, by decide, .inl T.g_TooMany⟩ (fun a oe cls d pn hz hf hbn => (pss_one (ps_set (i := 2) sc_law_told.nd rfl (.inl rfl) (pe_lst (pa_cons pe_int (pa_cons (pe_callB (call_isX hz hf) (by rfl) T.b_isinstance (by decide +kernel) (pa_cons (pv 3) (pa_cons (pe_glob (by rfl) T.g_WoodError rfl) pa_nil))) (pa_cons (pe_callB (call_isXT hz hf) (by rfl) T.b_isinstance (by decide +kernel) (pa_cons (pv 3) (pa_cons (pe_tup (pa_cons (pe_glob (by rfl) T.g_NoWord rfl) (pa_cons (pe_glob (by rfl) T.g_Twice rfl) pa_nil))) pa_nil))) (pa_cons (pe_callH (j := 10) List.mem_cons_self hz hf hbn o_law_others (RoomN.of hr _) (by decide) (by rfl) (pa_cons (pv 3) pa_nil)) pa_nil)))))))) HdsA.nil))))
  (pss_cons (ps_if (pt_cmpR (op_eqD hr.units) (pv 2) (pe_lst (pa_cons pe_int pa_nil)) (nomark _))
  (pss_cons (ps_set (i := 4) sc_law_told.nd rfl (.inl rfl) (pe_ix ix_tup (pe_ix ix_tup (pe_ix ix_tup (pe_ix ix_tup (pv 1) pe_int (fun _ _ => rfl)) pe_int (fun _ _ => rfl)) pe_int (fun _ _ => rfl)) (pe_un un_neg pe_int) (fun _ _ => rfl)))
  (pss_one (ps_ret (pe_lst (pa_cons pe_int (pa_cons (pe_and (pe_callF o_law_whole hr (by decide) (by rfl) pass0 (pa_cons (pv 4) pa_nil)) (pe_one (pe_cmpR op_eq (pv 4) (pe_callB call_lenK (by rfl) T.b_len (by decide +kernel) (pa_cons (pv 0) pa_nil)) (nomark _)))) (pa_cons pe_bl (pa_cons pe_bl pa_nil))))))))
  pss_nil)
  (pss_one (ps_ret (pv 2)))))))

theorem ok_law_spoilt (T : Tx P w K mg base) : Okf P w K mg base CX0 1 "_law_spoilt" ["_law_word", "_law_cell"] (sp_law_spoilt K) := by
  obtain ⟨fd, FD⟩ := T.d_law_spoilt
  refine ⟨⟨fd, FunD.look FD, FD.bindsN fun _ _ _ _ _ _ us hl => match us, hl with | [_, _], _ => rfl, ?_⟩, FD.kp, T.g_law_spoilt⟩
  refine FunD.ok (CX := CX0) FD sc_law_spoilt (len_law_spoilt K) (fun cdv A outer s H vs Q E hr h => ⟨t_law_spoilt K, PSs.nox ?_, rd_law_spoilt K vs H Q E h⟩)
  exact (pss_cons (ps_set (i := 2) sc_law_spoilt.nd rfl (.inl rfl) (pe_op op_mod (pv 1) pe_int))
  (pss_cons (ps_if (pt_cmpR op_lt (pv 2) pe_int (nomark _))
  (pss_one (ps_ret (pe_op op_add_str (pv 0) (pe_op op_repS pe_str (pe_op op_add (pe_op op_sub pe_int (pe_callB call_len_str (by rfl) T.b_len (by decide +kernel) (pa_cons (pv 0) pa_nil))) (pe_op op_mul (pv 2) (pe_op op_mod (pe_op op_fdiv (pv 1) pe_int) pe_int)))))))
  pss_nil)
  (pss_cons (ps_set (i := 3) sc_law_spoilt.nd rfl (.inl rfl) (pe_callB (call_min2K rfl) (by rfl) T.b_min (by decide +kernel) (pa_cons (pe_op op_mod (pe_op op_fdiv (pv 1) pe_int) (pe_op op_add (pe_callB call_len_str (by rfl) T.b_len (by decide +kernel) (pa_cons (pv 0) pa_nil)) pe_int)) (pa_cons pe_int pa_nil))))
  (pss_one (ps_ret (pe_op op_add_str (pe_op op_add_str (pe_slice sl_str (pv 0) po_none (po_some (pv 3))) (pe_ix ix_str pe_str (pe_op op_sub (pv 2) pe_int) (fun _ _ => rfl))) (pe_slice sl_str (pv 0) (po_some (pe_op op_add (pv 3) pe_int)) po_none)))))))

theorem ok_law (T : Tx P w K mg base) (o_law_words : Okf P w K mg base CX0 2 "_law_words" ["_law_script"] (sp_law_words K)) (o_law_cell_at : Okf P w K mg base CX0 1 "_law_cell_at" ["_law_script", "_law_k"] (sp_law_cell_at K)) (o_law_many_words : Okf P w K mg base CX0 1 "_law_many_words" ["_law_more"] (sp_law_many_words K)) (o_law_spoilt : Okf P w K mg base CX0 1 "_law_spoilt" ["_law_word", "_law_cell"] (sp_law_spoilt K)) (o_law_told : Okf P w K mg base CX0 11 "_law_told" ["_law_words_here"] (sp_law_told K)) : Okf P w K mg base CX0 12 "law" ["_law_script"] (sp_law K) := by
  obtain ⟨fd, FD⟩ := T.d_law
  refine ⟨⟨fd, FunD.look FD, FD.bindsN fun _ _ _ _ _ _ us hl => match us, hl with | [_], _ => rfl, ?_⟩, FD.kp, T.g_law⟩
  refine FunD.ok (CX := CX0) FD sc_law (len_law K) (fun cdv A outer s H vs Q E hr h => ⟨t_law K, PSs.nox ?_, rd_law K T.fx vs H Q E h⟩)
  exact (pss_cons (ps_set (i := 1) sc_law.nd rfl (.inl rfl) (pe_callF o_law_words hr (by decide) (by rfl) pass0 (pa_cons (pv 0) pa_nil)))
  (pss_cons (ps_set (i := 2) sc_law.nd rfl (.inl rfl) (pe_callF o_law_cell_at hr (by decide) (by rfl) pass0 (pa_cons (pv 0) (pa_cons pe_int pa_nil))))
  (pss_cons (ps_set (i := 3) sc_law.nd rfl (.inl rfl) pe_bl)
  (Evl.pss_cut (ps_if (pt_cmpR op_eq (pe_op op_mod (pv 2) pe_int) pe_int (nomark _))
  (pss_cons (ps_set (i := 1) sc_law.nd rfl (.inl rfl) (pe_callF o_law_many_words hr (by decide) (by rfl) pass0 (pa_cons (pe_op op_mod (pe_op op_fdiv (pv 2) pe_int) pe_int) pa_nil)))
  (pss_one (ps_set (i := 3) sc_law.nd rfl (.inl rfl) (pe_cmpR op_gt (pe_op op_mod (pe_op op_fdiv (pv 2) pe_int) pe_int) pe_int (nomark _)))))
  pss_nil)
  (pss_cons (ps_set (i := 4) sc_law.nd rfl (.inl rfl) (pe_op op_mod (pe_callF o_law_cell_at hr (by decide) (by rfl) pass0 (pa_cons (pv 0) (pa_cons pe_int pa_nil))) pe_int))
  (pss_cons (ps_set (i := 5) sc_law.nd rfl (.inl rfl) (pe_callTy call_listK (by rfl) T.b_list (by decide +kernel) (pa_cons (pv 1) pa_nil)))
  (Evl.pss_cut (ps_set (i := 6) sc_law.nd rfl (.inl rfl) (pe_and (pe_cmpR op_gt (pe_callB call_lenK (by rfl) T.b_len (by decide +kernel) (pa_cons (pv 1) pa_nil)) pe_int (nomark _)) (pe_one (pe_cmpR op_in_seq (pv 4) (pe_tup (pa_cons pe_int (pa_cons pe_int pa_nil))) (by rfl)))))
  (Evl.pss_cut (ps_set (i := 7) sc_law.nd rfl (.inl rfl) (pe_and (pe_cmpR op_gt (pe_callB call_lenK (by rfl) T.b_len (by decide +kernel) (pa_cons (pv 1) pa_nil)) pe_int (nomark _)) (pe_one (pe_cmpR op_in_seq (pv 4) (pe_tup (pa_cons pe_int (pa_cons pe_int pa_nil))) (by rfl)))))
  (Evl.pss_cut (ps_if (pt_val (pv 6))
  (pss_cons (ps_set (i := 8) sc_law.nd rfl (.inl rfl) (pe_op op_mod (pe_callF o_law_cell_at hr (by decide) (by rfl) pass0 (pa_cons (pv 0) (pa_cons pe_int pa_nil))) (pe_callB call_lenK (by rfl) T.b_len (by decide +kernel) (pa_cons (pv 1) pa_nil))))
  (pss_one (ps_asg (pe_callF o_law_spoilt hr (by decide) (by rfl) pass0 (pa_cons (pe_ix ix_list (pv 5) (pv 8) (fun _ _ => rfl)) (pa_cons (pe_callF o_law_cell_at hr (by decide) (by rfl) pass0 (pa_cons (pv 0) (pa_cons pe_int pa_nil))) pa_nil))) (pg_sub (pv 5) (pv 8) set_list))))
  pss_nil)
  (Evl.pss_cut (ps_if (pt_val (pv 7))
  (pss_cons (ps_set (i := 9) sc_law.nd rfl (.inl rfl) (pe_ix ix_list (pv 1) (pe_op op_mod (pe_callF o_law_cell_at hr (by decide) (by rfl) pass0 (pa_cons (pv 0) (pa_cons pe_int pa_nil))) (pe_callB call_lenK (by rfl) T.b_len (by decide +kernel) (pa_cons (pv 1) pa_nil))) (fun _ _ => rfl)))
  (pss_cons (ps_set (i := 8) sc_law.nd rfl (.inl rfl) (pe_op op_mod (pe_op op_fdiv (pe_callF o_law_cell_at hr (by decide) (by rfl) pass0 (pa_cons (pv 0) (pa_cons pe_int pa_nil))) pe_int) (pe_op op_add (pe_callB call_lenK (by rfl) T.b_len (by decide +kernel) (pa_cons (pv 1) pa_nil)) pe_int)))
  (pss_cons (ps_expr (pe_bm PySem.F.plainAttrs_list PySem.F.slot_list_insert PySem.F.type_list_insert mt_insertK (pv 5) (pa_cons (pv 8) (pa_cons (pv 9) pa_nil))))
  (pss_one (ps_if (pt_cmpR (op_notInD (room65 hr)) (pv 9) (pe_op op_cat (pe_slice sl_list (pv 5) po_none (po_some (pv 8))) (pe_slice sl_list (pv 5) (po_some (pe_op op_add (pv 8) pe_int)) po_none)) (by rfl))
  (pss_one (ps_expr (pe_bm PySem.F.plainAttrs_list PySem.F.slot_list_append PySem.F.type_list_append mt_append (pv 5) (pa_cons (pv 9) pa_nil))))
  pss_nil)))))
  pss_nil)
  (pss_cons (ps_set (i := 10) sc_law.nd rfl (.inl rfl) (pe_lst (pa_cons pe_int (pa_cons pe_bl (pa_cons pe_bl (pa_cons pe_bl pa_nil))))))
  (Evl.pss_cut (ps_if (pt_val (pv 3))
  (pss_one (ps_set (i := 10) sc_law.nd rfl (.inl rfl) (pe_lst (pa_cons pe_int (pa_cons pe_bl (pa_cons pe_bl (pa_cons pe_bl pa_nil)))))))
  pss_nil)
  (pss_cons (ps_set (i := 11) sc_law.nd rfl (.inl rfl) (pv 10))
  (Evl.pss_cut (ps_if (pt_val (pv 6))
  (pss_one (ps_set (i := 11) sc_law.nd rfl (.inl rfl) (pe_lst (pa_cons pe_int (pa_cons pe_bl (pa_cons pe_bl (pa_cons pe_bl pa_nil)))))))
  (pss_one (ps_if (pt_val (pv 7))
  (pss_one (ps_set (i := 11) sc_law.nd rfl (.inl rfl) (pe_lst (pa_cons pe_int (pa_cons pe_bl (pa_cons pe_bl (pa_cons pe_bl pa_nil)))))))
  pss_nil)))
  (pss_cons (ps_set (i := 12) sc_law.nd rfl (.inl rfl) (pe_callTy call_listK (by rfl) T.b_list (by decide +kernel) (pa_cons (pv 5) pa_nil)))
  (pss_cons (ps_if (PW.pt (pw_or (pt_cmpR (op_neD hr.units) (pe_callF o_law_told hr (by decide) (by rfl) pass0 (pa_cons (pv 12) pa_nil)) (pv 11) (nomark _)) (pw_or1 (pt_cmpR (op_neD hr.units) (pv 12) (pv 5) (nomark _)))))
  (pss_one (ps_ret pe_bl))
  pss_nil)
  (pss_one (ps_ret (pe_or (pe_not (pe_or (pv 6) (pe_one (pv 7)))) (pe_one (pe_cmpR (op_eqD hr.units) (pe_callF o_law_told hr (by decide) (by rfl) pass0 (pa_cons (pe_callTy call_listK (by rfl) T.b_list (by decide +kernel) (pa_cons (pv 1) pa_nil)) pa_nil)) (pv 10) (nomark _))))))))))))))))))))))
end
def dd_packed : He.DefD := ⟨("packed", none), "packed", "packed", defArgs s_packed, defBody s_packed, defScope s_packed, [], []⟩
def dd_ones_in : He.DefD := ⟨("ones_in", none), "ones_in", "ones_in", defArgs s_ones_in, defBody s_ones_in, defScope s_ones_in, [], []⟩
def dd_low_in : He.DefD := ⟨("low_in", none), "low_in", "low_in", defArgs s_low_in, defBody s_low_in, defScope s_low_in, [], []⟩
def dd_ones_table : He.DefD := ⟨("ones_table", none), "ones_table", "ones_table", defArgs s_ones_table, defBody s_ones_table, defScope s_ones_table, [], []⟩
def dd_kept_row : He.DefD := ⟨("kept_row", none), "kept_row", "kept_row", defArgs s_kept_row, defBody s_kept_row, defScope s_kept_row, [], []⟩
def dd_size_of : He.DefD := ⟨("size_of", none), "size_of", "size_of", defArgs s_size_of, defBody s_size_of, defScope s_size_of, [], []⟩
def dd_lesser_of : He.DefD := ⟨("lesser_of", none), "lesser_of", "lesser_of", defArgs s_lesser_of, defBody s_lesser_of, defScope s_lesser_of, [], []⟩
def dd_heap_of : He.DefD := ⟨("heap_of", none), "heap_of", "heap_of", defArgs s_heap_of, defBody s_heap_of, defScope s_heap_of, [], []⟩
def dd_is_tree : He.DefD := ⟨("is_tree", none), "is_tree", "is_tree", defArgs s_is_tree, defBody s_is_tree, defScope s_is_tree, [], []⟩
def dd_begin_height : He.DefD := ⟨("begin_height", none), "begin_height", "begin_height", defArgs s_begin_height, defBody s_begin_height, defScope s_begin_height, [], []⟩
def dd_kept_brackets : He.DefD := ⟨("kept_brackets", none), "kept_brackets", "kept_brackets", defArgs s_kept_brackets, defBody s_kept_brackets, defScope s_kept_brackets, [], []⟩
def dd_brackets_of : He.DefD := ⟨("brackets_of", none), "brackets_of", "brackets_of", defArgs s_brackets_of, defBody s_brackets_of, defScope s_brackets_of, [], []⟩
def dd_kept_tree : He.DefD := ⟨("kept_tree", none), "kept_tree", "kept_tree", defArgs s_kept_tree, defBody s_kept_tree, defScope s_kept_tree, [], []⟩
def dd_levels_for : He.DefD := ⟨("levels_for", none), "levels_for", "levels_for", defArgs s_levels_for, defBody s_levels_for, defScope s_levels_for, [], []⟩
def dd_kept_signs : He.DefD := ⟨("kept_signs", none), "kept_signs", "kept_signs", defArgs s_kept_signs, defBody s_kept_signs, defScope s_kept_signs, [], []⟩
def dd_is_word : He.DefD := ⟨("is_word", none), "is_word", "is_word", defArgs s_is_word, defBody s_is_word, defScope s_is_word, [], []⟩
def dd_shared_letters : He.DefD := ⟨("shared_letters", none), "shared_letters", "shared_letters", defArgs s_shared_letters, defBody s_shared_letters, defScope s_shared_letters, [], []⟩
def dd_kept_store : He.DefD := ⟨("kept_store", none), "kept_store", "kept_store", defArgs s_kept_store, defBody s_kept_store, defScope s_kept_store, [], []⟩
def dd_law_cell_at : He.DefD := ⟨("_law_cell_at", none), "_law_cell_at", "_law_cell_at", defArgs s_law_cell_at, defBody s_law_cell_at, defScope s_law_cell_at, [], []⟩
def dd_law_whole : He.DefD := ⟨("_law_whole", none), "_law_whole", "_law_whole", defArgs s_law_whole, defBody s_law_whole, defScope s_law_whole, [], []⟩
def dd_law_spelt : He.DefD := ⟨("_law_spelt", none), "_law_spelt", "_law_spelt", defArgs s_law_spelt, defBody s_law_spelt, defScope s_law_spelt, [], []⟩
def dd_law_words : He.DefD := ⟨("_law_words", none), "_law_words", "_law_words", defArgs s_law_words, defBody s_law_words, defScope s_law_words, [], []⟩
def dd_law_many_words : He.DefD := ⟨("_law_many_words", none), "_law_many_words", "_law_many_words", defArgs s_law_many_words, defBody s_law_many_words, defScope s_law_many_words, [], []⟩
def dd_law_others : He.DefD := ⟨("_law_others", none), "_law_others", "_law_others", defArgs s_law_others, defBody s_law_others, defScope s_law_others, [], []⟩
def dd_law_told : He.DefD := ⟨("_law_told", none), "_law_told", "_law_told", defArgs s_law_told, defBody s_law_told, defScope s_law_told, [], []⟩
def dd_law_spoilt : He.DefD := ⟨("_law_spoilt", none), "_law_spoilt", "_law_spoilt", defArgs s_law_spoilt, defBody s_law_spoilt, defScope s_law_spoilt, [], []⟩
def dd_law : He.DefD := ⟨("law", none), "law", "law", defArgs s_law, defBody s_law, defScope s_law, [], []⟩
def fnL : List He.DefD := [dd_packed, dd_ones_in, dd_low_in, dd_ones_table, dd_kept_row, dd_size_of, dd_lesser_of, dd_heap_of, dd_is_tree, dd_begin_height, dd_kept_brackets, dd_brackets_of, dd_kept_tree, dd_levels_for, dd_kept_signs, dd_is_word, dd_shared_letters, dd_kept_store, dd_law_cell_at, dd_law_whole, dd_law_spelt, dd_law_words, dd_law_many_words, dd_law_others, dd_law_told, dd_law_spoilt, dd_law]
def fxL : List Fx := [.excC "NoBit", .kitT "NoBit" "ValueError" true, .kit "NoBit" "NoBit" true, .exm "NoBit" "NoBit" true, .kit "NoBit" "NoNode" false, .exm "NoBit" "NoNode" false, .kit "NoBit" "NoOctets" false, .exm "NoBit" "NoOctets" false, .kit "NoBit" "NoPlace" false, .exm "NoBit" "NoPlace" false, .kit "NoBit" "NoSign" false, .exm "NoBit" "NoSign" false, .kit "NoBit" "NoTree" false, .exm "NoBit" "NoTree" false, .kit "NoBit" "NoWord" false, .exm "NoBit" "NoWord" false, .kit "NoBit" "TooMany" false, .exm "NoBit" "TooMany" false, .kit "NoBit" "Twice" false, .exm "NoBit" "Twice" false, .kit "NoBit" "WoodError" true, .exm "NoBit" "WoodError" true, .excC "NoNode", .kitT "NoNode" "ValueError" true, .kit "NoNode" "NoBit" false, .exm "NoNode" "NoBit" false, .kit "NoNode" "NoNode" true, .exm "NoNode" "NoNode" true, .kit "NoNode" "NoOctets" false, .exm "NoNode" "NoOctets" false, .kit "NoNode" "NoPlace" false, .exm "NoNode" "NoPlace" false, .kit "NoNode" "NoSign" false, .exm "NoNode" "NoSign" false, .kit "NoNode" "NoTree" false, .exm "NoNode" "NoTree" false, .kit "NoNode" "NoWord" false, .exm "NoNode" "NoWord" false, .kit "NoNode" "TooMany" false, .exm "NoNode" "TooMany" false, .kit "NoNode" "Twice" false, .exm "NoNode" "Twice" false, .kit "NoNode" "WoodError" true, .exm "NoNode" "WoodError" true, .excC "NoOctets", .kitT "NoOctets" "ValueError" true, .kit "NoOctets" "NoBit" false, .exm "NoOctets" "NoBit" false, .kit "NoOctets" "NoNode" false, .exm "NoOctets" "NoNode" false, .kit "NoOctets" "NoOctets" true, .exm "NoOctets" "NoOctets" true, .kit "NoOctets" "NoPlace" false, .exm "NoOctets" "NoPlace" false, .kit "NoOctets" "NoSign" false, .exm "NoOctets" "NoSign" false, .kit "NoOctets" "NoTree" false, .exm "NoOctets" "NoTree" false, .kit "NoOctets" "NoWord" false, .exm "NoOctets" "NoWord" false, .kit "NoOctets" "TooMany" false, .exm "NoOctets" "TooMany" false, .kit "NoOctets" "Twice" false, .exm "NoOctets" "Twice" false, .kit "NoOctets" "WoodError" true, .exm "NoOctets" "WoodError" true, .excC "NoPlace", .kitT "NoPlace" "ValueError" true, .kit "NoPlace" "NoBit" false, .exm "NoPlace" "NoBit" false, .kit "NoPlace" "NoNode" false, .exm "NoPlace" "NoNode" false, .kit "NoPlace" "NoOctets" false, .exm "NoPlace" "NoOctets" false, .kit "NoPlace" "NoPlace" true, .exm "NoPlace" "NoPlace" true, .kit "NoPlace" "NoSign" false, .exm "NoPlace" "NoSign" false, .kit "NoPlace" "NoTree" false, .exm "NoPlace" "NoTree" false, .kit "NoPlace" "NoWord" false, .exm "NoPlace" "NoWord" false, .kit "NoPlace" "TooMany" false, .exm "NoPlace" "TooMany" false, .kit "NoPlace" "Twice" false, .exm "NoPlace" "Twice" false, .kit "NoPlace" "WoodError" true, .exm "NoPlace" "WoodError" true, .excC "NoSign", .kitT "NoSign" "ValueError" true, .kit "NoSign" "NoBit" false, .exm "NoSign" "NoBit" false, .kit "NoSign" "NoNode" false, .exm "NoSign" "NoNode" false, .kit "NoSign" "NoOctets" false, .exm "NoSign" "NoOctets" false, .kit "NoSign" "NoPlace" false, .exm "NoSign" "NoPlace" false, .kit "NoSign" "NoSign" true, .exm "NoSign" "NoSign" true, .kit "NoSign" "NoTree" false, .exm "NoSign" "NoTree" false, .kit "NoSign" "NoWord" false, .exm "NoSign" "NoWord" false, .kit "NoSign" "TooMany" false, .exm "NoSign" "TooMany" false, .kit "NoSign" "Twice" false, .exm "NoSign" "Twice" false, .kit "NoSign" "WoodError" true, .exm "NoSign" "WoodError" true, .excC "NoTree", .kitT "NoTree" "ValueError" true, .kit "NoTree" "NoBit" false, .exm "NoTree" "NoBit" false, .kit "NoTree" "NoNode" false, .exm "NoTree" "NoNode" false, .kit "NoTree" "NoOctets" false, .exm "NoTree" "NoOctets" false, .kit "NoTree" "NoPlace" false, .exm "NoTree" "NoPlace" false, .kit "NoTree" "NoSign" false, .exm "NoTree" "NoSign" false, .kit "NoTree" "NoTree" true, .exm "NoTree" "NoTree" true, .kit "NoTree" "NoWord" false, .exm "NoTree" "NoWord" false, .kit "NoTree" "TooMany" false, .exm "NoTree" "TooMany" false, .kit "NoTree" "Twice" false, .exm "NoTree" "Twice" false, .kit "NoTree" "WoodError" true, .exm "NoTree" "WoodError" true, .excC "NoWord", .kitT "NoWord" "ValueError" true, .kit "NoWord" "NoBit" false, .exm "NoWord" "NoBit" false, .kit "NoWord" "NoNode" false, .exm "NoWord" "NoNode" false, .kit "NoWord" "NoOctets" false, .exm "NoWord" "NoOctets" false, .kit "NoWord" "NoPlace" false, .exm "NoWord" "NoPlace" false, .kit "NoWord" "NoSign" false, .exm "NoWord" "NoSign" false, .kit "NoWord" "NoTree" false, .exm "NoWord" "NoTree" false, .kit "NoWord" "NoWord" true, .exm "NoWord" "NoWord" true, .kit "NoWord" "TooMany" false, .exm "NoWord" "TooMany" false, .kit "NoWord" "Twice" false, .exm "NoWord" "Twice" false, .kit "NoWord" "WoodError" true, .exm "NoWord" "WoodError" true, .excC "TooMany", .kitT "TooMany" "ValueError" true, .kit "TooMany" "NoBit" false, .exm "TooMany" "NoBit" false, .kit "TooMany" "NoNode" false, .exm "TooMany" "NoNode" false, .kit "TooMany" "NoOctets" false, .exm "TooMany" "NoOctets" false, .kit "TooMany" "NoPlace" false, .exm "TooMany" "NoPlace" false, .kit "TooMany" "NoSign" false, .exm "TooMany" "NoSign" false, .kit "TooMany" "NoTree" false, .exm "TooMany" "NoTree" false, .kit "TooMany" "NoWord" false, .exm "TooMany" "NoWord" false, .kit "TooMany" "TooMany" true, .exm "TooMany" "TooMany" true, .kit "TooMany" "Twice" false, .exm "TooMany" "Twice" false, .kit "TooMany" "WoodError" true, .exm "TooMany" "WoodError" true, .excC "Twice", .kitT "Twice" "ValueError" true, .kit "Twice" "NoBit" false, .exm "Twice" "NoBit" false, .kit "Twice" "NoNode" false, .exm "Twice" "NoNode" false, .kit "Twice" "NoOctets" false, .exm "Twice" "NoOctets" false, .kit "Twice" "NoPlace" false, .exm "Twice" "NoPlace" false, .kit "Twice" "NoSign" false, .exm "Twice" "NoSign" false, .kit "Twice" "NoTree" false, .exm "Twice" "NoTree" false, .kit "Twice" "NoWord" false, .exm "Twice" "NoWord" false, .kit "Twice" "TooMany" false, .exm "Twice" "TooMany" false, .kit "Twice" "Twice" true, .exm "Twice" "Twice" true, .kit "Twice" "WoodError" true, .exm "Twice" "WoodError" true, .excC "WoodError", .kitT "WoodError" "ValueError" true, .kit "WoodError" "NoBit" false, .exm "WoodError" "NoBit" false, .kit "WoodError" "NoNode" false, .exm "WoodError" "NoNode" false, .kit "WoodError" "NoOctets" false, .exm "WoodError" "NoOctets" false, .kit "WoodError" "NoPlace" false, .exm "WoodError" "NoPlace" false, .kit "WoodError" "NoSign" false, .exm "WoodError" "NoSign" false, .kit "WoodError" "NoTree" false, .exm "WoodError" "NoTree" false, .kit "WoodError" "NoWord" false, .exm "WoodError" "NoWord" false, .kit "WoodError" "TooMany" false, .exm "WoodError" "TooMany" false, .kit "WoodError" "Twice" false, .exm "WoodError" "Twice" false, .kit "WoodError" "WoodError" true, .exm "WoodError" "WoodError" true]
def faL : List He.Fa := [.glo "packed", .glo "ones_in", .glo "low_in", .glo "ones_table", .glo "kept_row", .glo "size_of", .glo "lesser_of", .glo "heap_of", .glo "is_tree", .glo "begin_height", .glo "kept_brackets", .glo "brackets_of", .glo "kept_tree", .glo "levels_for", .glo "kept_signs", .glo "is_word", .glo "shared_letters", .glo "kept_store", .glo "_law_cell_at", .glo "_law_whole", .glo "_law_spelt", .glo "_law_words", .glo "_law_many_words", .glo "_law_others", .glo "_law_told", .glo "_law_spoilt", .glo "law", .free "bool", .free "enumerate", .free "int", .free "isinstance", .free "len", .free "list", .free "min", .free "range", .free "reversed", .free "set", .free "sorted", .free "sum", .free "tuple", .free "zip", .int "FAR" 1000000000000000000000000000000000000000000000000000000000000, .int "LONGEST" 40, .int "MOST" 4096, .int "WIDE" 32, .str "LETTERS" "abcdefghijklmnopqrstuvwxyz", .exc "NoBit", .exc "NoNode", .exc "NoOctets", .exc "NoPlace", .exc "NoSign", .exc "NoTree", .exc "NoWord", .exc "TooMany", .exc "Twice", .exc "WoodError", .glo "NoBit", .glo "NoNode", .glo "NoOctets", .glo "NoPlace", .glo "NoSign", .glo "NoTree", .glo "NoWord", .glo "TooMany", .glo "Twice", .glo "WoodError"]
abbrev R : PySem.W.OpenRow := PySem.W.OpenLaw.row PySem.Challenge.rw_thinwood_k72_words_refused
abbrev hk : PySem.W.Hook := hookF 2 faL fnL fxL
def ob (s : PySem.W.SharedT) : AlF := obsFG 2 faL fnL fxL (HandSHeadRun.getT s)
theorem ob_eq (s : PySem.W.SharedT) : ob s = hk.obs s.abs := obsFG_eq (HandSHeadRun.getT_eq s)
def looseL : List PySem.Str := (["WoodError", "TooMany", "NoBit", "NoPlace", "NoNode", "NoTree", "NoSign", "NoWord", "Twice", "NoOctets", "WIDE", "MOST", "packed", "ones_in", "low_in", "ones_table", "kept_row", "size_of", "lesser_of", "heap_of", "is_tree", "begin_height", "kept_brackets", "brackets_of", "kept_tree", "FAR", "levels_for", "kept_signs", "LETTERS", "LONGEST"] : List PySem.Str) ++ (["is_word", "shared_letters", "kept_store", "_law_cell_at", "_law_whole", "_law_spelt", "_law_words", "_law_many_words", "_law_others", "_law_told", "_law_spoilt"] : List PySem.Str)
theorem run (w : World) : HandSHeadRun.RunEq R (PySem.W.view R.prog [50]) hk ob 20000 looseL w := by
  intro os
  kernel_rfl
theorem tx_of {P : Program} {w : World} {K : PySem.W.Frag} {h : Heap} {mg : Str → Option Value} (X : K.In h) (G : h.Ns mainGlobals mg) (c2 : SaysF faL fnL fxL K) (base : Heap) : Tx P w K mg base :=
  have c := SaysF.d c2
  {
  d_packed := c.def_ 0 (d := dd_packed) rfl
  g_packed := He.glo_ok X G (c.fact 0 (f := .glo "packed") rfl)
  d_ones_in := c.def_ 1 (d := dd_ones_in) rfl
  g_ones_in := He.glo_ok X G (c.fact 1 (f := .glo "ones_in") rfl)
  d_low_in := c.def_ 2 (d := dd_low_in) rfl
  g_low_in := He.glo_ok X G (c.fact 2 (f := .glo "low_in") rfl)
  d_ones_table := c.def_ 3 (d := dd_ones_table) rfl
  g_ones_table := He.glo_ok X G (c.fact 3 (f := .glo "ones_table") rfl)
  d_kept_row := c.def_ 4 (d := dd_kept_row) rfl
  g_kept_row := He.glo_ok X G (c.fact 4 (f := .glo "kept_row") rfl)
  d_size_of := c.def_ 5 (d := dd_size_of) rfl
  g_size_of := He.glo_ok X G (c.fact 5 (f := .glo "size_of") rfl)
  d_lesser_of := c.def_ 6 (d := dd_lesser_of) rfl
  g_lesser_of := He.glo_ok X G (c.fact 6 (f := .glo "lesser_of") rfl)
  d_heap_of := c.def_ 7 (d := dd_heap_of) rfl
  g_heap_of := He.glo_ok X G (c.fact 7 (f := .glo "heap_of") rfl)
  d_is_tree := c.def_ 8 (d := dd_is_tree) rfl
  g_is_tree := He.glo_ok X G (c.fact 8 (f := .glo "is_tree") rfl)
  d_begin_height := c.def_ 9 (d := dd_begin_height) rfl
  g_begin_height := He.glo_ok X G (c.fact 9 (f := .glo "begin_height") rfl)
  d_kept_brackets := c.def_ 10 (d := dd_kept_brackets) rfl
  g_kept_brackets := He.glo_ok X G (c.fact 10 (f := .glo "kept_brackets") rfl)
  d_brackets_of := c.def_ 11 (d := dd_brackets_of) rfl
  g_brackets_of := He.glo_ok X G (c.fact 11 (f := .glo "brackets_of") rfl)
  d_kept_tree := c.def_ 12 (d := dd_kept_tree) rfl
  g_kept_tree := He.glo_ok X G (c.fact 12 (f := .glo "kept_tree") rfl)
  d_levels_for := c.def_ 13 (d := dd_levels_for) rfl
  g_levels_for := He.glo_ok X G (c.fact 13 (f := .glo "levels_for") rfl)
  d_kept_signs := c.def_ 14 (d := dd_kept_signs) rfl
  g_kept_signs := He.glo_ok X G (c.fact 14 (f := .glo "kept_signs") rfl)
  d_is_word := c.def_ 15 (d := dd_is_word) rfl
  g_is_word := He.glo_ok X G (c.fact 15 (f := .glo "is_word") rfl)
  d_shared_letters := c.def_ 16 (d := dd_shared_letters) rfl
  g_shared_letters := He.glo_ok X G (c.fact 16 (f := .glo "shared_letters") rfl)
  d_kept_store := c.def_ 17 (d := dd_kept_store) rfl
  g_kept_store := He.glo_ok X G (c.fact 17 (f := .glo "kept_store") rfl)
  d_law_cell_at := c.def_ 18 (d := dd_law_cell_at) rfl
  g_law_cell_at := He.glo_ok X G (c.fact 18 (f := .glo "_law_cell_at") rfl)
  d_law_whole := c.def_ 19 (d := dd_law_whole) rfl
  g_law_whole := He.glo_ok X G (c.fact 19 (f := .glo "_law_whole") rfl)
  d_law_spelt := c.def_ 20 (d := dd_law_spelt) rfl
  g_law_spelt := He.glo_ok X G (c.fact 20 (f := .glo "_law_spelt") rfl)
  d_law_words := c.def_ 21 (d := dd_law_words) rfl
  g_law_words := He.glo_ok X G (c.fact 21 (f := .glo "_law_words") rfl)
  d_law_many_words := c.def_ 22 (d := dd_law_many_words) rfl
  g_law_many_words := He.glo_ok X G (c.fact 22 (f := .glo "_law_many_words") rfl)
  d_law_others := c.def_ 23 (d := dd_law_others) rfl
  g_law_others := He.glo_ok X G (c.fact 23 (f := .glo "_law_others") rfl)
  d_law_told := c.def_ 24 (d := dd_law_told) rfl
  g_law_told := He.glo_ok X G (c.fact 24 (f := .glo "_law_told") rfl)
  d_law_spoilt := c.def_ 25 (d := dd_law_spoilt) rfl
  g_law_spoilt := He.glo_ok X G (c.fact 25 (f := .glo "_law_spoilt") rfl)
  d_law := c.def_ 26 (d := dd_law) rfl
  g_law := He.glo_ok X G (c.fact 26 (f := .glo "law") rfl)
  b_bool := He.free_ok X G (c.fact 27 (f := .free "bool") rfl)
  b_enumerate := He.free_ok X G (c.fact 28 (f := .free "enumerate") rfl)
  b_int := He.free_ok X G (c.fact 29 (f := .free "int") rfl)
  b_isinstance := He.free_ok X G (c.fact 30 (f := .free "isinstance") rfl)
  b_len := He.free_ok X G (c.fact 31 (f := .free "len") rfl)
  b_list := He.free_ok X G (c.fact 32 (f := .free "list") rfl)
  b_min := He.free_ok X G (c.fact 33 (f := .free "min") rfl)
  b_range := He.free_ok X G (c.fact 34 (f := .free "range") rfl)
  b_reversed := He.free_ok X G (c.fact 35 (f := .free "reversed") rfl)
  b_set := He.free_ok X G (c.fact 36 (f := .free "set") rfl)
  b_sorted := He.free_ok X G (c.fact 37 (f := .free "sorted") rfl)
  b_sum := He.free_ok X G (c.fact 38 (f := .free "sum") rfl)
  b_tuple := He.free_ok X G (c.fact 39 (f := .free "tuple") rfl)
  b_zip := He.free_ok X G (c.fact 40 (f := .free "zip") rfl)
  i_FAR := He.int_ok X G (c.fact 41 (f := .int "FAR" 1000000000000000000000000000000000000000000000000000000000000) rfl)
  i_LONGEST := He.int_ok X G (c.fact 42 (f := .int "LONGEST" 40) rfl)
  i_MOST := He.int_ok X G (c.fact 43 (f := .int "MOST" 4096) rfl)
  i_WIDE := He.int_ok X G (c.fact 44 (f := .int "WIDE" 32) rfl)
  s_LETTERS := He.str_ok X G (c.fact 45 (f := .str "LETTERS" "abcdefghijklmnopqrstuvwxyz") rfl)
  x_NoBit := (fun q => ⟨He.glo_ok X G (c.fact 56 (f := .glo "NoBit") rfl), q.1, q.2.1, q.2.2.1, q.2.2.2⟩) (He.exc_ok (c.fact 46 (f := .exc "NoBit") rfl))
  g_NoBit := He.glo_ok X G (c.fact 56 (f := .glo "NoBit") rfl)
  x_NoNode := (fun q => ⟨He.glo_ok X G (c.fact 57 (f := .glo "NoNode") rfl), q.1, q.2.1, q.2.2.1, q.2.2.2⟩) (He.exc_ok (c.fact 47 (f := .exc "NoNode") rfl))
  g_NoNode := He.glo_ok X G (c.fact 57 (f := .glo "NoNode") rfl)
  x_NoOctets := (fun q => ⟨He.glo_ok X G (c.fact 58 (f := .glo "NoOctets") rfl), q.1, q.2.1, q.2.2.1, q.2.2.2⟩) (He.exc_ok (c.fact 48 (f := .exc "NoOctets") rfl))
  g_NoOctets := He.glo_ok X G (c.fact 58 (f := .glo "NoOctets") rfl)
  x_NoPlace := (fun q => ⟨He.glo_ok X G (c.fact 59 (f := .glo "NoPlace") rfl), q.1, q.2.1, q.2.2.1, q.2.2.2⟩) (He.exc_ok (c.fact 49 (f := .exc "NoPlace") rfl))
  g_NoPlace := He.glo_ok X G (c.fact 59 (f := .glo "NoPlace") rfl)
  x_NoSign := (fun q => ⟨He.glo_ok X G (c.fact 60 (f := .glo "NoSign") rfl), q.1, q.2.1, q.2.2.1, q.2.2.2⟩) (He.exc_ok (c.fact 50 (f := .exc "NoSign") rfl))
  g_NoSign := He.glo_ok X G (c.fact 60 (f := .glo "NoSign") rfl)
  x_NoTree := (fun q => ⟨He.glo_ok X G (c.fact 61 (f := .glo "NoTree") rfl), q.1, q.2.1, q.2.2.1, q.2.2.2⟩) (He.exc_ok (c.fact 51 (f := .exc "NoTree") rfl))
  g_NoTree := He.glo_ok X G (c.fact 61 (f := .glo "NoTree") rfl)
  x_NoWord := (fun q => ⟨He.glo_ok X G (c.fact 62 (f := .glo "NoWord") rfl), q.1, q.2.1, q.2.2.1, q.2.2.2⟩) (He.exc_ok (c.fact 52 (f := .exc "NoWord") rfl))
  g_NoWord := He.glo_ok X G (c.fact 62 (f := .glo "NoWord") rfl)
  x_TooMany := (fun q => ⟨He.glo_ok X G (c.fact 63 (f := .glo "TooMany") rfl), q.1, q.2.1, q.2.2.1, q.2.2.2⟩) (He.exc_ok (c.fact 53 (f := .exc "TooMany") rfl))
  g_TooMany := He.glo_ok X G (c.fact 63 (f := .glo "TooMany") rfl)
  x_Twice := (fun q => ⟨He.glo_ok X G (c.fact 64 (f := .glo "Twice") rfl), q.1, q.2.1, q.2.2.1, q.2.2.2⟩) (He.exc_ok (c.fact 54 (f := .exc "Twice") rfl))
  g_Twice := He.glo_ok X G (c.fact 64 (f := .glo "Twice") rfl)
  x_WoodError := (fun q => ⟨He.glo_ok X G (c.fact 65 (f := .glo "WoodError") rfl), q.1, q.2.1, q.2.2.1, q.2.2.2⟩) (He.exc_ok (c.fact 55 (f := .exc "WoodError") rfl))
  g_WoodError := He.glo_ok X G (c.fact 65 (f := .glo "WoodError") rfl)
  fx := {
    ec_NoBit := Fx.excC_ok (SaysF.fx c2 0 (f := .excC "NoBit") rfl)
    kt_NoBit := Fx.kitT_ok (SaysF.fx c2 1 (f := .kitT "NoBit" "ValueError" true) rfl)
    k_NoBit_NoBit := Fx.kit_ok (SaysF.fx c2 2 (f := .kit "NoBit" "NoBit" true) rfl)
    e_NoBit_NoBit := Fx.exm_ok (SaysF.fx c2 3 (f := .exm "NoBit" "NoBit" true) rfl)
    k_NoBit_NoNode := Fx.kit_ok (SaysF.fx c2 4 (f := .kit "NoBit" "NoNode" false) rfl)
    e_NoBit_NoNode := Fx.exm_ok (SaysF.fx c2 5 (f := .exm "NoBit" "NoNode" false) rfl)
    k_NoBit_NoOctets := Fx.kit_ok (SaysF.fx c2 6 (f := .kit "NoBit" "NoOctets" false) rfl)
    e_NoBit_NoOctets := Fx.exm_ok (SaysF.fx c2 7 (f := .exm "NoBit" "NoOctets" false) rfl)
    k_NoBit_NoPlace := Fx.kit_ok (SaysF.fx c2 8 (f := .kit "NoBit" "NoPlace" false) rfl)
    e_NoBit_NoPlace := Fx.exm_ok (SaysF.fx c2 9 (f := .exm "NoBit" "NoPlace" false) rfl)
    k_NoBit_NoSign := Fx.kit_ok (SaysF.fx c2 10 (f := .kit "NoBit" "NoSign" false) rfl)
    e_NoBit_NoSign := Fx.exm_ok (SaysF.fx c2 11 (f := .exm "NoBit" "NoSign" false) rfl)
    k_NoBit_NoTree := Fx.kit_ok (SaysF.fx c2 12 (f := .kit "NoBit" "NoTree" false) rfl)
    e_NoBit_NoTree := Fx.exm_ok (SaysF.fx c2 13 (f := .exm "NoBit" "NoTree" false) rfl)
    k_NoBit_NoWord := Fx.kit_ok (SaysF.fx c2 14 (f := .kit "NoBit" "NoWord" false) rfl)
    e_NoBit_NoWord := Fx.exm_ok (SaysF.fx c2 15 (f := .exm "NoBit" "NoWord" false) rfl)
    k_NoBit_TooMany := Fx.kit_ok (SaysF.fx c2 16 (f := .kit "NoBit" "TooMany" false) rfl)
    e_NoBit_TooMany := Fx.exm_ok (SaysF.fx c2 17 (f := .exm "NoBit" "TooMany" false) rfl)
    k_NoBit_Twice := Fx.kit_ok (SaysF.fx c2 18 (f := .kit "NoBit" "Twice" false) rfl)
    e_NoBit_Twice := Fx.exm_ok (SaysF.fx c2 19 (f := .exm "NoBit" "Twice" false) rfl)
    k_NoBit_WoodError := Fx.kit_ok (SaysF.fx c2 20 (f := .kit "NoBit" "WoodError" true) rfl)
    e_NoBit_WoodError := Fx.exm_ok (SaysF.fx c2 21 (f := .exm "NoBit" "WoodError" true) rfl)
    ec_NoNode := Fx.excC_ok (SaysF.fx c2 22 (f := .excC "NoNode") rfl)
    kt_NoNode := Fx.kitT_ok (SaysF.fx c2 23 (f := .kitT "NoNode" "ValueError" true) rfl)
    k_NoNode_NoBit := Fx.kit_ok (SaysF.fx c2 24 (f := .kit "NoNode" "NoBit" false) rfl)
    e_NoNode_NoBit := Fx.exm_ok (SaysF.fx c2 25 (f := .exm "NoNode" "NoBit" false) rfl)
    k_NoNode_NoNode := Fx.kit_ok (SaysF.fx c2 26 (f := .kit "NoNode" "NoNode" true) rfl)
    e_NoNode_NoNode := Fx.exm_ok (SaysF.fx c2 27 (f := .exm "NoNode" "NoNode" true) rfl)
    k_NoNode_NoOctets := Fx.kit_ok (SaysF.fx c2 28 (f := .kit "NoNode" "NoOctets" false) rfl)
    e_NoNode_NoOctets := Fx.exm_ok (SaysF.fx c2 29 (f := .exm "NoNode" "NoOctets" false) rfl)
    k_NoNode_NoPlace := Fx.kit_ok (SaysF.fx c2 30 (f := .kit "NoNode" "NoPlace" false) rfl)
    e_NoNode_NoPlace := Fx.exm_ok (SaysF.fx c2 31 (f := .exm "NoNode" "NoPlace" false) rfl)
    k_NoNode_NoSign := Fx.kit_ok (SaysF.fx c2 32 (f := .kit "NoNode" "NoSign" false) rfl)
    e_NoNode_NoSign := Fx.exm_ok (SaysF.fx c2 33 (f := .exm "NoNode" "NoSign" false) rfl)
    k_NoNode_NoTree := Fx.kit_ok (SaysF.fx c2 34 (f := .kit "NoNode" "NoTree" false) rfl)
    e_NoNode_NoTree := Fx.exm_ok (SaysF.fx c2 35 (f := .exm "NoNode" "NoTree" false) rfl)
    k_NoNode_NoWord := Fx.kit_ok (SaysF.fx c2 36 (f := .kit "NoNode" "NoWord" false) rfl)
    e_NoNode_NoWord := Fx.exm_ok (SaysF.fx c2 37 (f := .exm "NoNode" "NoWord" false) rfl)
    k_NoNode_TooMany := Fx.kit_ok (SaysF.fx c2 38 (f := .kit "NoNode" "TooMany" false) rfl)
    e_NoNode_TooMany := Fx.exm_ok (SaysF.fx c2 39 (f := .exm "NoNode" "TooMany" false) rfl)
    k_NoNode_Twice := Fx.kit_ok (SaysF.fx c2 40 (f := .kit "NoNode" "Twice" false) rfl)
    e_NoNode_Twice := Fx.exm_ok (SaysF.fx c2 41 (f := .exm "NoNode" "Twice" false) rfl)
    k_NoNode_WoodError := Fx.kit_ok (SaysF.fx c2 42 (f := .kit "NoNode" "WoodError" true) rfl)
    e_NoNode_WoodError := Fx.exm_ok (SaysF.fx c2 43 (f := .exm "NoNode" "WoodError" true) rfl)
    ec_NoOctets := Fx.excC_ok (SaysF.fx c2 44 (f := .excC "NoOctets") rfl)
    kt_NoOctets := Fx.kitT_ok (SaysF.fx c2 45 (f := .kitT "NoOctets" "ValueError" true) rfl)
    k_NoOctets_NoBit := Fx.kit_ok (SaysF.fx c2 46 (f := .kit "NoOctets" "NoBit" false) rfl)
    e_NoOctets_NoBit := Fx.exm_ok (SaysF.fx c2 47 (f := .exm "NoOctets" "NoBit" false) rfl)
    k_NoOctets_NoNode := Fx.kit_ok (SaysF.fx c2 48 (f := .kit "NoOctets" "NoNode" false) rfl)
    e_NoOctets_NoNode := Fx.exm_ok (SaysF.fx c2 49 (f := .exm "NoOctets" "NoNode" false) rfl)
    k_NoOctets_NoOctets := Fx.kit_ok (SaysF.fx c2 50 (f := .kit "NoOctets" "NoOctets" true) rfl)
    e_NoOctets_NoOctets := Fx.exm_ok (SaysF.fx c2 51 (f := .exm "NoOctets" "NoOctets" true) rfl)
    k_NoOctets_NoPlace := Fx.kit_ok (SaysF.fx c2 52 (f := .kit "NoOctets" "NoPlace" false) rfl)
    e_NoOctets_NoPlace := Fx.exm_ok (SaysF.fx c2 53 (f := .exm "NoOctets" "NoPlace" false) rfl)
    k_NoOctets_NoSign := Fx.kit_ok (SaysF.fx c2 54 (f := .kit "NoOctets" "NoSign" false) rfl)
    e_NoOctets_NoSign := Fx.exm_ok (SaysF.fx c2 55 (f := .exm "NoOctets" "NoSign" false) rfl)
    k_NoOctets_NoTree := Fx.kit_ok (SaysF.fx c2 56 (f := .kit "NoOctets" "NoTree" false) rfl)
    e_NoOctets_NoTree := Fx.exm_ok (SaysF.fx c2 57 (f := .exm "NoOctets" "NoTree" false) rfl)
    k_NoOctets_NoWord := Fx.kit_ok (SaysF.fx c2 58 (f := .kit "NoOctets" "NoWord" false) rfl)
    e_NoOctets_NoWord := Fx.exm_ok (SaysF.fx c2 59 (f := .exm "NoOctets" "NoWord" false) rfl)
    k_NoOctets_TooMany := Fx.kit_ok (SaysF.fx c2 60 (f := .kit "NoOctets" "TooMany" false) rfl)
    e_NoOctets_TooMany := Fx.exm_ok (SaysF.fx c2 61 (f := .exm "NoOctets" "TooMany" false) rfl)
    k_NoOctets_Twice := Fx.kit_ok (SaysF.fx c2 62 (f := .kit "NoOctets" "Twice" false) rfl)
    e_NoOctets_Twice := Fx.exm_ok (SaysF.fx c2 63 (f := .exm "NoOctets" "Twice" false) rfl)
    k_NoOctets_WoodError := Fx.kit_ok (SaysF.fx c2 64 (f := .kit "NoOctets" "WoodError" true) rfl)
    e_NoOctets_WoodError := Fx.exm_ok (SaysF.fx c2 65 (f := .exm "NoOctets" "WoodError" true) rfl)
    ec_NoPlace := Fx.excC_ok (SaysF.fx c2 66 (f := .excC "NoPlace") rfl)
    kt_NoPlace := Fx.kitT_ok (SaysF.fx c2 67 (f := .kitT "NoPlace" "ValueError" true) rfl)
    k_NoPlace_NoBit := Fx.kit_ok (SaysF.fx c2 68 (f := .kit "NoPlace" "NoBit" false) rfl)
    e_NoPlace_NoBit := Fx.exm_ok (SaysF.fx c2 69 (f := .exm "NoPlace" "NoBit" false) rfl)
    k_NoPlace_NoNode := Fx.kit_ok (SaysF.fx c2 70 (f := .kit "NoPlace" "NoNode" false) rfl)
    e_NoPlace_NoNode := Fx.exm_ok (SaysF.fx c2 71 (f := .exm "NoPlace" "NoNode" false) rfl)
    k_NoPlace_NoOctets := Fx.kit_ok (SaysF.fx c2 72 (f := .kit "NoPlace" "NoOctets" false) rfl)
    e_NoPlace_NoOctets := Fx.exm_ok (SaysF.fx c2 73 (f := .exm "NoPlace" "NoOctets" false) rfl)
    k_NoPlace_NoPlace := Fx.kit_ok (SaysF.fx c2 74 (f := .kit "NoPlace" "NoPlace" true) rfl)
    e_NoPlace_NoPlace := Fx.exm_ok (SaysF.fx c2 75 (f := .exm "NoPlace" "NoPlace" true) rfl)
    k_NoPlace_NoSign := Fx.kit_ok (SaysF.fx c2 76 (f := .kit "NoPlace" "NoSign" false) rfl)
    e_NoPlace_NoSign := Fx.exm_ok (SaysF.fx c2 77 (f := .exm "NoPlace" "NoSign" false) rfl)
    k_NoPlace_NoTree := Fx.kit_ok (SaysF.fx c2 78 (f := .kit "NoPlace" "NoTree" false) rfl)
    e_NoPlace_NoTree := Fx.exm_ok (SaysF.fx c2 79 (f := .exm "NoPlace" "NoTree" false) rfl)
    k_NoPlace_NoWord := Fx.kit_ok (SaysF.fx c2 80 (f := .kit "NoPlace" "NoWord" false) rfl)
    e_NoPlace_NoWord := Fx.exm_ok (SaysF.fx c2 81 (f := .exm "NoPlace" "NoWord" false) rfl)
    k_NoPlace_TooMany := Fx.kit_ok (SaysF.fx c2 82 (f := .kit "NoPlace" "TooMany" false) rfl)
    e_NoPlace_TooMany := Fx.exm_ok (SaysF.fx c2 83 (f := .exm "NoPlace" "TooMany" false) rfl)
    k_NoPlace_Twice := Fx.kit_ok (SaysF.fx c2 84 (f := .kit "NoPlace" "Twice" false) rfl)
    e_NoPlace_Twice := Fx.exm_ok (SaysF.fx c2 85 (f := .exm "NoPlace" "Twice" false) rfl)
    k_NoPlace_WoodError := Fx.kit_ok (SaysF.fx c2 86 (f := .kit "NoPlace" "WoodError" true) rfl)
    e_NoPlace_WoodError := Fx.exm_ok (SaysF.fx c2 87 (f := .exm "NoPlace" "WoodError" true) rfl)
    ec_NoSign := Fx.excC_ok (SaysF.fx c2 88 (f := .excC "NoSign") rfl)
    kt_NoSign := Fx.kitT_ok (SaysF.fx c2 89 (f := .kitT "NoSign" "ValueError" true) rfl)
    k_NoSign_NoBit := Fx.kit_ok (SaysF.fx c2 90 (f := .kit "NoSign" "NoBit" false) rfl)
    e_NoSign_NoBit := Fx.exm_ok (SaysF.fx c2 91 (f := .exm "NoSign" "NoBit" false) rfl)
    k_NoSign_NoNode := Fx.kit_ok (SaysF.fx c2 92 (f := .kit "NoSign" "NoNode" false) rfl)
    e_NoSign_NoNode := Fx.exm_ok (SaysF.fx c2 93 (f := .exm "NoSign" "NoNode" false) rfl)
    k_NoSign_NoOctets := Fx.kit_ok (SaysF.fx c2 94 (f := .kit "NoSign" "NoOctets" false) rfl)
    e_NoSign_NoOctets := Fx.exm_ok (SaysF.fx c2 95 (f := .exm "NoSign" "NoOctets" false) rfl)
    k_NoSign_NoPlace := Fx.kit_ok (SaysF.fx c2 96 (f := .kit "NoSign" "NoPlace" false) rfl)
    e_NoSign_NoPlace := Fx.exm_ok (SaysF.fx c2 97 (f := .exm "NoSign" "NoPlace" false) rfl)
    k_NoSign_NoSign := Fx.kit_ok (SaysF.fx c2 98 (f := .kit "NoSign" "NoSign" true) rfl)
    e_NoSign_NoSign := Fx.exm_ok (SaysF.fx c2 99 (f := .exm "NoSign" "NoSign" true) rfl)
    k_NoSign_NoTree := Fx.kit_ok (SaysF.fx c2 100 (f := .kit "NoSign" "NoTree" false) rfl)
    e_NoSign_NoTree := Fx.exm_ok (SaysF.fx c2 101 (f := .exm "NoSign" "NoTree" false) rfl)
    k_NoSign_NoWord := Fx.kit_ok (SaysF.fx c2 102 (f := .kit "NoSign" "NoWord" false) rfl)
    e_NoSign_NoWord := Fx.exm_ok (SaysF.fx c2 103 (f := .exm "NoSign" "NoWord" false) rfl)
    k_NoSign_TooMany := Fx.kit_ok (SaysF.fx c2 104 (f := .kit "NoSign" "TooMany" false) rfl)
    e_NoSign_TooMany := Fx.exm_ok (SaysF.fx c2 105 (f := .exm "NoSign" "TooMany" false) rfl)
    k_NoSign_Twice := Fx.kit_ok (SaysF.fx c2 106 (f := .kit "NoSign" "Twice" false) rfl)
    e_NoSign_Twice := Fx.exm_ok (SaysF.fx c2 107 (f := .exm "NoSign" "Twice" false) rfl)
    k_NoSign_WoodError := Fx.kit_ok (SaysF.fx c2 108 (f := .kit "NoSign" "WoodError" true) rfl)
    e_NoSign_WoodError := Fx.exm_ok (SaysF.fx c2 109 (f := .exm "NoSign" "WoodError" true) rfl)
    ec_NoTree := Fx.excC_ok (SaysF.fx c2 110 (f := .excC "NoTree") rfl)
    kt_NoTree := Fx.kitT_ok (SaysF.fx c2 111 (f := .kitT "NoTree" "ValueError" true) rfl)
    k_NoTree_NoBit := Fx.kit_ok (SaysF.fx c2 112 (f := .kit "NoTree" "NoBit" false) rfl)
    e_NoTree_NoBit := Fx.exm_ok (SaysF.fx c2 113 (f := .exm "NoTree" "NoBit" false) rfl)
    k_NoTree_NoNode := Fx.kit_ok (SaysF.fx c2 114 (f := .kit "NoTree" "NoNode" false) rfl)
    e_NoTree_NoNode := Fx.exm_ok (SaysF.fx c2 115 (f := .exm "NoTree" "NoNode" false) rfl)
    k_NoTree_NoOctets := Fx.kit_ok (SaysF.fx c2 116 (f := .kit "NoTree" "NoOctets" false) rfl)
    e_NoTree_NoOctets := Fx.exm_ok (SaysF.fx c2 117 (f := .exm "NoTree" "NoOctets" false) rfl)
    k_NoTree_NoPlace := Fx.kit_ok (SaysF.fx c2 118 (f := .kit "NoTree" "NoPlace" false) rfl)
    e_NoTree_NoPlace := Fx.exm_ok (SaysF.fx c2 119 (f := .exm "NoTree" "NoPlace" false) rfl)
    k_NoTree_NoSign := Fx.kit_ok (SaysF.fx c2 120 (f := .kit "NoTree" "NoSign" false) rfl)
    e_NoTree_NoSign := Fx.exm_ok (SaysF.fx c2 121 (f := .exm "NoTree" "NoSign" false) rfl)
    k_NoTree_NoTree := Fx.kit_ok (SaysF.fx c2 122 (f := .kit "NoTree" "NoTree" true) rfl)
    e_NoTree_NoTree := Fx.exm_ok (SaysF.fx c2 123 (f := .exm "NoTree" "NoTree" true) rfl)
    k_NoTree_NoWord := Fx.kit_ok (SaysF.fx c2 124 (f := .kit "NoTree" "NoWord" false) rfl)
    e_NoTree_NoWord := Fx.exm_ok (SaysF.fx c2 125 (f := .exm "NoTree" "NoWord" false) rfl)
    k_NoTree_TooMany := Fx.kit_ok (SaysF.fx c2 126 (f := .kit "NoTree" "TooMany" false) rfl)
    e_NoTree_TooMany := Fx.exm_ok (SaysF.fx c2 127 (f := .exm "NoTree" "TooMany" false) rfl)
    k_NoTree_Twice := Fx.kit_ok (SaysF.fx c2 128 (f := .kit "NoTree" "Twice" false) rfl)
    e_NoTree_Twice := Fx.exm_ok (SaysF.fx c2 129 (f := .exm "NoTree" "Twice" false) rfl)
    k_NoTree_WoodError := Fx.kit_ok (SaysF.fx c2 130 (f := .kit "NoTree" "WoodError" true) rfl)
    e_NoTree_WoodError := Fx.exm_ok (SaysF.fx c2 131 (f := .exm "NoTree" "WoodError" true) rfl)
    ec_NoWord := Fx.excC_ok (SaysF.fx c2 132 (f := .excC "NoWord") rfl)
    kt_NoWord := Fx.kitT_ok (SaysF.fx c2 133 (f := .kitT "NoWord" "ValueError" true) rfl)
    k_NoWord_NoBit := Fx.kit_ok (SaysF.fx c2 134 (f := .kit "NoWord" "NoBit" false) rfl)
    e_NoWord_NoBit := Fx.exm_ok (SaysF.fx c2 135 (f := .exm "NoWord" "NoBit" false) rfl)
    k_NoWord_NoNode := Fx.kit_ok (SaysF.fx c2 136 (f := .kit "NoWord" "NoNode" false) rfl)
    e_NoWord_NoNode := Fx.exm_ok (SaysF.fx c2 137 (f := .exm "NoWord" "NoNode" false) rfl)
    k_NoWord_NoOctets := Fx.kit_ok (SaysF.fx c2 138 (f := .kit "NoWord" "NoOctets" false) rfl)
    e_NoWord_NoOctets := Fx.exm_ok (SaysF.fx c2 139 (f := .exm "NoWord" "NoOctets" false) rfl)
    k_NoWord_NoPlace := Fx.kit_ok (SaysF.fx c2 140 (f := .kit "NoWord" "NoPlace" false) rfl)
    e_NoWord_NoPlace := Fx.exm_ok (SaysF.fx c2 141 (f := .exm "NoWord" "NoPlace" false) rfl)
    k_NoWord_NoSign := Fx.kit_ok (SaysF.fx c2 142 (f := .kit "NoWord" "NoSign" false) rfl)
    e_NoWord_NoSign := Fx.exm_ok (SaysF.fx c2 143 (f := .exm "NoWord" "NoSign" false) rfl)
    k_NoWord_NoTree := Fx.kit_ok (SaysF.fx c2 144 (f := .kit "NoWord" "NoTree" false) rfl)
    e_NoWord_NoTree := Fx.exm_ok (SaysF.fx c2 145 (f := .exm "NoWord" "NoTree" false) rfl)
    k_NoWord_NoWord := Fx.kit_ok (SaysF.fx c2 146 (f := .kit "NoWord" "NoWord" true) rfl)
    e_NoWord_NoWord := Fx.exm_ok (SaysF.fx c2 147 (f := .exm "NoWord" "NoWord" true) rfl)
    k_NoWord_TooMany := Fx.kit_ok (SaysF.fx c2 148 (f := .kit "NoWord" "TooMany" false) rfl)
    e_NoWord_TooMany := Fx.exm_ok (SaysF.fx c2 149 (f := .exm "NoWord" "TooMany" false) rfl)
    k_NoWord_Twice := Fx.kit_ok (SaysF.fx c2 150 (f := .kit "NoWord" "Twice" false) rfl)
    e_NoWord_Twice := Fx.exm_ok (SaysF.fx c2 151 (f := .exm "NoWord" "Twice" false) rfl)
    k_NoWord_WoodError := Fx.kit_ok (SaysF.fx c2 152 (f := .kit "NoWord" "WoodError" true) rfl)
    e_NoWord_WoodError := Fx.exm_ok (SaysF.fx c2 153 (f := .exm "NoWord" "WoodError" true) rfl)
    ec_TooMany := Fx.excC_ok (SaysF.fx c2 154 (f := .excC "TooMany") rfl)
    kt_TooMany := Fx.kitT_ok (SaysF.fx c2 155 (f := .kitT "TooMany" "ValueError" true) rfl)
    k_TooMany_NoBit := Fx.kit_ok (SaysF.fx c2 156 (f := .kit "TooMany" "NoBit" false) rfl)
    e_TooMany_NoBit := Fx.exm_ok (SaysF.fx c2 157 (f := .exm "TooMany" "NoBit" false) rfl)
    k_TooMany_NoNode := Fx.kit_ok (SaysF.fx c2 158 (f := .kit "TooMany" "NoNode" false) rfl)
    e_TooMany_NoNode := Fx.exm_ok (SaysF.fx c2 159 (f := .exm "TooMany" "NoNode" false) rfl)
    k_TooMany_NoOctets := Fx.kit_ok (SaysF.fx c2 160 (f := .kit "TooMany" "NoOctets" false) rfl)
    e_TooMany_NoOctets := Fx.exm_ok (SaysF.fx c2 161 (f := .exm "TooMany" "NoOctets" false) rfl)
    k_TooMany_NoPlace := Fx.kit_ok (SaysF.fx c2 162 (f := .kit "TooMany" "NoPlace" false) rfl)
    e_TooMany_NoPlace := Fx.exm_ok (SaysF.fx c2 163 (f := .exm "TooMany" "NoPlace" false) rfl)
    k_TooMany_NoSign := Fx.kit_ok (SaysF.fx c2 164 (f := .kit "TooMany" "NoSign" false) rfl)
    e_TooMany_NoSign := Fx.exm_ok (SaysF.fx c2 165 (f := .exm "TooMany" "NoSign" false) rfl)
    k_TooMany_NoTree := Fx.kit_ok (SaysF.fx c2 166 (f := .kit "TooMany" "NoTree" false) rfl)
    e_TooMany_NoTree := Fx.exm_ok (SaysF.fx c2 167 (f := .exm "TooMany" "NoTree" false) rfl)
    k_TooMany_NoWord := Fx.kit_ok (SaysF.fx c2 168 (f := .kit "TooMany" "NoWord" false) rfl)
    e_TooMany_NoWord := Fx.exm_ok (SaysF.fx c2 169 (f := .exm "TooMany" "NoWord" false) rfl)
    k_TooMany_TooMany := Fx.kit_ok (SaysF.fx c2 170 (f := .kit "TooMany" "TooMany" true) rfl)
    e_TooMany_TooMany := Fx.exm_ok (SaysF.fx c2 171 (f := .exm "TooMany" "TooMany" true) rfl)
    k_TooMany_Twice := Fx.kit_ok (SaysF.fx c2 172 (f := .kit "TooMany" "Twice" false) rfl)
    e_TooMany_Twice := Fx.exm_ok (SaysF.fx c2 173 (f := .exm "TooMany" "Twice" false) rfl)
    k_TooMany_WoodError := Fx.kit_ok (SaysF.fx c2 174 (f := .kit "TooMany" "WoodError" true) rfl)
    e_TooMany_WoodError := Fx.exm_ok (SaysF.fx c2 175 (f := .exm "TooMany" "WoodError" true) rfl)
    ec_Twice := Fx.excC_ok (SaysF.fx c2 176 (f := .excC "Twice") rfl)
    kt_Twice := Fx.kitT_ok (SaysF.fx c2 177 (f := .kitT "Twice" "ValueError" true) rfl)
    k_Twice_NoBit := Fx.kit_ok (SaysF.fx c2 178 (f := .kit "Twice" "NoBit" false) rfl)
    e_Twice_NoBit := Fx.exm_ok (SaysF.fx c2 179 (f := .exm "Twice" "NoBit" false) rfl)
    k_Twice_NoNode := Fx.kit_ok (SaysF.fx c2 180 (f := .kit "Twice" "NoNode" false) rfl)
    e_Twice_NoNode := Fx.exm_ok (SaysF.fx c2 181 (f := .exm "Twice" "NoNode" false) rfl)
    k_Twice_NoOctets := Fx.kit_ok (SaysF.fx c2 182 (f := .kit "Twice" "NoOctets" false) rfl)
    e_Twice_NoOctets := Fx.exm_ok (SaysF.fx c2 183 (f := .exm "Twice" "NoOctets" false) rfl)
    k_Twice_NoPlace := Fx.kit_ok (SaysF.fx c2 184 (f := .kit "Twice" "NoPlace" false) rfl)
    e_Twice_NoPlace := Fx.exm_ok (SaysF.fx c2 185 (f := .exm "Twice" "NoPlace" false) rfl)
    k_Twice_NoSign := Fx.kit_ok (SaysF.fx c2 186 (f := .kit "Twice" "NoSign" false) rfl)
    e_Twice_NoSign := Fx.exm_ok (SaysF.fx c2 187 (f := .exm "Twice" "NoSign" false) rfl)
    k_Twice_NoTree := Fx.kit_ok (SaysF.fx c2 188 (f := .kit "Twice" "NoTree" false) rfl)
    e_Twice_NoTree := Fx.exm_ok (SaysF.fx c2 189 (f := .exm "Twice" "NoTree" false) rfl)
    k_Twice_NoWord := Fx.kit_ok (SaysF.fx c2 190 (f := .kit "Twice" "NoWord" false) rfl)
    e_Twice_NoWord := Fx.exm_ok (SaysF.fx c2 191 (f := .exm "Twice" "NoWord" false) rfl)
    k_Twice_TooMany := Fx.kit_ok (SaysF.fx c2 192 (f := .kit "Twice" "TooMany" false) rfl)
    e_Twice_TooMany := Fx.exm_ok (SaysF.fx c2 193 (f := .exm "Twice" "TooMany" false) rfl)
    k_Twice_Twice := Fx.kit_ok (SaysF.fx c2 194 (f := .kit "Twice" "Twice" true) rfl)
    e_Twice_Twice := Fx.exm_ok (SaysF.fx c2 195 (f := .exm "Twice" "Twice" true) rfl)
    k_Twice_WoodError := Fx.kit_ok (SaysF.fx c2 196 (f := .kit "Twice" "WoodError" true) rfl)
    e_Twice_WoodError := Fx.exm_ok (SaysF.fx c2 197 (f := .exm "Twice" "WoodError" true) rfl)
    ec_WoodError := Fx.excC_ok (SaysF.fx c2 198 (f := .excC "WoodError") rfl)
    kt_WoodError := Fx.kitT_ok (SaysF.fx c2 199 (f := .kitT "WoodError" "ValueError" true) rfl)
    k_WoodError_NoBit := Fx.kit_ok (SaysF.fx c2 200 (f := .kit "WoodError" "NoBit" false) rfl)
    e_WoodError_NoBit := Fx.exm_ok (SaysF.fx c2 201 (f := .exm "WoodError" "NoBit" false) rfl)
    k_WoodError_NoNode := Fx.kit_ok (SaysF.fx c2 202 (f := .kit "WoodError" "NoNode" false) rfl)
    e_WoodError_NoNode := Fx.exm_ok (SaysF.fx c2 203 (f := .exm "WoodError" "NoNode" false) rfl)
    k_WoodError_NoOctets := Fx.kit_ok (SaysF.fx c2 204 (f := .kit "WoodError" "NoOctets" false) rfl)
    e_WoodError_NoOctets := Fx.exm_ok (SaysF.fx c2 205 (f := .exm "WoodError" "NoOctets" false) rfl)
    k_WoodError_NoPlace := Fx.kit_ok (SaysF.fx c2 206 (f := .kit "WoodError" "NoPlace" false) rfl)
    e_WoodError_NoPlace := Fx.exm_ok (SaysF.fx c2 207 (f := .exm "WoodError" "NoPlace" false) rfl)
    k_WoodError_NoSign := Fx.kit_ok (SaysF.fx c2 208 (f := .kit "WoodError" "NoSign" false) rfl)
    e_WoodError_NoSign := Fx.exm_ok (SaysF.fx c2 209 (f := .exm "WoodError" "NoSign" false) rfl)
    k_WoodError_NoTree := Fx.kit_ok (SaysF.fx c2 210 (f := .kit "WoodError" "NoTree" false) rfl)
    e_WoodError_NoTree := Fx.exm_ok (SaysF.fx c2 211 (f := .exm "WoodError" "NoTree" false) rfl)
    k_WoodError_NoWord := Fx.kit_ok (SaysF.fx c2 212 (f := .kit "WoodError" "NoWord" false) rfl)
    e_WoodError_NoWord := Fx.exm_ok (SaysF.fx c2 213 (f := .exm "WoodError" "NoWord" false) rfl)
    k_WoodError_TooMany := Fx.kit_ok (SaysF.fx c2 214 (f := .kit "WoodError" "TooMany" false) rfl)
    e_WoodError_TooMany := Fx.exm_ok (SaysF.fx c2 215 (f := .exm "WoodError" "TooMany" false) rfl)
    k_WoodError_Twice := Fx.kit_ok (SaysF.fx c2 216 (f := .kit "WoodError" "Twice" false) rfl)
    e_WoodError_Twice := Fx.exm_ok (SaysF.fx c2 217 (f := .exm "WoodError" "Twice" false) rfl)
    k_WoodError_WoodError := Fx.kit_ok (SaysF.fx c2 218 (f := .kit "WoodError" "WoodError" true) rfl)
    e_WoodError_WoodError := Fx.exm_ok (SaysF.fx c2 219 (f := .exm "WoodError" "WoodError" true) rfl)
  }
  }
theorem facts {P : Program} {w : World} {K : PySem.W.Frag} {h : Heap} {mg : Str → Option Value} (X : K.In h) (G : h.Ns mainGlobals mg) (c : SaysF faL fnL fxL K) (base : Heap) :
    Okf P w K mg base CX0 12 "law" ["_law_script"] (sp_law K) := by
  have T : Tx P w K mg base := tx_of X G c base
  have o_packed := ok_packed (P := P) (w := w) T 
  have o_ones_in := ok_ones_in (P := P) (w := w) T 
  have o_low_in := ok_low_in (P := P) (w := w) T 
  have o_ones_table := ok_ones_table (P := P) (w := w) T o_ones_in
  have o_kept_row := ok_kept_row (P := P) (w := w) T o_packed o_ones_table
  have o_size_of := ok_size_of (P := P) (w := w) T 
  have o_lesser_of := ok_lesser_of (P := P) (w := w) T 
  have o_heap_of := ok_heap_of (P := P) (w := w) T o_size_of o_lesser_of
  have o_is_tree := ok_is_tree (P := P) (w := w) T 
  have o_begin_height := ok_begin_height (P := P) (w := w) T 
  have o_kept_brackets := ok_kept_brackets (P := P) (w := w) T o_kept_row o_is_tree o_begin_height o_low_in o_heap_of
  have o_brackets_of := ok_brackets_of (P := P) (w := w) T 
  have o_kept_tree := ok_kept_tree (P := P) (w := w) T o_kept_brackets o_brackets_of
  have o_levels_for := ok_levels_for (P := P) (w := w) T 
  have o_kept_signs := ok_kept_signs (P := P) (w := w) T o_levels_for o_kept_row
  have o_is_word := ok_is_word (P := P) (w := w) T 
  have o_shared_letters := ok_shared_letters (P := P) (w := w) T 
  have o_kept_store := ok_kept_store (P := P) (w := w) T o_is_word o_shared_letters o_kept_tree o_kept_signs o_kept_row
  have o_law_cell_at := ok_law_cell_at (P := P) (w := w) T 
  have o_law_whole := ok_law_whole (P := P) (w := w) T 
  have o_law_spelt := ok_law_spelt (P := P) (w := w) T 
  have o_law_words := ok_law_words (P := P) (w := w) T o_law_spelt
  have o_law_many_words := ok_law_many_words (P := P) (w := w) T 
  have o_law_others := ok_law_others (P := P) (w := w) T 
  have o_law_told := ok_law_told (P := P) (w := w) T o_kept_store o_law_others o_law_whole
  have o_law_spoilt := ok_law_spoilt (P := P) (w := w) T 
  have o_law := ok_law (P := P) (w := w) T o_law_words o_law_cell_at o_law_many_words o_law_spoilt o_law_told
  exact o_law
theorem binds_law {K : PySem.W.Frag} (c : SaysF faL fnL fxL K) : ∃ fd : FuncData, FunD K "law" "law" (defArgs s_law) (defBody s_law) (defScope s_law) [] [] (He.ga K "law") fd := (SaysF.d c).def_ 26 (d := dd_law) rfl
end Tw
open PySem PySem.W PySem.Calls PyProof.Rows
set_option maxHeartbeats 0 in
theorem PySem.Challenge.cw_thinwood_k72_words_refused_holds : PySem.Challenge.rw_thinwood_k72_words_refused.Holds := by
  w_on; o_law
  refine HandSHeadRun.head_any (r := OpenLaw.row PySem.Challenge.rw_thinwood_k72_words_refused) (q := view (OpenLaw.row PySem.Challenge.rw_thinwood_k72_words_refused).prog [50]) (H := Tw.hk) (ob := Tw.ob) (M := 20000) (loose := Tw.looseL) (d := HandSHeadRun.topDef (OpenLaw.row PySem.Challenge.rw_thinwood_k72_words_refused).prog 50) (kwd := []) Tw.ob_eq
    Tw.z_e Tw.z_f Tw.run Tw.z_def Tw.z_hp Tw.z_hk (by rfl) (by first | assumption | decide +kernel) Tw.z_ok Tw.z_bare Tw.z_w ?hc
  case hc =>
    refine L2.walk_ofE (l := PySem.Challenge.rw_thinwood_k72_words_refused) (n := 63) (k := 12) (x := "_law_script") (CX := L2.CX0) rfl (by decide) (by as_aux_lemma => kernel_rfl) ⟨rfl, by decide, by decide⟩ ?F (fun _ _ _ _ z => z)
    intro w mg fa h Y G hmg0
    obtain ⟨K, KX, c⟩ := Y
    have hmg : mg ("law" : PySem.Str) = some (.ref fa) := by
      have e : (HandSHeadRun.topDef (OpenLaw.row PySem.Challenge.rw_thinwood_k72_words_refused).prog 50).name = ("law" : PySem.Str) := by kernel_rfl
      rw [← e]
      exact hmg0
    have e : fa = He.ga K "law" := by
      have z := hmg.symm.trans (Tw.facts (P := (PySem.Challenge.rw_thinwood_k72_words_refused).prog) (w := w) KX G c h).gl
      exact Value.ref.inj (Option.some.inj z)
    subst e
    obtain ⟨fd, FD⟩ := Tw.binds_law c
    refine ⟨K, fd, Tw.sp_law K, KX, fun s v => FunD.bindsA (ps := ["_law_script"]) FD (fun _ _ _ _ _ _ us hl => match us, hl with | [_], _ => rfl) s [v] rfl, fun H a ns hl _ hS => ⟨a, ns, rfl, hS, hl, fun _ => rfl⟩, fun base KB GB => ?_⟩
    exact Tw.okf_fn (Tw.facts KB GB c base) FD
#print axioms PySem.Challenge.cw_thinwood_k72_words_refused_holds
