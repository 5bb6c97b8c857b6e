import PyProof.Rows.All
import Wide.All
import OpenK.AllK
import Wide.FinOn
import KE.KStateDown
import Lean
import HandS.ForMost
import HandS.ForExc
import HandS.Steps
import HandS.IsInst
import HandS.Wide
import HandS.WideBits
import HandS.Defaults
import HandS.Flow
import HandS.Style
import HandS.ExcIs
import HandS.TryMany
import HandS.Evl
import HandS.Walk
import HandS.Rev
import HandS.Conv
import HandS.RevRange
import HandS.SortInts
import HandS.Head0
import HandS.Head1
import HandS.Head2
import HandS.HeadEnd
import HandS.HeadHook1
import HandS.HeadHook2
import HandS.Deep
import HandS.Lambda
import HandS.HeadHook4
import HandS.HeadWalk
import HandS.Nested
import PySem.Challenge.RW_thinwood_k85_rows_read
set_option Elab.async false
set_option linter.all false
set_option maxRecDepth 100000
set_option maxHeartbeats 4000000
open PySem PySem.W PySem.Calls PyProof.Rows in
section
namespace Tw
abbrev R0 : PySem.W.OpenRow := PySem.W.OpenLaw.row PySem.Challenge.rw_thinwood_k85_rows_read
abbrev q0 : PySem.Program := PySem.W.view R0.prog [44]
abbrev d0 : PySem.DefRec := HandSHeadRun.topDef R0.prog 44
open PySem PySem.W PySem.Calls PyProof.Rows
theorem z_e : opening R0.prog = plainProg R0.prog.main.scope.names := by kernel_rfl
theorem z_f : ∀ s, fenceModules? R0.prog s = some s := fun s => by kernel_rfl
theorem z_def : defOf q0 R0.name = some (d0, []) := by kernel_rfl
theorem z_hp : R0.prog.theDef R0.name = some (d0.params, d0.body, d0.scope) := by kernel_rfl
theorem z_hk : kwWritten? d0.params.kwonlyargs d0.params.kw_defaults = some [] := by kernel_rfl
theorem z_ok : (chainsOk q0 && opensWell R0.prog && (frees R0.toRowW && R0.within.isEmpty)) = true := by decide +kernel
theorem z_bare : R0.prog.bare := ⟨rfl, rfl, rfl, rfl, rfl, by decide +kernel⟩
set_option maxHeartbeats 0 in
theorem z_w : R0.toRowW.promised := by w_witness2
end Tw
end
set_option Elab.async false
set_option linter.all false
set_option maxRecDepth 100000
set_option maxHeartbeats 4000000
namespace Tw
open PySem PySem.Spec PyProof.Rows L2
def nmL (l _c : Nat) : Str := ""
def tabL : List Str := []
/-! ### heaps: all that was tracked is as it was, but for code tables, which may have grown -/
class NT (o : HO) : Prop where
  ne : ∀ ps, o ≠ .tbl ps
instance {xs : List V} : NT (.lst xs) := ⟨fun _ z => nomatch z⟩
instance {xs : List V} : NT (.tup xs) := ⟨fun _ z => nomatch z⟩
instance {o : Obj} {u : HO} : NT (.frz o u) := ⟨fun _ z => nomatch z⟩
instance {φ : Heap → Prop} : NT (.ext φ) := ⟨fun _ z => nomatch z⟩
instance {S : Int → Bool} {n : Nat} : NT (.set S n) := ⟨fun _ z => nomatch z⟩
instance {kvs : List (Key × V)} : NT (.dK kvs) := ⟨fun _ z => nomatch z⟩
instance {C dx : Addr} {fs : List (Str × V)} : NT (.ins C dx fs) := ⟨fun _ z => nomatch z⟩
instance {x : Addr} : NT (.own x) := ⟨fun _ z => nomatch z⟩
structure Same (H H' : Hp) : Prop where
  keep : ∀ b o, H b = some o → (∀ ps, o ≠ .tbl ps) → H' b = some o
  gone : ∀ b, H' b = none → H b = none
  tabs : ∀ P, NdefX.TabN H P nmL → NdefX.TabN H' P nmL
theorem Same.get {H H' : Hp} (s : Same H H') {b : Addr} {o : HO} [NT o] (e : H b = some o) : H' b = some o := s.keep b o e NT.ne
theorem Same.of {H H' : Hp} (e : ∀ b o, H b = some o → H' b = some o) : Same H H' := by
  refine ⟨fun b o h _ => e b o h, fun b h => ?_, fun P t => NdefX.TabN.ext t e⟩
  cases q : H b with
  | none => rfl
  | some o => rw [e b o q] at h; cases h
theorem Same.refl (H : Hp) : Same H H := .of fun _ _ h => h
theorem Same.trans {H H1 H2 : Hp} (a : Same H H1) (b : Same H1 H2) : Same H H2 := ⟨fun c o h n => b.keep c o (a.keep c o h n) n, fun c h => a.gone c (b.gone c h), fun P t => b.tabs P (a.tabs P t)⟩
theorem Same.free {H H' : Hp} (e : Same H H') {l : Addr} (h : H' l = Option.none) : H l = Option.none := e.gone l h
theorem Same.seq {K : PySem.W.Frag} {H H' : Hp} {a : Addr} {xs : List V} (e : Same H H') (h : SqL K H a xs) : SqL K H' a xs := by
  rcases h with (h | ⟨o, h⟩) | h
  · exact .inl (.inl (e.get h))
  · exact .inl (.inr ⟨o, e.get h⟩)
  · exact .inr h
theorem same_new {H : Hp} {p : Addr} {o : HO} (h : H p = none) : Same H (upd H p o) := .of fun b x e => by
  rw [upd_ne (ne_of_none e h)]; exact e
/-- an object that H does not know may change -/
theorem Same.mut {H H' : Hp} {p : Addr} {o : HO} (e : Same H H') (h : H p = none) (hl : ∃ xs, H' p = some (.lst xs) := by exact ⟨_, by assumption⟩) : Same H (upd H' p o) := by
  obtain ⟨xs, hl⟩ := hl
  refine ⟨fun b x hb n => by rw [upd_ne (ne_of_none hb h)]; exact e.keep b x hb n, fun b hb => e.gone b (NdefX.upd_none hb), fun P t => ?_⟩
  obtain ⟨ps, h1, ht, hc⟩ := e.tabs P t
  have np : ∀ {b : Addr} {u : HO}, H' b = some u → (∀ xs, u ≠ .lst xs) → b ≠ p := fun {b u} q d z => by
    subst z; rw [hl] at q; cases q; exact d _ rfl
  refine ⟨ps, by rw [upd_ne (np h1 fun _ z => nomatch z)]; exact h1, ht, fun pos cv q => ?_⟩
  obtain ⟨c, e1, e2⟩ := hc pos cv q
  exact ⟨c, e1, by rw [upd_ne (np e2 fun _ z => by unfold LamX.CodeO at z; cases z)]; exact e2⟩
theorem Same.seqT {K : PySem.W.Frag} {H H' : Hp} {a : Addr} {xs : List V} (e : Same H H') (h : SqT K H a xs) : SqT K H' a xs := by
  rcases h with (h | ⟨o, h⟩) | h
  · exact .inl (.inl (e.get h))
  · exact .inl (.inr ⟨o, e.get h⟩)
  · exact .inr h
theorem Same.ne {H : Hp} {a p : Addr} {o : HO} (h : H p = none) (e : H a = some o) : a ≠ p := ne_of_none e h
/-! ### a def by its global name, and its call -/
/-- the def named x keeps the promise sp -/
structure Okf (P : Program) (w : World) (K : PySem.W.Frag) (mg : Str → Option Value) (base : Heap) (CX : CXT) (k : Nat) (x : Str) (ps : List Str) (sp : Sp) : Prop where
  ex : ∃ fd : FuncData, (∃ (oc : Value) (od : Option Addr) (osl : Array (Option Value)), K.lookup (He.ga K x) = some ⟨oc, od, .func fd, osl⟩) ∧ Binds K fd ps [] ∧ FnOk P w K mg base CX k (He.ga K x) fd ps sp
  kp : PySem.W.keepIn K (.ref (He.ga K x)) = true
  gl : mg x = some (.ref (He.ga K x))
theorem FunD.look {K : PySem.W.Frag} {x qual : Str} {params : Arguments} {body : List Stmt} {scope : Scope} {dvs : List V} {kws : List (Str × V)} {f : Addr} {fd : FuncData} (F : FunD K x qual params body scope dvs kws f fd) :
    ∃ (oc : Value) (od : Option Addr) (osl : Array (Option Value)), K.lookup f = some ⟨oc, od, .func fd, osl⟩ := by
  obtain ⟨oc, od, dV, kV, doc, pm, an, cdv, ct, osl, e, lk, _⟩ := F.ex
  exact ⟨oc, od, osl, lk⟩
section
variable {X : Cx} {CX : CXT} {k j : Nat} {ps : List Str} {sp : Sp} {E : XK} {x : Str} {p pos : Pos} {e : Expr} {es : List Expr} {t : TA}
theorem pe_callF (F : Okf X.prog X.w X.K X.mg X.base CX k x ps sp) (hr : Room j X.A) (hk : k ≤ j) (hg : Gl X x) (hx : Passes CX X E)
    (ha : PA X (e :: es) t) (hdb : (x == ("__debug__" : Str)) = false := by decide) (he : starEach (e :: es) X.env = (false, eval e X.env) :: starEach es X.env := by rfl) (hpl : (backTo pos (starEach es X.env)).any (·.1) = false := by rfl) :
    PE X (.Call (.Name x p) (e :: es) [] pos) (tCall sp [] E t) := by
  obtain ⟨fd, _, hb, ok⟩ := F.ex
  exact pe_call ok (hr.mono hk) hg F.gl F.kp hb .nil hx ha hdb he hpl
theorem pe_callF0 (F : Okf X.prog X.w X.K X.mg X.base CX k x ps sp) (hr : Room j X.A) (hk : k ≤ j) (hg : Gl X x) (hx : Passes CX X E)
    (hdb : (x == ("__debug__" : Str)) = false := by decide) : PE X (.Call (.Name x p) [] [] pos) (tCall sp [] E tNil) := by
  obtain ⟨fd, _, hb, ok⟩ := F.ex
  exact pe_call0 ok (hr.mono hk) hg F.gl F.kp hb .nil hx hdb
theorem Okf.imp {P : Program} {w : World} {K : PySem.W.Frag} {mg : Str → Option Value} {base : Heap} {sp' : Sp} (F : Okf P w K mg base CX k x ps sp)
    (h : ∀ vs H Q E, sp' vs H Q E → sp vs H Q E) : Okf P w K mg base CX k x ps sp' := by
  obtain ⟨⟨fd, lk, hb, ok⟩, kp, gl⟩ := F
  exact ⟨⟨fd, lk, hb, ok.imp h⟩, kp, gl⟩
theorem okf_fn {P : Program} {w : World} {K : PySem.W.Frag} {mg : Str → Option Value} {base : Heap} {params : Arguments} {body : List Stmt} {scope : Scope} {qual y : Str} {fd : FuncData} {dvs : List V} {kws : List (Str × V)} (F : Okf P w K mg base CX k x ps sp)
    (FD : FunD K y qual params body scope dvs kws (He.ga K x) fd) : FnOk P w K mg base CX k (He.ga K x) fd ps sp := by
  obtain ⟨⟨fd', ⟨_, _, _, lk'⟩, hb, ok⟩, kp, gl⟩ := F
  obtain ⟨_, _, _, lk⟩ := FunD.look FD
  rw [lk] at lk'
  injection lk' with e
  injection e with _ _ e
  injection e with e
  subst e
  exact ok
/-- a global int, as a constant -/
theorem pe_gint {i : Int} (h : ∃ t, X.mg x = some (.int i t)) (hg : Gl X x) (hd : (x == ("__debug__" : Str)) = false := by decide) : PE X (.Name x pos) (tC (.int i)) := by
  obtain ⟨t, h⟩ := h
  exact pe_glob hg h ⟨_, rfl⟩ hd
/-- a constant that the text reckons -/
theorem pe_cst {v : Int} {te : TE} (h : PE X e te) (hi : ∀ (σ : L2.St) (H : Hp) (Q : VK), Q (.int v) H → te σ H Q) : PE X e (tC (.int v)) :=
  ⟨fun pins s σ H Q I q => h.run pins s σ H Q I (hi σ H Q q)⟩
/-- e & 1 -/
def rAnd1 : R2 := fun x y H Q => ∃ i : Int, x = .int i ∧ y = .int 1 ∧ Q (.int (i % 2)) H
theorem op_and1 : OpR X (binaryOp .BitAnd) rAnd1 := by
  intro pins s σ H x y v u Q I rx ry h
  obtain ⟨i, rfl, rfl, q⟩ := h
  exact op_andM pins s σ H (.int i) (.int (2 ^ 1 - 1)) v u Q I rx ry ⟨i, 1, rfl, rfl, q⟩
/-- isinstance(x, T), T a built-in type's name -/
def rIsB : List V → Hp → VK → Prop := fun xs H Q => ∃ (x : V) (n : String), xs = [x, .ty n] ∧ ∃ (t : String) (b : Bool), (∀ K : PySem.W.Frag, TyX K H x (.type t)) ∧ kitB t n = some b ∧ Q (.bl b) H
theorem call_isB : CallR X (.builtin "isinstance") rIsB := by
  intro pins s σ H xs us Q I r h
  obtain ⟨x, n, rfl, t, b, ty, e, q⟩ := h
  exact call_isi pins s σ H [x, .ty n] us Q I r ⟨x, .ty n, .type t, .type n, b, rfl, .ty n, ty _, kit_ty e, q⟩
end
/-! ### names of the operators' readings -/
abbrev rPlus : R2 := rI0 fun i j => .int (i + j)
abbrev rMinus : R2 := rI0 fun i j => .int (i - j)
abbrev rTimes : R2 := rI CMul fun i j => .int (i * j)
abbrev rDiv : R2 := rI CDiv fun i j => .int (i / j)
abbrev rDivW : R2 := rI CDivW fun i j => .int (i / j)
abbrev rMod : R2 := rI (fun _ j => 0 < j) fun i j => .int (i % j)
abbrev rPow : R2 := rI CPow fun i j => .int (i ^ j.toNat)
abbrev rShl : R2 := rI CPow fun i j => .int (i * 2 ^ j.toNat)
abbrev rShr : R2 := rI (fun _ j => 0 ≤ j) fun i j => .int (i / 2 ^ j.toNat)
abbrev rBitAnd : R2 := rI0 fun i j => .int (Builtin.bitAnd i j)
abbrev rBitOr : R2 := rI0 fun i j => .int (Builtin.bitOr i j)
abbrev rBitXor : R2 := rI0 fun i j => .int (Builtin.bitXor i j)
abbrev rLt : R2 := rI0 fun i j => .bl (decide (i < j))
abbrev rLe : R2 := rI0 fun i j => .bl (decide (i ≤ j))
abbrev rGtI : R2 := rI0 fun i j => .bl (decide (j < i))
abbrev rGeI : R2 := rI0 fun i j => .bl (decide (j ≤ i))
abbrev rShlW : R2 := rI CShl fun i j => .int (i * 2 ^ j.toNat)
def rDivmod : List V → Hp → VK → Prop := fun xs H Q => ∃ i j, xs = [.int i, .int j] ∧ CDivP i j ∧ ∀ p, H p = none → Q (.ref p) (upd H p (.tup [.int (i / j), .int (i % j)]))
abbrev rNeg : V → Hp → VK → Prop := rU fun i => .int (-i)
/-! ### steps of a reading -/
section
variable {D : Ends} {σ : L2.St} {H : Hp} {Q : VK} {Qb : Bool → Hp → Prop} {ta tb te : TE} {t u v : TS} {c d : TT} {i : Nat} {x y z : V} {r : R2} {K : PySem.W.Frag}
theorem k_seq (h : t { D with nx := u D } σ H) : tSeq t u D σ H := h
theorem k_next (h : D.nx σ H) : tNext D σ H := h
theorem k_asg (h : te σ H fun x H1 => D.nx (σ.set i (some x)) H1) : tAsg te (gName i) D σ H := h
theorem k_drop (h : te σ H fun _ H1 => D.nx σ H1) : tDrop te D σ H := h
theorem k_ret (h : te σ H D.rt) : tRet te D σ H := h
theorem k_retN (h : D.rt .non H) : tRetN D σ H := h
theorem k_if (h : c σ H fun b H1 => if b = true then t D σ H1 else u D σ H1) : tIfS c t u D σ H := h
theorem k_var (h : σ[i]? = some (some x)) (q : Q x H) : tVar i σ H Q := ⟨x, h, q⟩
theorem k_c (q : Q x H) : tC x σ H Q := q
theorem k_op (h : ta σ H fun x H1 => tb σ H1 fun y H2 => r x y H2 Q) : tOp r ta tb σ H Q := h
theorem k_un {r : V → Hp → VK → Prop} (h : ta σ H fun x H1 => r x H1 Q) : tUn r ta σ H Q := h
theorem k_I0 {g : Int → Int → V} {a b : Int} (q : Q (g a b) H) : rI0 g (.int a) (.int b) H Q := ⟨a, b, rfl, rfl, q⟩
theorem k_I {C : Int → Int → Prop} {g : Int → Int → V} {a b : Int} (hc : C a b) (q : Q (g a b) H) : rI C g (.int a) (.int b) H Q := ⟨a, b, rfl, rfl, hc, q⟩
theorem k_U {g : Int → V} {a : Int} (q : Q (g a) H) : rU g (.int a) H Q := ⟨a, rfl, q⟩
theorem k_and1 {a : Int} (q : Q (.int (a % 2)) H) : rAnd1 (.int a) (.int 1) H Q := ⟨a, rfl, rfl, q⟩
theorem k_eqI {a b : Int} (q : Q (.bl (decide (a = b))) H) : rEq (.int a) (.int b) H Q := ⟨rfl, by
  have e : decide ((V.int a : V) = V.int b) = decide (a = b) := by simp
  rw [e]; exact q⟩
theorem k_neI {a b : Int} (q : Q (.bl (!decide (a = b))) H) : rNe (.int a) (.int b) H Q := ⟨rfl, by
  have e : decide ((V.int a : V) = V.int b) = decide (a = b) := by simp
  rw [e]; exact q⟩
theorem k_eq (hs : scal x y = true) (q : Q (.bl (decide (x = y))) H) : rEq x y H Q := ⟨hs, q⟩
theorem k_ne (hs : scal x y = true) (q : Q (.bl (!decide (x = y))) H) : rNe x y H Q := ⟨hs, q⟩
theorem k_isN (q : Q (.bl (decide (x = .non))) H) : rIsN x .non H Q := ⟨rfl, q⟩
theorem k_notN (q : Q (.bl (!decide (x = .non))) H) : rNotN x .non H Q := ⟨rfl, q⟩
def BlK (Qb : Bool → Hp → Prop) (x : V) (H : Hp) : Prop := ∃ k, x = .bl k ∧ Qb k H
theorem k_test (h : te σ H (BlK Qb)) : tTest te σ H Qb := h
theorem k_tB (h : te σ H (BlK Qb)) : tB te σ H Qb := h
theorem k_bl {b : Bool} (q : Qb b H) : BlK Qb (V.bl b) H := ⟨b, rfl, q⟩
theorem k_and (h : c σ H fun b H1 => if b = true then d σ H1 Qb else Qb false H1) : tAnd c d σ H Qb := h
theorem k_or (h : c σ H fun b H1 => if b = true then Qb true H1 else d σ H1 Qb) : tOr c d σ H Qb := h
theorem k_not (h : c σ H fun b H1 => Qb (!b) H1) : tNot c σ H Qb := h
def ChainK (Q : VK) (u : Hp → Prop) (z : V) (H : Hp) : Prop := ∃ k, z = .bl k ∧ (if k = true then u H else Q (.bl false) H)
theorem k_chain {r' : R2} {tc : TE} (h : ta σ H fun x H1 => tb σ H1 fun y H2 => r x y H2 (ChainK Q fun H3 => tc σ H3 fun w H4 => r' y w H4 Q)) : tChain r r' ta tb tc σ H Q := h
theorem k_chainE {u : Hp → Prop} {b : Bool} (h : if b = true then u H else Q (.bl false) H) : ChainK Q u (.bl b) H := ⟨b, rfl, h⟩
theorem k_andV (h : ta σ H (BlK fun k H1 => if k = true then tb σ H1 Q else Q (.bl false) H1)) : tAndV ta tb σ H Q := h
theorem k_orV (h : ta σ H (BlK fun k H1 => if k = true then Q (.bl true) H1 else tb σ H1 Q)) : tOrV ta tb σ H Q := h
theorem k_notV (h : ta σ H (BlK fun k H1 => Q (.bl (!k)) H1)) : tNotV ta σ H Q := h
theorem k_ifE (h : c σ H fun b H1 => if b = true then ta σ H1 Q else tb σ H1 Q) : tIf c ta tb σ H Q := h
theorem k_cons {Qv : List V → Hp → Prop} {tr : TA} (h : ta σ H fun x H1 => tr σ H1 fun xs H2 => Qv (x :: xs) H2) : tCons ta tr σ H Qv := h
theorem k_nil {Qv : List V → Hp → Prop} (h : Qv [] H) : tNil σ H Qv := h
theorem k_call {sp : Sp} {dvs : List V} {E : XK} {tr : TA} (h : tr σ H fun vs H1 => sp (vs ++ dvs) H1 Q E) : tCall sp dvs E tr σ H Q := h
theorem k_cb {rc : List V → Hp → VK → Prop} {tr : TA} (h : tr σ H fun vs H1 => rc vs H1 Q) : tCB rc tr σ H Q := h
theorem k_tup {tr : TA} (h : tr σ H fun xs H1 => xs.length ≤ sizeLine ∧ ∀ p, H1 p = none → Q (.ref p) (upd H1 p (.tup xs))) : tTup tr σ H Q := h
theorem k_lst {tr : TA} (h : tr σ H fun xs H1 => xs.length ≤ sizeLine ∧ ∀ p, H1 p = none → Q (.ref p) (upd H1 p (.lst xs))) : tLst tr σ H Q := h
theorem k_disp {A : Prop} {xs : List V} (h : xs.length ≤ 1000) (q : A) : xs.length ≤ sizeLine ∧ A := ⟨Nat.le_trans h (by decide), q⟩
theorem k_aug {ti : TIp} (hx : σ[i]? = some (some x)) (h : te σ H fun y H1 => ti x y H1 fun z H2 => D.nx (σ.set i (some z)) H2) : tAug i te ti D σ H := ⟨x, hx, h⟩
theorem k_ipI {f : Int → Int → Int} {a b : Int} (q : Q (.int (f a b)) H) : ipI f (.int a) (.int b) H Q := ⟨a, b, rfl, rfl, q⟩
theorem k_sl {rs : V → Option Int → Option Int → Hp → VK → Prop} {tl th : TO} (h : te σ H fun x H1 => tl σ H1 fun l H2 => th σ H2 fun u H3 => rs x l u H3 Q) : tSl rs te tl th σ H Q := h
def PartK (Qo : Option Int → Hp → Prop) (x : V) (H : Hp) : Prop := ∃ j, x = .int j ∧ Qo (some j) H
theorem k_part {Qo : Option Int → Hp → Prop} (h : te σ H (PartK Qo)) : tPart te σ H Qo := h
theorem k_partE {Qo : Option Int → Hp → Prop} {a : Int} (h : Qo (some a) H) : PartK Qo (.int a) H := ⟨a, rfl, h⟩
theorem k_noPart {Qo : Option Int → Hp → Prop} (h : Qo none H) : tNoPart σ H Qo := h
theorem k_bm {T : String} {rm : V → List V → Hp → VK → Prop} {tr : TA} (h : te σ H fun x H1 => tyV K T x H1 ∧ tr σ H1 fun xs H2 => rm x xs H2 Q) : tBM K T rm te tr σ H Q := h
theorem k_bm0 {T : String} {rm : V → List V → Hp → VK → Prop} (h : te σ H fun x H1 => tyV K T x H1 ∧ rm x [] H1 Q) : tBM0 K T rm te σ H Q := h
theorem k_app {l : Addr} {xs : List V} (h : H l = some (.lst xs)) (hl : xs.length < 100000) (q : Q .non (upd H l (.lst (xs ++ [y])))) : rAppend (.ref l) [y] H Q := ⟨l, xs, y, rfl, rfl, h, Nat.lt_of_lt_of_le hl (by decide), q⟩
theorem k_tyL {l : Addr} {xs : List V} {A : Prop} (h : SqL K H l xs) (q : A) : tyV K "list" (.ref l) H ∧ A := ⟨.inl ⟨rfl, _, h⟩, q⟩
theorem k_ixL {p : Addr} {xs : List V} {a : Int} (h : SqL K H p xs) (e : atI xs a = some x) (q : Q x H) : rIxL K (.ref p) (.int a) H Q := ⟨p, xs, a, x, rfl, rfl, h, e, q⟩
theorem k_ixT {p : Addr} {xs : List V} {a : Int} (h : SqT K H p xs) (e : atI xs a = some x) (q : Q x H) : rIxT K (.ref p) (.int a) H Q := ⟨p, xs, a, x, rfl, rfl, h, e, q⟩
theorem k_slL {p : Addr} {xs : List V} {lo hi : Option Int} (h : SqL K H p xs) (q : ∀ l, H l = none → Q (.ref l) (upd H l (.lst (cutV xs lo hi)))) : rSlL K (.ref p) lo hi H Q := ⟨p, xs, rfl, h, q⟩
def rLen (K : PySem.W.Frag) : List V → Hp → VK → Prop := fun xs H Q => ∃ p ys, xs = [.ref p] ∧ (SqL K H p ys ∨ SqT K H p ys) ∧ Q (.int ys.length) H
theorem call_lenK {X : Cx} : CallR X (.builtin "len") (rLen X.K) := call_len_seq
theorem k_lenL {p : Addr} {xs : List V} (h : SqL K H p xs) (q : Q (.int (xs.length : Int)) H) : rLen K [.ref p] H Q := ⟨p, xs, rfl, .inl h, q⟩
theorem k_lenT {p : Addr} {xs : List V} (h : SqT K H p xs) (q : Q (.int (xs.length : Int)) H) : rLen K [.ref p] H Q := ⟨p, xs, rfl, .inr h, q⟩
def rInsert : V → List V → Hp → VK → Prop := fun x vs H Q => ∃ (l : Addr) (xs : List V) (i : Int) (y : V), x = .ref l ∧ vs = [.int i, y] ∧ H l = some (.lst xs) ∧ xs.length < sizeLine ∧ 0 ≤ i ∧ i < 2 ^ 63 ∧ Q .non (upd H l (.lst (xs.take i.toNat ++ [y] ++ xs.drop i.toNat)))
theorem k_insert {l : Addr} {xs : List V} {i : Nat} (h : H l = some (.lst xs)) (hz : xs.length ≤ 100000) (hi : i ≤ 100000) (q : Q .non (upd H l (.lst (xs.take i ++ [y] ++ xs.drop i)))) : rInsert (.ref l) [.int (i : Int), y] H Q := ⟨l, xs, i, y, rfl, rfl, h, Nat.lt_of_le_of_lt hz (by decide), by omega, by omega, by rw [Int.toNat_natCast]; exact q⟩
theorem k_popAt {l : Addr} {xs : List V} {i : Nat} (h : H l = some (.lst xs)) (hi : i < xs.length) (hz : xs.length ≤ 100000) (e : xs[i]? = some y) (q : Q y (upd H l (.lst (xs.eraseIdx i)))) : rPopAt (.ref l) [.int (i : Int)] H Q := ⟨l, xs, i, i, y, rfl, rfl, h, by omega, by omega, by unfold PySem.seqIndex?; simp; omega, e, q⟩
theorem k_clear {l : Addr} {xs : List V} (h : H l = some (.lst xs)) (q : Q .non (upd H l (.lst []))) : rClear (.ref l) [] H Q := ⟨l, xs, rfl, rfl, h, q⟩
theorem k_extend {l b : Addr} {xs zs : List V} (h : H l = some (.lst xs)) (h2 : H b = some (.lst zs)) (hn : xs.length + zs.length ≤ 1000000) (q : Q .non (upd H l (.lst (xs ++ zs)))) : rExtend (.ref l) [.ref b] H Q := ⟨l, b, xs, zs, rfl, rfl, h, h2, Nat.le_trans hn (by decide), q⟩
theorem k_pop {l : Addr} {xs : List V} (h : H l = some (.lst (xs ++ [y]))) (q : Q y (upd H l (.lst xs))) : rPop (.ref l) [] H Q := ⟨l, xs ++ [y], y, rfl, rfl, h, by simp, by rw [List.dropLast_concat]; exact q⟩
def rInt1 : List V → Hp → VK → Prop := fun xs H Q => (∃ i, xs = [.int i] ∧ Q (.int i) H) ∨ ∃ k : Bool, xs = [.bl k] ∧ Q (.int (if k then 1 else 0)) H
theorem k_intB {k : Bool} (q : Q (.int (if k then 1 else 0)) H) : rInt1 [.bl k] H Q := .inr ⟨k, rfl, q⟩
def rTupOf (K : PySem.W.Frag) : List V → Hp → VK → Prop := fun xs H Q => ∃ p ys, xs = [.ref p] ∧ ((SqL K H p ys ∧ ∀ l, H l = none → Q (.ref l) (upd H l (.tup ys))) ∨ (SqT K H p ys ∧ Q (.ref p) H))
theorem call_tupK {X : Cx} : CallR X (.type "tuple") (rTupOf X.K) := call_tuple_of
theorem k_tupL {p : Addr} {xs : List V} (h : SqL K H p xs) (q : ∀ l, H l = none → Q (.ref l) (upd H l (.tup xs))) : rTupOf K [.ref p] H Q := ⟨p, xs, rfl, .inl ⟨h, q⟩⟩
def rLenStr : List V → Hp → VK → Prop := fun xs H Q => ∃ z : Str, xs = [.str z] ∧ z.length ≤ sizeLine ∧ Q (.int z.length) H
def rAddStr : R2 := fun x y H Q => ∃ i j : Str, x = .str i ∧ y = .str j ∧ i.length + j.length ≤ sizeLine ∧ Q (.str (i ++ j)) H
def rMin2 : List V → Hp → VK → Prop := fun xs H Q => ∃ i j, xs = [.int i, .int j] ∧ Q (.int (if j < i then j else i)) H
def rMax2 : List V → Hp → VK → Prop := fun xs H Q => ∃ i j, xs = [.int i, .int j] ∧ Q (.int (if j > i then j else i)) H
theorem call_min2K {X : Cx} (hc : X.calm = true) : CallR X (.builtin "min") rMin2 := call_min2 hc
theorem call_max2K {X : Cx} (hc : X.calm = true) : CallR X (.builtin "max") rMax2 := call_max2 hc
theorem k_min2 {a b : Int} (q : Q (.int (if b < a then b else a)) H) : rMin2 [.int a, .int b] H Q := ⟨a, b, rfl, q⟩
theorem k_max2 {a b : Int} (q : Q (.int (if b > a then b else a)) H) : rMax2 [.int a, .int b] H Q := ⟨a, b, rfl, q⟩
def rListOf (K : PySem.W.Frag) : List V → Hp → VK → Prop := fun xs H Q => ∃ p ys, xs = [.ref p] ∧ (SqL K H p ys ∨ SqT K H p ys) ∧ ∀ l, H l = none → Q (.ref l) (upd H l (.lst ys))
theorem call_listK {X : Cx} : CallR X (.type "list") (rListOf X.K) := call_list_of
theorem k_listL {p : Addr} {xs : List V} (h : SqL K H p xs) (q : ∀ l, H l = none → Q (.ref l) (upd H l (.lst xs))) : rListOf K [.ref p] H Q := ⟨p, xs, rfl, .inl h, q⟩
theorem k_sum {p : Addr} {ns : List Int} (h : SqL K H p (ns.map V.int)) (q : Q (.int ns.sum) H) : rSum K [.ref p] H Q := ⟨p, ns, rfl, h, q⟩
theorem k_isInt {a : Int} (q : Q (.bl true) H) : rIsB [.int a, .ty "int"] H Q := ⟨.int a, "int", rfl, "int", true, fun _ => .base (.int a), by decide +kernel, q⟩
theorem k_isBool {a : Int} (q : Q (.bl false) H) : rIsB [.int a, .ty "bool"] H Q := ⟨.int a, "bool", rfl, "int", false, fun _ => .base (.int a), by decide +kernel, q⟩
theorem k_isBoolB {b : Bool} (q : Q (.bl true) H) : rIsB [.bl b, .ty "bool"] H Q := ⟨.bl b, "bool", rfl, "bool", true, fun _ => .base (.bl b), by decide +kernel, q⟩
theorem k_isIntB {b : Bool} (q : Q (.bl true) H) : rIsB [.bl b, .ty "int"] H Q := ⟨.bl b, "int", rfl, "bool", true, fun _ => .base (.bl b), by decide +kernel, q⟩
theorem k_isIntN (q : Q (.bl false) H) : rIsB [.non, .ty "int"] H Q := ⟨.non, "int", rfl, "NoneType", false, fun _ => .base .non, by decide +kernel, q⟩
theorem k_isList {a : Addr} {xs : List V} (h : H a = some (.lst xs)) (q : Q (.bl true) H) : rIsB [.ref a, .ty "list"] H Q := ⟨.ref a, "list", rfl, "list", true, fun _ => .base (.lst h), by decide +kernel, q⟩
theorem k_isTup {a : Addr} {xs : List V} (h : H a = some (.tup xs)) (q : Q (.bl true) H) : rIsB [.ref a, .ty "tuple"] H Q := ⟨.ref a, "tuple", rfl, "tuple", true, fun _ => .base (.tup h), by decide +kernel, q⟩
/-! ends -/
theorem k_nx {nx : L2.St → Hp → Prop} {rt : VK} {bk ct : L2.St → Hp → Prop} (h : nx σ H) : (Ends.mk nx rt bk ct).nx σ H := h
theorem k_rt {nx : L2.St → Hp → Prop} {rt : VK} {bk ct : L2.St → Hp → Prop} (h : rt x H) : (Ends.mk nx rt bk ct).rt x H := h
/-! ifs -/
theorem k_dec {p A B : Prop} [Decidable p] (h1 : p → A) (h2 : ¬ p → B) : if decide p = true then A else B := by
  by_cases h : p
  · rw [if_pos (decide_eq_true h)]; exact h1 h
  · rw [if_neg (fun z => h (of_decide_eq_true z))]; exact h2 h
theorem k_ndec {p A B : Prop} [Decidable p] (h1 : ¬ p → A) (h2 : p → B) : if (!decide p) = true then A else B := by
  by_cases h : p
  · rw [if_neg (by rw [decide_eq_true h]; decide)]; exact h2 h
  · rw [if_pos (by rw [decide_eq_false h]; decide)]; exact h1 h
theorem k_decT {p A B : Prop} [Decidable p] (h : p) (q : A) : if decide p = true then A else B := k_dec (fun _ => q) (fun z => absurd h z)
theorem k_decF {p A B : Prop} [Decidable p] (h : ¬ p) (q : B) : if decide p = true then A else B := k_dec (fun z => absurd z h) (fun _ => q)
theorem k_ndecT {p A B : Prop} [Decidable p] (h : p) (q : B) : if (!decide p) = true then A else B := k_ndec (fun z => absurd h z) (fun _ => q)
theorem k_ndecF {p A B : Prop} [Decidable p] (h : ¬ p) (q : A) : if (!decide p) = true then A else B := k_ndec (fun _ => q) (fun z => absurd z h)
theorem k_yes (h : Qb true H) : tYes σ H Qb := h
theorem k_T {A B : Prop} (q : A) : if true = true then A else B := iteT q
theorem k_F {A B : Prop} (q : B) : if false = true then A else B := iteF q
theorem k_nT {A B : Prop} (q : B) : if (!true) = true then A else B := iteF q
theorem k_nF {A B : Prop} (q : A) : if (!false) = true then A else B := iteT q
end
/-! ### items -/
theorem at_nat {α : Type} {xs : List α} {i : Nat} {x : α} (h : xs[i]? = some x) : atI xs (i : Int) = some x := atI_nat h
theorem at_int {α : Type} {xs : List α} {i : Int} {x : α} (h0 : 0 ≤ i) (h : xs[i.toNat]? = some x) : atI xs i = some x := by
  have e : i = ((i.toNat : Nat) : Int) := by omega
  rw [e]; exact atI_nat h
theorem mapint {ns : List Int} {i : Nat} {n : Int} (h : ns[i]? = some n) : (ns.map V.int)[i]? = some (.int n) := by
  rw [List.getElem?_map, h]; rfl
theorem of_mapint {ns : List Int} {i : Nat} {v : V} (h : (ns.map V.int)[i]? = some v) : ∃ n, ns[i]? = some n ∧ v = .int n := by
  rw [List.getElem?_map] at h
  cases e : ns[i]? with
  | none => rw [e] at h; cases h
  | some n => rw [e] at h; exact ⟨n, rfl, (Option.some.inj h).symm⟩
theorem cutTake (xs : List V) (n : Nat) : cutV xs none (some (n : Int)) = xs.take n := by
  unfold cutV
  rw [HT.sIx_none, HT.sIx_nat, List.drop_zero, Nat.sub_zero]
  rcases Nat.le_total n xs.length with h | h
  · rw [Nat.min_eq_left h]
  · rw [Nat.min_eq_right h, List.take_length, List.take_of_length_le h]
/-! ### steps on ends that are written out; loops -/
section
variable {σ : L2.St} {H : Hp} {Q rt : VK} {nx bk ct : L2.St → Hp → Prop} {t u tb : TS} {g : TG} {wi : TI} {c : TT} {i : Nat} {x : V} {K : PySem.W.Frag}
theorem m_seq (h : t (Ends.mk (u (Ends.mk nx rt bk ct)) rt bk ct) σ H) : tSeq t u (Ends.mk nx rt bk ct) σ H := h
theorem m_cut (Mid : L2.St → Hp → Prop) (h : t (Ends.mk Mid rt bk ct) σ H) (k : ∀ σ' H', Mid σ' H' → u (Ends.mk nx rt bk ct) σ' H') : Evl.tCut t u (Ends.mk nx rt bk ct) σ H := ⟨Mid, h, k⟩
theorem m_cut0 (h : t (Ends.mk (u (Ends.mk nx rt bk ct)) rt bk ct) σ H) : Evl.tCut t u (Ends.mk nx rt bk ct) σ H := ⟨_, h, fun _ _ x => x⟩
theorem m_bk (h : bk σ H) : tBreak (Ends.mk nx rt bk ct) σ H := h
theorem m_ct (h : ct σ H) : tCont (Ends.mk nx rt bk ct) σ H := h
theorem m_next (h : nx σ H) : tNext (Ends.mk nx rt bk ct) σ H := h
theorem m_gName {Qs : L2.St → Hp → Prop} (h : Qs (σ.set i (some x)) H) : gName i x σ H Qs := h
theorem m_call {sp : Sp} {E : XK} {tr : TA} (h : tr σ H fun vs H1 => sp vs H1 Q E) : tCall sp [] E tr σ H Q := by
  have e : (fun (vs : List V) (H1 : Hp) => sp (vs ++ []) H1 Q E) = fun vs H1 => sp vs H1 Q E := by
    funext vs H1; rw [List.append_nil]
  show tr σ H fun vs H1 => sp (vs ++ []) H1 Q E
  rw [e]; exact h
/-- a for loop over what J yields -/
def LoopOk (J : It) (g : TG) (tb : TS) (nx : L2.St → Hp → Prop) (rt : VK) (σ : L2.St) (H : Hp) : Prop :=
  ∃ W : Nat → Nat → L2.St → Hp → Prop, (∃ m, W 0 m σ H) ∧ ∀ i m σ H, W i m σ H →
  (J.stop i H ∧ nx σ H) ∨ (J.go i H ∧ ∃ N : L2.St → Hp → Prop, (∀ σ' H', N σ' H' → ∃ m', m' < m ∧ W (i + 1) m' σ' H') ∧ ∀ x H', J.yld i H x H' → g x σ H' fun σ2 H2 => tb (Ends.mk N rt nx N) σ2 H2)
theorem m_for (h : wi σ H fun J H1 => LoopOk J g tb nx rt σ H1) : tFor wi g tb (Ends.mk nx rt bk ct) σ H := h
def Rng1K (R : It → Hp → Prop) (vs : List V) (H : Hp) : Prop := ∃ j : Int, vs = [.int j] ∧ -(2 ^ 62) ≤ j ∧ j < 2 ^ 62 ∧ R (Itr 0 j.toNat) H
theorem m_rng1 {ta : TA} {R : It → Hp → Prop} (h : ta σ H (Rng1K R)) : iRng1 ta σ H R := h
theorem m_rng1e {R : It → Hp → Prop} {a : Int} (h1 : -(2 ^ 62) ≤ a ∧ a < 2 ^ 62) (h : R (Itr 0 a.toNat) H) : Rng1K R [V.int a] H := ⟨a, rfl, h1.1, h1.2, h⟩
theorem m_rng1n {R : It → Hp → Prop} {a : Nat} (h1 : (a : Int) < 2 ^ 62) (h : R (Itr 0 a) H) : Rng1K R [V.int (a : Int)] H := ⟨a, rfl, by omega, h1, by rw [Int.toNat_natCast]; exact h⟩
def Rng2K (R : It → Hp → Prop) (vs : List V) (H : Hp) : Prop := ∃ i j : Int, vs = [.int i, .int j] ∧ (-(2 ^ 62) ≤ i ∧ i < 2 ^ 62 ∧ -(2 ^ 62) ≤ j ∧ j < 2 ^ 62) ∧ R (Itr i (j - i).toNat) H
theorem m_rng2 {ta : TA} {R : It → Hp → Prop} (h : ta σ H (Rng2K R)) : iRng2 ta σ H R := h
theorem m_rng2e {R : It → Hp → Prop} {a b : Int} (h1 : -(2 ^ 62) ≤ a ∧ a < 2 ^ 62 ∧ -(2 ^ 62) ≤ b ∧ b < 2 ^ 62) (h : R (Itr a (b - a).toNat) H) : Rng2K R [V.int a, V.int b] H := ⟨a, b, rfl, h1, h⟩
def ListK (K : PySem.W.Frag) (R : It → Hp → Prop) (x : V) (H : Hp) : Prop := ∃ a, x = .ref a ∧ (∃ xs, SqL K H a xs) ∧ R (Itl K a) H
theorem m_iL {tl : TE} {R : It → Hp → Prop} (h : tl σ H (ListK K R)) : iList K tl σ H R := h
theorem m_iLe {R : It → Hp → Prop} {a : Addr} {xs : List V} (hx : SqL K H a xs) (h : R (Itl K a) H) : ListK K R (V.ref a) H := ⟨a, rfl, ⟨xs, hx⟩, h⟩
def TupK (K : PySem.W.Frag) (R : It → Hp → Prop) (x : V) (H : Hp) : Prop := ∃ a, x = .ref a ∧ (∃ xs, SqT K H a xs) ∧ R (Itt K a) H
theorem m_iT {tl : TE} {R : It → Hp → Prop} (h : tl σ H (TupK K R)) : iTup K tl σ H R := h
theorem m_iTe {R : It → Hp → Prop} {a : Addr} {xs : List V} (hx : SqT K H a xs) (h : R (Itt K a) H) : TupK K R (V.ref a) H := ⟨a, rfl, ⟨xs, hx⟩, h⟩
def iSeq (K : PySem.W.Frag) (tl : TE) : TI := fun σ H R => iList K tl σ H R ∨ iTup K tl σ H R
theorem m_seqL {tl : TE} {R : It → Hp → Prop} (h : tl σ H (ListK K R)) : iSeq K tl σ H R := .inl h
theorem m_seqT {tl : TE} {R : It → Hp → Prop} (h : tl σ H (TupK K R)) : iSeq K tl σ H R := .inr h
theorem pi_seq {X : Cx} {tg l : Expr} {tl : TE} (hl : PE X l tl) : PI X tg l (iSeq X.K tl) := ⟨fun pins s σ H R I h => h.elim (fun h => (pi_list hl).run pins s σ H R I h) fun h => (pi_tup hl).run pins s σ H R I h⟩
theorem loop_range {lo : Int} {n : Nat} (Pv : Nat → L2.St → Hp → Prop) (h0 : Pv 0 σ H)
    (hs : ∀ i σ H, i < n → Pv i σ H → g (.int (lo + i)) σ H fun σ2 H2 => tb (Ends.mk (Pv (i + 1)) rt nx (Pv (i + 1))) σ2 H2) (hd : ∀ σ H, Pv n σ H → nx σ H) : LoopOk (Itr lo n) g tb nx rt σ H :=
  for_range (D := Ends.mk nx rt nx nx) Pv h0 hs hd
theorem loop_range0 {n : Nat} (Pv : Nat → L2.St → Hp → Prop) (h0 : Pv 0 σ H)
    (hs : ∀ (i : Nat) σ H, i < n → Pv i σ H → g (.int (i : Int)) σ H fun σ2 H2 => tb (Ends.mk (Pv (i + 1)) rt nx (Pv (i + 1))) σ2 H2) (hd : ∀ σ H, Pv n σ H → nx σ H) : LoopOk (Itr 0 n) g tb nx rt σ H :=
  loop_range Pv h0 (fun i σ H hi p => by rw [Int.zero_add]; exact hs i σ H hi p) hd
theorem loop_list {a : Addr} {xs : List V} (Pv : Nat → L2.St → Hp → Prop) (h0 : Pv 0 σ H) (hl : ∀ i σ H, i ≤ xs.length → Pv i σ H → SqL K H a xs)
    (hs : ∀ i x σ H, xs[i]? = some x → Pv i σ H → g x σ H fun σ2 H2 => tb (Ends.mk (Pv (i + 1)) rt nx (Pv (i + 1))) σ2 H2) (hd : ∀ σ H, Pv xs.length σ H → nx σ H) : LoopOk (Itl K a) g tb nx rt σ H :=
  for_list (D := Ends.mk nx rt nx nx) Pv h0 hl hs hd
/-- over a list of ints -/
theorem loop_ints {a : Addr} {ns : List Int} (Pv : Nat → L2.St → Hp → Prop) (h0 : Pv 0 σ H) (hl : ∀ i σ H, Pv i σ H → SqL K H a (ns.map V.int))
    (hs : ∀ i n σ H, ns[i]? = some n → Pv i σ H → g (.int n) σ H fun σ2 H2 => tb (Ends.mk (Pv (i + 1)) rt nx (Pv (i + 1))) σ2 H2) (hd : ∀ σ H, Pv ns.length σ H → nx σ H) : LoopOk (Itl K a) g tb nx rt σ H :=
  loop_list (xs := ns.map V.int) Pv h0 (fun i σ H _ p => hl i σ H p) (fun i x σ H hx p => by
    obtain ⟨n, hn, rfl⟩ := of_mapint hx
    exact hs i n σ H hn p) (fun σ H p => hd σ H (by rw [List.length_map] at p; exact p))
theorem loop_tup {a : Addr} {xs : List V} (Pv : Nat → L2.St → Hp → Prop) (h0 : Pv 0 σ H) (hl : ∀ i σ H, i ≤ xs.length → Pv i σ H → SqT K H a xs)
    (hs : ∀ i x σ H, xs[i]? = some x → Pv i σ H → g x σ H fun σ2 H2 => tb (Ends.mk (Pv (i + 1)) rt nx (Pv (i + 1))) σ2 H2) (hd : ∀ σ H, Pv xs.length σ H → nx σ H) : LoopOk (Itt K a) g tb nx rt σ H :=
  for_tup (D := Ends.mk nx rt nx nx) Pv h0 hl hs hd
def WBody (W : Nat → L2.St → Hp → Prop) (m : Nat) (tb : TS) (rt : VK) (nx : L2.St → Hp → Prop) (σ : L2.St) (H : Hp) : Prop :=
  ∃ N : L2.St → Hp → Prop, (∀ σ' H', N σ' H' → ∃ m', m' < m ∧ W m' σ' H') ∧ tb (Ends.mk N rt nx N) σ H
theorem m_wbody {W : Nat → L2.St → Hp → Prop} {m : Nat} (h : tb (Ends.mk (fun σ' H' => ∃ m', m' < m ∧ W m' σ' H') rt nx (fun σ' H' => ∃ m', m' < m ∧ W m' σ' H')) σ H) : WBody W m tb rt nx σ H := ⟨_, fun _ _ h => h, h⟩
theorem loop_while (W : Nat → L2.St → Hp → Prop) (m : Nat) (h0 : W m σ H)
    (hs : ∀ m σ H, W m σ H → c σ H fun b H1 => if b = true then WBody W m tb rt nx σ H1 else nx σ H1) : tWhile c tb (Ends.mk nx rt bk ct) σ H := ⟨W, ⟨m, h0⟩, hs⟩
/-- a comprehension over what J yields -/
def CompOk (J : It) (g : TG) (tt : TT) (te : TE) (vs : List Nat) (σ : L2.St) (H1 : Hp) (Q : VK) : Prop :=
  ∀ D, H1 D = none → ∃ W : Nat → Nat → Hp → Prop, (∃ m, W 0 m (upd H1 D (.lst []))) ∧ ∀ i m H, W i m H →
  (J.stop i H ∧ Q (.ref D) H) ∨ (J.go i H ∧ ∃ Nx : Hp → Prop, (∀ H', Nx H' → ∃ m', m' < m ∧ W (i + 1) m' H') ∧ ∀ x H', J.yld i H x H' → g x (wipe σ vs) H' fun σ2 H2 => wipe σ2 vs = wipe σ vs ∧ tt σ2 H2 fun b H3 =>
    if b = true then te σ2 H3 fun y H4 => ∃ acc, H4 D = some (.lst acc) ∧ acc.length < sizeLine ∧ Nx (upd H4 D (.lst (acc ++ [y]))) else Nx H3)
theorem m_lc {tt : TT} {te : TE} {vs : List Nat} (h : wi σ H fun J H1 => CompOk J g tt te vs σ H1 Q) : tLc wi g tt te vs σ H Q := h
/-- over a range, no test, pure elements f i: the list made -/
theorem comp_rangeV {n : Nat} {te : TE} {j : Nat} {f : Nat → V} (hn : n ≤ 100000)
    (he : ∀ (k : Nat) (H2 : Hp) (Q2 : VK), k < n → Same H H2 → (∀ H3, Same H2 H3 → Q2 (f k) H3) → te ((wipe σ [j]).set j (some (.int (k : Int)))) H2 Q2)
    (q : ∀ p H', H p = none → Same H H' → H' p = some (.lst ((List.range n).map f)) → Q (.ref p) H') (hw : ∀ x, wipe ((wipe σ [j]).set j (some x)) [j] = wipe σ [j] := by intro _; rfl) : CompOk (Itr 0 n) (gName j) tYes te [j] σ H Q := by
  intro Dl hD
  refine lc_range (lo := 0) (n := n) (fun i H' => Same H H' ∧ H' Dl = some (.lst ((List.range i).map f))) ⟨same_new hD, upd_same⟩ (fun i H' hi p => ?_) (fun H' p => q Dl H' hD p.1 p.2)
  obtain ⟨p1, p2⟩ := p
  refine ⟨hw _, ?_⟩
  refine k_yes (iteT ?_)
  rw [Int.zero_add]
  refine he i H' _ hi p1 (fun H3 s3 => ⟨_, s3.get p2, ?_, Same.mut (p1.trans s3) hD ⟨_, s3.get p2⟩, ?_⟩)
  · rw [List.length_map, List.length_range]; exact Nat.lt_of_lt_of_le (Nat.lt_of_lt_of_le hi hn) (by decide)
  · rw [upd_same, List.range_succ, List.map_append]; rfl
/-- over a list, no test, pure elements -/
theorem comp_listV {a : Addr} {xs ys : List V} {te : TE} {j : Nat} (hl : SqL K H a xs) (hn : xs.length ≤ 100000) (hy : ys.length = xs.length)
    (he : ∀ (k : Nat) (x y : V) (H2 : Hp) (Q2 : VK), xs[k]? = some x → ys[k]? = some y → Same H H2 → (∀ H3, Same H2 H3 → Q2 y H3) → te ((wipe σ [j]).set j (some x)) H2 Q2)
    (q : ∀ p H', H p = none → Same H H' → H' p = some (.lst ys) → Q (.ref p) H') (hw : ∀ x, wipe ((wipe σ [j]).set j (some x)) [j] = wipe σ [j] := by intro _; rfl) : CompOk (Itl K a) (gName j) tYes te [j] σ H Q := by
  intro Dl hD
  refine lc_list (xs := xs) (fun i H' => Same H H' ∧ H' Dl = some (.lst (ys.take i))) ⟨same_new hD, upd_same⟩ (fun i H' _ p => p.1.seq hl) (fun i x H' hi p => ?_) (fun H' p => q Dl H' hD p.1 (by rw [p.2, ← hy, List.take_length]))
  obtain ⟨p1, p2⟩ := p
  refine ⟨hw _, ?_⟩
  refine k_yes (iteT ?_)
  have hlt : i < xs.length := (List.getElem?_eq_some_iff.mp hi).1
  obtain ⟨y, ey⟩ : ∃ y, ys[i]? = some y := ⟨ys[i]'(by omega), List.getElem?_eq_getElem (by omega)⟩
  refine he i x y H' _ hi ey p1 (fun H3 s3 => ⟨_, s3.get p2, ?_, Same.mut (p1.trans s3) hD ⟨_, s3.get p2⟩, ?_⟩)
  · rw [List.length_take]; exact Nat.lt_of_le_of_lt (Nat.min_le_right _ _) (Nat.lt_of_lt_of_le (show ys.length < 100001 by omega) (by decide))
  · rw [upd_same, List.take_add_one, ey]; rfl
/-- over a list, no test, elements of which something is known -/
theorem comp_listP {a : Addr} {xs : List V} {te : TE} {j : Nat} (P : Nat → V → Prop) (hl : SqL K H a xs) (hn : xs.length ≤ 100000)
    (he : ∀ (k : Nat) (x : V) (H2 : Hp) (Q2 : VK), xs[k]? = some x → Same H H2 → (∀ y H3, P k y → Same H2 H3 → Q2 y H3) → te ((wipe σ [j]).set j (some x)) H2 Q2)
    (q : ∀ p H' ys, H p = none → Same H H' → H' p = some (.lst ys) → ys.length = xs.length → (∀ k y, ys[k]? = some y → P k y) → Q (.ref p) H') (hw : ∀ x, wipe ((wipe σ [j]).set j (some x)) [j] = wipe σ [j] := by intro _; rfl) : CompOk (Itl K a) (gName j) tYes te [j] σ H Q := by
  intro Dl hD
  refine lc_list (xs := xs) (fun i H' => Same H H' ∧ ∃ ys, H' Dl = some (.lst ys) ∧ ys.length = i ∧ ∀ k y, ys[k]? = some y → P k y) ⟨same_new hD, [], upd_same, rfl, fun k y e => by simp at e⟩ (fun i H' _ p => p.1.seq hl) (fun i x H' hi p => ?_) (fun H' p => ?_)
  · obtain ⟨p1, ys, p2, p3, p4⟩ := p
    refine ⟨hw _, ?_⟩
    refine k_yes (iteT ?_)
    have hlt : i < xs.length := (List.getElem?_eq_some_iff.mp hi).1
    refine he i x H' _ hi p1 (fun y H3 hy s3 => ⟨_, s3.get p2, by rw [p3]; exact Nat.lt_of_lt_of_le (Nat.lt_of_lt_of_le hlt hn) (by decide), Same.mut (p1.trans s3) hD ⟨_, s3.get p2⟩, ys ++ [y], upd_same, by rw [List.length_append, p3]; rfl, fun k z e => ?_⟩)
    rcases Nat.lt_or_ge k ys.length with w | w
    · rw [List.getElem?_append_left w] at e; exact p4 k z e
    · rw [List.getElem?_append_right w] at e
      obtain ⟨h1, h2⟩ := List.getElem?_eq_some_iff.mp e
      rw [List.length_singleton] at h1
      have hk : k = i := by omega
      have e2 : z = y := by
        rw [show k - ys.length = 0 by omega] at e
        exact (Option.some.inj e).symm
      rw [hk, e2]; exact hy
  · obtain ⟨p1, ys, p2, p3, p4⟩ := p
    exact q Dl H' ys hD p1 p2 p3 p4
end
/-! ### loops over any walk -/
section
variable {σ : L2.St} {H : Hp} {Q rt : VK} {nx bk ct : L2.St → Hp → Prop} {t u tb : TS} {g : TG} {i : Nat} {x : V} {K : PySem.W.Frag} {J : It} {n : Nat} {G : Hp → Prop} {Y : Nat → Hp → V → Hp → Prop}
theorem loop_walk (w : Walk J n G Y) (Pv : Nat → L2.St → Hp → Prop) (h0 : Pv 0 σ H) (hG : ∀ i σ H, Pv i σ H → G H)
    (hs : ∀ i x σ H H', i < n → Pv i σ H → Y i H x H' → g x σ H' fun σ2 H2 => tb (Ends.mk (Pv (i + 1)) rt nx (Pv (i + 1))) σ2 H2) (hd : ∀ σ H, Pv n σ H → nx σ H) : LoopOk J g tb nx rt σ H :=
  for_it (D := Ends.mk nx rt nx nx) w Pv h0 (fun i σ H _ p => hG i σ H p) hs hd
/-- a comprehension with a test: at each turn the item is dropped, or f i is kept -/
theorem comp_walkV {te : TE} {tt : TT} {j : Nat} {f : Nat → Option V} (w : Walk J n G Y) (hn : n ≤ 100000) (hG : ∀ H', Same H H' → G H')
    (he : ∀ (k : Nat) (x : V) (H1 H2 : Hp) (Qb : Bool → Hp → Prop), k < n → Same H H1 → Y k H1 x H2 → (∀ b H3, Same H1 H3 → (b = true → ∀ Q2 : VK, ∀ H4, Same H3 H4 → ∃ y, f k = some y ∧ ((∀ H5, Same H4 H5 → Q2 y H5) → te ((wipe σ [j]).set j (some x)) H4 Q2)) → (b = false → f k = none) → Qb b H3) → tt ((wipe σ [j]).set j (some x)) H2 Qb)
    (q : ∀ p H', H p = none → Same H H' → H' p = some (.lst ((List.range n).filterMap f)) → Q (.ref p) H') (hw : ∀ x, wipe ((wipe σ [j]).set j (some x)) [j] = wipe σ [j] := by intro _; rfl) : CompOk J (gName j) tt te [j] σ H Q := by
  intro Dl hD
  refine lc_it w (fun i H' => Same H H' ∧ H' Dl = some (.lst ((List.range i).filterMap f))) ⟨same_new hD, upd_same⟩ (fun i H' _ p => hG H' p.1) (fun i x H' H'' hi p hy => ?_) (fun H' p => q Dl H' hD p.1 p.2)
  obtain ⟨p1, p2⟩ := p
  refine ⟨hw _, he i x H' H'' _ hi p1 hy (fun b H3 s3 hb1 hb0 => ?_)⟩
  have hl : ((List.range i).filterMap f).length < sizeLine := Nat.lt_of_le_of_lt (List.length_filterMap_le f (List.range i)) (by rw [List.length_range]; exact Nat.lt_of_lt_of_le (Nat.lt_of_lt_of_le hi hn) (by decide))
  cases b with
  | true =>
    refine iteT ?_
    obtain ⟨y, ey, go⟩ := hb1 rfl (fun y H4 => ∃ acc, H4 Dl = some (.lst acc) ∧ acc.length < sizeLine ∧ Same H (upd H4 Dl (.lst (acc ++ [y]))) ∧ upd H4 Dl (.lst (acc ++ [y])) Dl = some (.lst ((List.range (i + 1)).filterMap f))) H3 (Same.refl _)
    refine go fun H5 s5 => ⟨_, s5.get (s3.get p2), hl, Same.mut ((p1.trans s3).trans s5) hD ⟨_, s5.get (s3.get p2)⟩, ?_⟩
    rw [upd_same, List.range_succ, List.filterMap_append]
    show _ = some (HO.lst (_ ++ List.filterMap f [i]))
    rw [List.filterMap_cons, ey]; rfl
  | false =>
    refine iteF ⟨p1.trans s3, ?_⟩
    rw [List.range_succ, List.filterMap_append]
    rw [show List.filterMap f [i] = [] by rw [List.filterMap_cons, hb0 rfl]; rfl, List.append_nil]
    exact s3.get p2
theorem k_rev {a : Addr} {xs : List V} {ta : TA} {R : It → Hp → Prop} (h : ta σ H fun vs H1 => ∃ (a : Addr) (xs : List V), vs = [.ref a] ∧ SqL K H1 a xs ∧ R (Itv K a xs.length) H1) : iRev K ta σ H R := h
def RevK (K : PySem.W.Frag) (R : It → Hp → Prop) (vs : List V) (H : Hp) : Prop := ∃ (a : Addr) (xs : List V), vs = [.ref a] ∧ SqL K H a xs ∧ R (Itv K a xs.length) H
theorem m_rev {ta : TA} {R : It → Hp → Prop} (h : ta σ H (RevK K R)) : iRev K ta σ H R := h
theorem m_revE {a : Addr} {xs : List V} {R : It → Hp → Prop} (hx : SqL K H a xs) (h : R (Itv K a xs.length) H) : RevK K R [.ref a] H := ⟨a, xs, rfl, hx, h⟩
def EnumK (K : PySem.W.Frag) (R : It → Hp → Prop) (vs : List V) (H : Hp) : Prop := ∃ (a : Addr) (xs : List V), vs = [.ref a] ∧ SqL K H a xs ∧ R (Ite K a) H
theorem m_enum {ta : TA} {R : It → Hp → Prop} (h : ta σ H (EnumK K R)) : iEnum K ta σ H R := h
theorem m_enumE {a : Addr} {xs : List V} {R : It → Hp → Prop} (hx : SqL K H a xs) (h : R (Ite K a) H) : EnumK K R [.ref a] H := ⟨a, xs, rfl, hx, h⟩
def ZipK (K : PySem.W.Frag) (R : It → Hp → Prop) (vs : List V) (H : Hp) : Prop := ∃ a b xs ys, vs = [.ref a, .ref b] ∧ SqL K H a xs ∧ SqL K H b ys ∧ R (Itz K a b) H
theorem m_zip {ta : TA} {R : It → Hp → Prop} (h : ta σ H (ZipK K R)) : iZip K ta σ H R := h
theorem m_zipE {a b : Addr} {xs ys : List V} {R : It → Hp → Prop} (hx : SqL K H a xs) (hy : SqL K H b ys) (h : R (Itz K a b) H) : ZipK K R [.ref a, .ref b] H := ⟨a, b, xs, ys, rfl, hx, hy, h⟩
def RevLK (K : PySem.W.Frag) (Q : VK) (x : V) (H : Hp) : Prop := ∃ a xs, x = .ref a ∧ SqL K H a xs ∧ ∀ p, H p = none → Q (.ref p) (upd H p (.lst xs.reverse))
theorem m_revL {te : TE} (h : te σ H (RevLK K Q)) : tRevL K te σ H Q := h
theorem m_revLE {a : Addr} {xs : List V} (hx : SqL K H a xs) (q : ∀ p, H p = none → Q (.ref p) (upd H p (.lst xs.reverse))) : RevLK K Q (.ref a) H := ⟨a, xs, rfl, hx, q⟩
def Rng3K (R : It → Hp → Prop) (vs : List V) (H : Hp) : Prop := ∃ i j c n, vs = [.int i, .int j, .int c] ∧ RgC i j c n ∧ R (Itc i c n) H
theorem m_rng3 {ta : TA} {R : It → Hp → Prop} (h : ta σ H (Rng3K R)) : iRng3 ta σ H R := h
theorem m_rng3e {R : It → Hp → Prop} {a b c : Int} {n : Nat} (h1 : RgC a b c n) (h : R (Itc a c n) H) : Rng3K R [V.int a, V.int b, V.int c] H := ⟨a, b, c, n, rfl, h1, h⟩
/-- targets that are pairs -/
def GTupK (K : PySem.W.Frag) (n : Nat) (tg : TGs) (Qs : L2.St → Hp → Prop) (x : V) (σ : L2.St) (H : Hp) : Prop := ∃ a xs, x = .ref a ∧ SqT K H a xs ∧ xs.length = n ∧ tg xs σ H Qs
theorem m_gTup {tg : TGs} {Qs : L2.St → Hp → Prop} {a : Addr} {xs : List V} (hx : SqT K H a xs) (hn : xs.length = n) (h : tg xs σ H Qs) : gTup K n tg (.ref a) σ H Qs := ⟨a, xs, rfl, hx, hn, h⟩
theorem m_gCons {t1 : TG} {ts : TGs} {Qs : L2.St → Hp → Prop} {xs : List V} (h : t1 x σ H fun σ' H' => ts xs σ' H' Qs) : gCons t1 ts (x :: xs) σ H Qs := ⟨x, xs, rfl, h⟩
theorem m_gNil {Qs : L2.St → Hp → Prop} (h : Qs σ H) : gNil [] σ H Qs := ⟨rfl, h⟩
theorem m_asg {te : TE} (h : te σ H fun x H1 => g x σ H1 nx) : tAsg te g (Ends.mk nx rt bk ct) σ H := h
theorem k_rep {Q : VK} {l : Addr} {xs : List V} {n : Nat} (h : H l = some (.lst xs)) (hn : xs.length * n ≤ 1000000) (hn2 : n ≤ 1000000) (q : ∀ p, H p = none → Q (.ref p) (upd H p (.lst (List.replicate n xs).flatten))) : rRep (.ref l) (.int (n : Int)) H Q :=
  ⟨l, n, xs, rfl, rfl, h, by omega, by omega, by rw [Int.toNat_natCast]; exact Nat.le_trans hn (by decide), by rw [Int.toNat_natCast]; exact q⟩
theorem k_cat {Q : VK} {l b : Addr} {xs zs : List V} (h1 : H l = some (.lst xs)) (h2 : H b = some (.lst zs)) (hn : xs.length + zs.length ≤ 1000000) (q : ∀ p, H p = none → Q (.ref p) (upd H p (.lst (xs ++ zs)))) : rCat (.ref l) (.ref b) H Q :=
  ⟨l, b, xs, zs, rfl, rfl, h1, h2, Nat.le_trans hn (by decide), q⟩
theorem rep_one (x : V) (n : Nat) : (List.replicate n [x]).flatten = List.replicate n x := by
  induction n with
  | zero => rfl
  | succ n ih => rw [List.replicate_succ, List.flatten_cons, ih]; rfl
theorem m_gSub {to ti : TE} {ts : TSet} {Qs : L2.St → Hp → Prop} (h : to σ H fun o H1 => ti σ H1 fun i H2 => ts o i x H2 fun H3 => Qs σ H3) : gSub to ti ts x σ H Qs := h
theorem m_setL {p : Addr} {xs : List V} {k : Int} {j : Nat} {y : V} {Qh : Hp → Prop} (h : H p = some (.lst xs)) (hj : ixN xs.length k = some j) (q : Qh (upd H p (.lst (xs.set j y)))) : rSetL (.ref p) (.int k) y H Qh := ⟨p, xs, k, j, rfl, rfl, h, hj, q⟩
theorem ixN_nat {n : Nat} {k : Int} (h0 : 0 ≤ k) (h1 : k < n) : ixN n k = some k.toNat := by
  unfold ixN; rw [if_pos h0, if_pos h1]
def ParK (nx : L2.St → Hp → Prop) (i j : Nat) (σ : L2.St) (vs : List V) (H : Hp) : Prop := ∃ v w, vs = [v, w] ∧ nx ((σ.set i (some v)).set j (some w)) H
theorem m_par {i j : Nat} {ta : TA} (h : ta σ H (ParK nx i j σ)) : tPar i j ta (Ends.mk nx rt bk ct) σ H := h
theorem m_parE {i j : Nat} {a b : V} (h : nx ((σ.set i (some a)).set j (some b)) H) : ParK nx i j σ [a, b] H := ⟨a, b, rfl, h⟩
theorem k_divmod {Q : VK} {a b : Int} (h : CDivP a b) (q : ∀ p, H p = none → Q (.ref p) (upd H p (.tup [.int (a / b), .int (a % b)]))) : rDivmod [.int a, .int b] H Q := ⟨a, b, rfl, h, q⟩
end
/-! ### what a comprehension with a test leaves -/
theorem fm_head {α : Type} {f : Nat → Option α} : ∀ {n : Nat} {y : α}, ((List.range n).filterMap f)[0]? = some y → ∃ i, i < n ∧ f i = some y ∧ ∀ j, j < i → f j = none
  | 0, y, h => by simp at h
  | n + 1, y, h => by
    rw [List.range_succ, List.filterMap_append] at h
    cases e : (List.range n).filterMap f with
    | cons z zs =>
      rw [e] at h
      have h' : ((List.range n).filterMap f)[0]? = some y := by rw [e]; simpa using h
      obtain ⟨i, h1, h2, h3⟩ := fm_head h'
      exact ⟨i, by omega, h2, h3⟩
    | nil =>
      rw [e, List.nil_append] at h
      have none_all : ∀ j, j < n → f j = none := fun j hj => List.filterMap_eq_nil_iff.mp e j (List.mem_range.mpr hj)
      cases q : f n with
      | none => rw [List.filterMap_cons, q] at h; simp at h
      | some z =>
        rw [List.filterMap_cons, q] at h
        have : z = y := by simpa using h
        subst this
        exact ⟨n, by omega, q, none_all⟩
theorem fm_last {α : Type} {f : Nat → Option α} : ∀ {n : Nat} {y : α} {ys : List α}, (List.range n).filterMap f = ys ++ [y] → ∃ i, i < n ∧ f i = some y ∧ ∀ j, i < j → j < n → f j = none
  | 0, y, ys, h => by simp at h
  | n + 1, y, ys, h => by
    rw [List.range_succ, List.filterMap_append] at h
    cases q : f n with
    | none =>
      rw [show List.filterMap f [n] = [] by rw [List.filterMap_cons, q]; rfl, List.append_nil] at h
      obtain ⟨i, h1, h2, h3⟩ := fm_last h
      refine ⟨i, by omega, h2, fun j h4 h5 => ?_⟩
      rcases Nat.lt_or_ge j n with h6 | h6
      · exact h3 j h4 h6
      · have : j = n := by omega
        subst this; exact q
    | some z =>
      rw [show List.filterMap f [n] = [z] by rw [List.filterMap_cons, q]; rfl] at h
      have e := List.append_inj_right' h rfl
      injection e with e
      subst e
      exact ⟨n, by omega, q, fun j h4 h5 => by omega⟩
theorem fm_nil {α : Type} {f : Nat → Option α} {n : Nat} (h : (List.range n).filterMap f = []) : ∀ j, j < n → f j = none := fun j hj => List.filterMap_eq_nil_iff.mp h j (List.mem_range.mpr hj)
theorem fm_id {α : Type} (l : List α) {n : Nat} (hn : n = l.length) : (List.range n).filterMap (fun k => l[k]?) = l := by
  subst hn
  have h : ∀ n, n ≤ l.length → (List.range n).filterMap (fun k => l[k]?) = l.take n := by
    intro n
    induction n with
    | zero => intro _; rfl
    | succ n ih =>
      intro hn
      rw [List.range_succ, List.filterMap_append, ih (by omega), List.take_add_one, List.getElem?_eq_getElem (show n < l.length by omega)]
      congr 1
      rw [List.filterMap_cons, List.getElem?_eq_getElem (show n < l.length by omega)]; rfl
  rw [h _ (Nat.le_refl _), List.take_length]
theorem snoc_of {α : Type} : ∀ {l : List α}, l ≠ [] → ∃ ys y, l = ys ++ [y]
  | [], h => absurd rfl h
  | a :: l, _ => ⟨(a :: l).dropLast, (a :: l).getLast (List.cons_ne_nil _ _), (List.dropLast_concat_getLast _).symm⟩
theorem cutPart (xs : List V) (a b : Nat) : cutV xs (some (a : Int)) (some (b : Int)) = (xs.take b).drop a := by
  unfold cutV
  rw [HT.sIx_nat, HT.sIx_nat, List.drop_take]
  rcases Nat.le_total a xs.length with h | h
  · rw [Nat.min_eq_left h]
    rcases Nat.le_total b xs.length with h2 | h2
    · rw [Nat.min_eq_left h2]
    · rw [Nat.min_eq_right h2, List.take_of_length_le (by rw [List.length_drop]; omega), List.take_of_length_le (by rw [List.length_drop]; omega)]
  · rw [Nat.min_eq_right h, List.drop_of_length_le (Nat.le_refl _), List.drop_of_length_le h]
    simp
/-- a part of a list of ints -/
theorem cut_ints (ns : List Int) (lo hi : Option Int) : ∃ cs : List Int, cutV (ns.map V.int) lo hi = cs.map V.int ∧ (∀ x ∈ cs, x ∈ ns) ∧ cs.length ≤ ns.length := by
  unfold cutV
  refine ⟨_, by rw [← List.map_drop, ← List.map_take], fun x h => List.mem_of_mem_drop (List.mem_of_mem_take h), by rw [List.length_take, List.length_drop]; omega⟩
theorem cutDrop (xs : List V) (a : Nat) : cutV xs (some (a : Int)) none = xs.drop a := by
  unfold cutV
  rw [HT.sIx_nat, HT.sIx_none]
  rcases Nat.le_total a xs.length with h | h
  · rw [Nat.min_eq_left h, List.take_of_length_le (by rw [List.length_drop]; omega)]
  · rw [Nat.min_eq_right h, List.drop_of_length_le (Nat.le_refl _), List.drop_of_length_le h]
    simp
/-! ### data at any depth -/
section
variable {H H' : Hp} {K : PySem.W.Frag}
theorem dpAll_ints : ∀ ns : List Int, DpAll K H (ns.map V.int) (ns.map PyData.int)
  | [] => .nil
  | n :: ns => .cons (.int n) (dpAll_ints ns)
theorem dpAll_bools : ∀ bs : List Bool, DpAll K H (bs.map V.bl) (bs.map PyData.bool)
  | [] => .nil
  | b :: bs => .cons (.bl b) (dpAll_bools bs)
theorem dp_ints {a : Addr} {ns : List Int} (h : SqL K H a (ns.map V.int)) : Dp K H (.ref a) (.list (ns.map PyData.int)) := .lst h (dpAll_ints ns)
theorem dp_intsT {a : Addr} {ns : List Int} (h : SqT K H a (ns.map V.int)) : Dp K H (.ref a) (.tuple (ns.map PyData.int)) := .tup h (dpAll_ints ns)
theorem eqvAll_ints : ∀ as bs : List Int, PyData.eqvAll (as.map PyData.int) (bs.map PyData.int) = decide (as = bs)
  | [], [] => by rw [List.map_nil]; unfold PyData.eqvAll; rfl
  | [], b :: bs => by rw [List.map_nil, List.map_cons]; unfold PyData.eqvAll; simp
  | a :: as, [] => by rw [List.map_nil, List.map_cons]; unfold PyData.eqvAll; simp
  | a :: as, b :: bs => by
    rw [List.map_cons, List.map_cons]; unfold PyData.eqvAll
    rw [eqvAll_ints as bs]
    unfold PyData.eqv
    by_cases h : a = b
    · subst h; by_cases h2 : as = bs
      · subst h2; simp
      · simp [h2]
    · simp [h]
theorem eqv_ints (as bs : List Int) : PyData.eqv (.list (as.map PyData.int)) (.list (bs.map PyData.int)) = decide (as = bs) := by
  unfold PyData.eqv; exact eqvAll_ints as bs
theorem eqv_intsT (as bs : List Int) : PyData.eqv (.tuple (as.map PyData.int)) (.tuple (bs.map PyData.int)) = decide (as = bs) := by
  unfold PyData.eqv; exact eqvAll_ints as bs
/-- laid: no dict, texts in order, at most so deep -/
def laid (n : Nat) (d : PyData) : Prop := d.canLay0 = true ∧ d.depth ≤ n
theorem laid_int {n : Nat} (i : Int) : laid n (.int i) := ⟨by simp [PyData.canLay0], by simp [PyData.depth]⟩
theorem laid_bool {n : Nat} (i : Bool) : laid n (.bool i) := ⟨by simp [PyData.canLay0], by simp [PyData.depth]⟩
theorem laid_none {n : Nat} : laid n .none := ⟨by simp [PyData.canLay0], by simp [PyData.depth]⟩
theorem laid_all {n : Nat} : ∀ ds : List PyData, (∀ d ∈ ds, laid n d) → PyData.canLayAll0 ds = true ∧ PyData.depthAll ds ≤ n
  | [], _ => ⟨by simp [PyData.canLayAll0], by simp [PyData.depthAll]⟩
  | d :: ds, h => by
    obtain ⟨h1, h2⟩ := h d List.mem_cons_self
    obtain ⟨h3, h4⟩ := laid_all ds fun x hx => h x (List.mem_cons_of_mem _ hx)
    exact ⟨by simp [PyData.canLayAll0, h1, h3], by simp only [PyData.depthAll]; omega⟩
theorem laid_list {n : Nat} {ds : List PyData} (h : ∀ d ∈ ds, laid n d) : laid (n + 1) (.list ds) := by
  obtain ⟨h1, h2⟩ := laid_all ds h
  exact ⟨by simp [PyData.canLay0, h1], by simp only [PyData.depth]; omega⟩
theorem laid_tup {n : Nat} {ds : List PyData} (h : ∀ d ∈ ds, laid n d) : laid (n + 1) (.tuple ds) := by
  obtain ⟨h1, h2⟩ := laid_all ds h
  exact ⟨by simp [PyData.canLay0, h1], by simp only [PyData.depth]; omega⟩
theorem laid_ints {n : Nat} (ns : List Int) : laid (n + 1) (.list (ns.map PyData.int)) := laid_list fun d hd => by
  obtain ⟨i, _, rfl⟩ := List.mem_map.mp hd
  exact laid_int i
theorem laid_intsT {n : Nat} (ns : List Int) : laid (n + 1) (.tuple (ns.map PyData.int)) := laid_tup fun d hd => by
  obtain ⟨i, _, rfl⟩ := List.mem_map.mp hd
  exact laid_int i
theorem laid_bools {n : Nat} (bs : List Bool) : laid (n + 1) (.list (bs.map PyData.bool)) := laid_list fun d hd => by
  obtain ⟨i, _, rfl⟩ := List.mem_map.mp hd
  exact laid_bool i
theorem laid_shaped {d : PyData} (h : laid 64 d) : SeqAt.shaped d = true := by
  obtain ⟨h1, h2⟩ := h
  unfold SeqAt.shaped
  rw [h1, decide_eq_true h2]; rfl
theorem k_eqD {Q : VK} {x y : V} {d e : PyData} (h1 : Dp K H x d) (h2 : Dp K H y e) (l1 : laid 64 d) (l2 : laid 64 e) (q : Q (.bl (PyData.eqv d e)) H) : rEqD K x y H Q :=
  ⟨d, e, h1, h2, laid_shaped l1, laid_shaped l2, q⟩
theorem k_neD {Q : VK} {x y : V} {d e : PyData} (h1 : Dp K H x d) (h2 : Dp K H y e) (l1 : laid 64 d) (l2 : laid 64 e) (q : Q (.bl (!PyData.eqv d e)) H) : rNeD K x y H Q :=
  ⟨d, e, h1, h2, laid_shaped l1, laid_shaped l2, q⟩
theorem k_eqL {Q : VK} {a b : Addr} {ns ms : List Int} (h1 : SqL K H a (ns.map V.int)) (h2 : SqL K H b (ms.map V.int)) (q : Q (.bl (decide (ns = ms))) H) : rEqD K (.ref a) (.ref b) H Q :=
  k_eqD (dp_ints h1) (dp_ints h2) (laid_ints ns) (laid_ints ms) (by rw [eqv_ints]; exact q)
theorem k_neL {Q : VK} {a b : Addr} {ns ms : List Int} (h1 : SqL K H a (ns.map V.int)) (h2 : SqL K H b (ms.map V.int)) (q : Q (.bl (!decide (ns = ms))) H) : rNeD K (.ref a) (.ref b) H Q :=
  k_neD (dp_ints h1) (dp_ints h2) (laid_ints ns) (laid_ints ms) (by rw [eqv_ints]; exact q)
end
/-- a row's tables: a number and a tuple of numbers -/
theorem eqv_row (n : Int) (as : List Int) : PyData.eqv (.tuple [.int n, .tuple (as.map PyData.int)]) (.tuple [.int n, .tuple (as.map PyData.int)]) = true := by
  unfold PyData.eqv PyData.eqvAll; unfold PyData.eqv PyData.eqvAll
  simp [eqv_intsT, PyData.eqvAll]
theorem dp_row {K : PySem.W.Frag} {H : Hp} {t a : Addr} {n : Int} {as : List Int} (h1 : SqT K H t [.int n, .ref a]) (h2 : SqT K H a (as.map V.int)) : Dp K H (.ref t) (.tuple [.int n, .tuple (as.map PyData.int)]) :=
  .tup h1 (.cons (.int n) (.cons (dp_intsT h2) .nil))
theorem laid_row (n : Int) (as : List Int) : laid 64 (.tuple [.int n, .tuple (as.map PyData.int)]) := laid_tup (n := 63) fun d hd => by
  simp only [List.mem_cons, List.not_mem_nil, or_false] at hd
  rcases hd with rfl | rfl
  · exact laid_int _
  · exact laid_intsT _
theorem k_eqRow {K : PySem.W.Frag} {H : Hp} {Q : VK} {t u a b : Addr} {n : Int} {as : List Int} (h1 : SqT K H t [.int n, .ref a]) (h2 : SqT K H a (as.map V.int)) (h3 : SqT K H u [.int n, .ref b]) (h4 : SqT K H b (as.map V.int)) (q : Q (.bl true) H) : rEqD K (.ref t) (.ref u) H Q :=
  k_eqD (dp_row h1 h2) (dp_row h3 h4) (laid_row n as) (laid_row n as) (by rw [eqv_row]; exact q)
theorem any_int (i : Int) : ∀ ns : List Int, ((ns.map PyData.int).any fun z => PyData.eqv z (.int i)) = decide (i ∈ ns)
  | [] => by simp
  | n :: ns => by
    rw [List.map_cons, List.any_cons, any_int i ns]
    unfold PyData.eqv
    by_cases h : n = i
    · subst h; simp
    · have h' : ¬ i = n := fun z => h z.symm
      simp [h, h']
theorem k_inL {K : PySem.W.Frag} {H : Hp} {Q : VK} {i : Int} {a : Addr} {ns : List Int} (h : SqL K H a (ns.map V.int)) (q : Q (.bl (decide (i ∈ ns))) H) : rInD K (.int i) (.ref a) H Q :=
  ⟨.int i, _, .int i, dp_ints h, laid_shaped (laid_int i), laid_shaped (laid_ints ns), by rw [any_int]; exact q⟩
theorem k_notInL {K : PySem.W.Frag} {H : Hp} {Q : VK} {i : Int} {a : Addr} {ns : List Int} (h : SqL K H a (ns.map V.int)) (q : Q (.bl (!decide (i ∈ ns))) H) : rNotInD K (.int i) (.ref a) H Q :=
  ⟨.int i, _, .int i, dp_ints h, laid_shaped (laid_int i), laid_shaped (laid_ints ns), by rw [any_int]; exact q⟩
section
variable {H : Hp} {K : PySem.W.Frag}
theorem eqvAll_bools : ∀ as bs : List Bool, PyData.eqvAll (as.map PyData.bool) (bs.map PyData.bool) = decide (as = bs)
  | [], [] => by rw [List.map_nil]; unfold PyData.eqvAll; rfl
  | [], b :: bs => by rw [List.map_nil, List.map_cons]; unfold PyData.eqvAll; simp
  | a :: as, [] => by rw [List.map_nil, List.map_cons]; unfold PyData.eqvAll; simp
  | a :: as, b :: bs => by
    rw [List.map_cons, List.map_cons]; unfold PyData.eqvAll
    rw [eqvAll_bools as bs]
    unfold PyData.eqv
    by_cases h : a = b
    · subst h; by_cases h2 : as = bs
      · subst h2; simp
      · simp [h2]
    · simp [h]
theorem eqv_bools (as bs : List Bool) : PyData.eqv (.list (as.map PyData.bool)) (.list (bs.map PyData.bool)) = decide (as = bs) := by
  unfold PyData.eqv; exact eqvAll_bools as bs
theorem dp_bools {a : Addr} {bs : List Bool} (h : SqL K H a (bs.map V.bl)) : Dp K H (.ref a) (.list (bs.map PyData.bool)) := .lst h (dpAll_bools bs)
theorem k_eqB {Q : VK} {a b : Addr} (ns ms : List Bool) (h1 : SqL K H a (ns.map V.bl)) (h2 : SqL K H b (ms.map V.bl)) (q : Q (.bl (decide (ns = ms))) H) : rEqD K (.ref a) (.ref b) H Q :=
  k_eqD (dp_bools h1) (dp_bools h2) (laid_bools ns) (laid_bools ms) (by rw [eqv_bools]; exact q)
end
theorem m_neB {H : Hp} {K : PySem.W.Frag} {Q : VK} {a b : Addr} (ns ms : List Bool) (h1 : SqL K H a (ns.map V.bl)) (h2 : SqL K H b (ms.map V.bl)) (q : Q (.bl (!decide (ns = ms))) H) : rNeD K (.ref a) (.ref b) H Q :=
  k_neD (dp_bools h1) (dp_bools h2) (laid_bools ns) (laid_bools ms) (by rw [eqv_bools]; exact q)
theorem room65 {k : Nat} {A : Around} (r : Room k A) : A.units + 65 < cLine := by have := r.un; omega
/-- list + list, whichever way they are known -/
def rCatK (K : PySem.W.Frag) : R2 := fun x y H Q => ∃ l b xs zs, x = .ref l ∧ y = .ref b ∧ SqL K H l xs ∧ SqL K H b zs ∧ xs.length + zs.length ≤ sizeLine ∧ ∀ p, H p = none → Q (.ref p) (upd H p (.lst (xs ++ zs)))
theorem op_catK {X : Cx} : OpR X (binaryOp .Add) (rCatK X.K) := by
  intro pins s σ H x y v u Q I rx ry h
  obtain ⟨l, b, xs, zs, rfl, rfl, hH, hB, hz, q⟩ := h
  cases rx
  cases ry
  obtain ⟨its, r, ⟨⟨cls, dd, data, sl⟩, n, ho, hc, hdd, hd⟩, hl⟩ := I.list hH
  obtain ⟨its2, r2, ⟨⟨cls2, dd2, data2, sl2⟩, n2, ho2, hc2, hdd2, hd2⟩, hl2⟩ := I.list hB
  simp only at hc hdd hd hc2 hdd2 hd2
  subst hc hdd hd hc2 hdd2 hd2
  have h1 := r.length
  have h2 := r2.length
  refine concat_meets ⟨_, ho, rfl⟩ ⟨_, ho2, rfl⟩ noFill_list_add seq_list_add PySem.F.slot_list_add PySem.F.entry_list_add (PySem.F.args_list_add_2 _ _) (list_addW l b its.toArray its2.toArray n n2 none none sl sl2 (by rw [List.size_toArray, List.size_toArray]; omega)) ⟨ho, ho2, ?_⟩
  have ea : its.toArray ++ its2.toArray = (its ++ its2).toArray := by simp
  rw [ea]
  exact ⟨.ref _, _, I.lnew (t' := s.toks) (r.append r2) (by rw [List.length_append]; omega), rfl, q _ I.fresh⟩
theorem k_catK {H : Hp} {K : PySem.W.Frag} {Q : VK} {l b : Addr} {xs zs : List V} (h1 : SqL K H l xs) (h2 : SqL K H b zs) (hn : xs.length + zs.length ≤ 1000000) (q : ∀ p, H p = none → Q (.ref p) (upd H p (.lst (xs ++ zs)))) : rCatK K (.ref l) (.ref b) H Q :=
  ⟨l, b, xs, zs, rfl, rfl, h1, h2, Nat.le_trans hn (by decide), q⟩
/-! ### len(set(xs)) -/
/-- how many unlike numbers -/
def unlike (ns : List Int) : Nat := (PyProof.Rows.firstMet (fun i => ns.getD i 0) ns.length).length
theorem unlike_le (ns : List Int) : unlike ns ≤ ns.length := PyProof.Rows.firstMet_length_le _ _
def tLenSet (K : PySem.W.Frag) (ta : TE) : TE := fun σ H Q => ta σ H fun x H1 => ∃ (l : Addr) (ns : List Int), x = .ref l ∧ SqL K H1 l (ns.map V.int) ∧ ns.length ≤ 4000 ∧ Q (.int (unlike ns : Nat)) H1
theorem intsAre_vals : ∀ {ns : List Int} {us : List Value}, Vals (ns.map V.int) us → PyProof.Rows.IntsAre us ns
  | [], _, .nil => .nil
  | n :: ns, _, .cons r t => by
    obtain ⟨k, rfl⟩ := r
    exact .cons n k (intsAre_vals t)
theorem pe_lenSet {X : Cx} {a : Expr} {ta : TE} {p p2 q pos : Pos} (hg : Gl X "len") (hm : X.mg "len" = none) (hg2 : Gl X "set") (hm2 : X.mg "set" = none) (ha : PE X a ta) (hc : X.calm = true := by rfl)
    (na : starEach [a] X.env = (false, eval a X.env) :: starEach [] X.env := by rfl) : PE X (.Call (.Name "len" p) [.Call (.Name "set" p2) [a] [] q] [] pos) (tLenSet X.K ta) := by
  refine ⟨fun pins s σ H Q I h => ?_⟩
  refine Call_ (ld_blt I hg hm boot_len ?_)
  refine PyProof.Rows.callWith_builtin1 (PyProof.Rows.args_cons ?_ rfl) rfl rfl
  refine Call_ (ld_blt I hg2 hm2 boot_set ?_)
  refine PyProof.Rows.callWith_type1 (PyProof.Rows.args_cons (thn (ha.run pins s σ H _ I h) fun v s1 ⟨x, H1, I1, r1, q1⟩ => PyProof.Rows.args_nil ?_) na) na rfl
  obtain ⟨l, ns, rfl, hq, hl, q1⟩ := q1
  cases r1
  obtain ⟨its, r, pl, hz⟩ := I1.list hq
  have hlen : its.toArray.size = ns.length := by rw [List.size_toArray, ← r.length, List.length_map]
  refine call_set_list (I1.ok.hd hc) pl.isList (by simpa using intsAre_vals r) (by rw [hlen]; unfold scanBound; omega) fun h' tk hS hk => ?_
  refine PyProof.Rows.args_nil ?_
  rw [hlen] at hS
  obtain ⟨o, es, ep, t, ho, hex, hd, _, _, _, hf, hn⟩ := hS
  have I2 : Inv X pins σ H1 { s1 with heap := h', toks := tk } := I1.kept fun b o e => hk b o (Heap.lt_size e) e
  have hu := unlike_le ns
  unfold unlike at hu q1
  exact call_len_set ho hex hd hf (by rw [hn] <;> omega) ⟨.int ((PyProof.Rows.firstMet (fun i => ns.getD i 0) ns.length).length : Nat), H1, I2.tok _, ⟨_, by rw [hn]⟩, q1⟩
section
variable {σ : L2.St} {H : Hp} {Q : VK} {K : PySem.W.Frag} {te : TE}
def LenSetK (K : PySem.W.Frag) (Q : VK) (x : V) (H : Hp) : Prop := ∃ (l : Addr) (ns : List Int), x = .ref l ∧ SqL K H l (ns.map V.int) ∧ ns.length ≤ 4000 ∧ Q (.int (unlike ns : Nat)) H
theorem m_lenSet (h : te σ H (LenSetK K Q)) : tLenSet K te σ H Q := h
theorem m_lenSetE {l : Addr} {ns : List Int} (hS : SqL K H l (ns.map V.int)) (hl : ns.length ≤ 4000) (q : Q (.int (unlike ns : Nat)) H) : LenSetK K Q (.ref l) H := ⟨l, ns, rfl, hS, hl, q⟩
end
/-! ### errors: raised, let through, caught -/
section
variable {X : Cx} {E : XK} {W : WX} {k j : Nat} {ps : List Str} {sp : Sp} {x : Str} {p pos : Pos} {e : Expr} {es : List Expr} {t : TA}
theorem passX (tk : Takes X (fun cls d _ H => E cls d H)) : Passes (L2.CX X.prog X.w) X E := passes_call tk fun _ _ _ _ h => h
/-- raise C('..') -/
def tRz (W : WX) (C : Addr) : TS := fun _ σ H => W (.ref C) none σ H
/-- what stands of the class x: it can be raised -/
structure ExF (K : PySem.W.Frag) (mg : Str → Option Value) (x : Str) : Prop where
  gl : mg x = some (.ref (He.ga K x))
  ex : PySem.W.excIn K (He.ga K x) He.veBase "ValueError.__new__" = true
  kp : PySem.W.keepIn K (.ref (He.ga K x)) = true
  sb : PySem.W.subIn K (.ref (He.ga K x)) (.type "BaseException") = some true
  ty : PySem.W.typeIn K (.ref (He.ga K x)) = some (.type "type")
theorem ps_rz {m : Str} {j : Nat} {p2 pos2 : Pos} (F : ExF X.K X.mg x) (tk : Takes X W) (hc : X.calm = true := by rfl) (hg : Gl X x := by rfl) (hdb : (x == ("__debug__" : Str)) = false := by decide) :
    PS X (.Raise (some (.Call (.Name x p) [.Constant (.str m) j p2] [] pos)) none pos2) (tRz W (He.ga X.K x)) :=
  ps_raise hc tk (pmk_own PySem.F.excBase_ValueError F.ex F.gl F.kp (raises_own F.sb F.ty) hg hdb)
theorem k_rz {D : Ends} {C : Addr} {σ : L2.St} {H : Hp} (h : W (.ref C) none σ H) : tRz W C D σ H := h
/-- a call within a try's body -/
theorem pe_callFS (F : Okf X.prog X.w X.K X.mg X.base (L2.CX X.prog X.w) k x ps sp) (hr : Room j X.A) (hk : k ≤ j) (hg : Gl X x) (tk : Takes X W)
    (ha : PA X (e :: es) t) (hdb : (x == ("__debug__" : Str)) = false := by decide) (he : starEach (e :: es) X.env = (false, eval e X.env) :: starEach es X.env := by rfl) (hpl : (backTo pos (starEach es X.env)).any (·.1) = false := by rfl) :
    PE X (.Call (.Name x p) (e :: es) [] pos) (tCallS sp (WE W) t) := by
  obtain ⟨fd, _, hb, ok⟩ := F.ex
  exact pe_callS ok (hr.mono hk) hg F.gl F.kp hb (fun σ => passAt tk σ) ha hdb he hpl
theorem m_callS {E : L2.St → XK} {σ : L2.St} {H : Hp} {Q : VK} (h : t σ H fun vs H1 => sp vs H1 Q (E σ)) : tCallS sp E t σ H Q := h
/-- try: .. except C as n | except C -/
def tTryAs (K : PySem.W.Frag) (c : Value) (i : Nat) (tb : WX → TS) (ts : Addr → Value → Option Addr → TS) (Wout : WX) : TS := fun D σ H => tb (wAs K c i ts Wout D) D σ H
def tTryOnly (K : PySem.W.Frag) (c : Value) (tb : WX → TS) (ts : Addr → Value → Option Addr → TS) (Wout : WX) : TS := fun D σ H => tb (wOnly K c ts Wout D) D σ H
section
variable {K : PySem.W.Frag} {c cls : Value} {d : Option Addr} {i : Nat} {tb : WX → TS} {ts : Addr → Value → Option Addr → TS} {Wout : WX} {σ : L2.St} {H : Hp} {rt : VK} {nx bk ct : L2.St → Hp → Prop}
theorem m_tryAs (h : tb (wAs K c i ts Wout (Ends.mk nx rt bk ct)) (Ends.mk nx rt bk ct) σ H) : tTryAs K c i tb ts Wout (Ends.mk nx rt bk ct) σ H := h
theorem m_tryOnly (h : tb (wOnly K c ts Wout (Ends.mk nx rt bk ct)) (Ends.mk nx rt bk ct) σ H) : tTryOnly K c tb ts Wout (Ends.mk nx rt bk ct) σ H := h
theorem m_caught (he : PySem.W.exmOne K cls c = some true) (h : ∀ a, H a = none → ts a cls d (Ends.mk (fun σ' H' => nx (σ'.set i none) H') rt (fun σ' H' => bk (σ'.set i none) H') (fun σ' H' => ct (σ'.set i none) H')) (σ.set i (some (.ref a))) H) :
    WE (wAs K c i ts Wout (Ends.mk nx rt bk ct)) σ cls d H := ⟨true, he, fun _ => h, fun z => Bool.noConfusion z⟩
theorem m_passed (he : PySem.W.exmOne K cls c = some false) (h : Wout cls d σ H) : WE (wAs K c i ts Wout (Ends.mk nx rt bk ct)) σ cls d H := ⟨false, he, fun z => Bool.noConfusion z, fun _ => h⟩
theorem m_caughtO (he : PySem.W.exmOne K cls c = some true) (h : ∀ a, H a = none → ts a cls d (Ends.mk nx rt bk ct) σ H) :
    WE (wOnly K c ts Wout (Ends.mk nx rt bk ct)) σ cls d H := ⟨true, he, fun _ => h, fun z => Bool.noConfusion z⟩
theorem m_passedO (he : PySem.W.exmOne K cls c = some false) (h : Wout cls d σ H) : WE (wOnly K c ts Wout (Ends.mk nx rt bk ct)) σ cls d H := ⟨false, he, fun z => Bool.noConfusion z, fun _ => h⟩
end
/-! ### several except clauses, each with a name -/
def endN (i : Nat) (D : Ends) : Ends := Ends.mk (fun τ G => D.nx (τ.set i none) G) D.rt (fun τ G => D.bk (τ.set i none) G) (fun τ G => D.ct (τ.set i none) G)
def wManyA (K : PySem.W.Frag) (Wout : WX) (D : Ends) : List (Value × Nat × (Addr → Value → Option Addr → TS)) → WX
  | [] => Wout
  | (c, i, ts) :: l => fun cls d τ G => ∃ b, PySem.W.exmOne K cls c = some b ∧ (b = true → ∀ x, G x = none → ts x cls d (endN i D) (τ.set i (some (.ref x))) G) ∧ (b = false → wManyA K Wout D l cls d τ G)
inductive HdsA (X : Cx) : List ExceptHandler → List (Value × Nat × (Addr → Value → Option Addr → TS)) → Prop
  | nil : HdsA X [] []
  | cons {y n : Str} {c : Value} {i : Nat} {ts : Addr → Value → Option Addr → TS} {st : Stmt} {sts : List Stmt} {q1 q2 : Pos} {hs : List ExceptHandler} {l : List (Value × Nat × (Addr → Value → Option Addr → TS))} (hi : X.N[i]? = some n) (hl : X.env.kindOf n = some .local) (hc : Names X y c)
      (hb : ∀ (x : Addr) (ob : Obj) (cls : Value) (d : Option Addr) (pn : List (Addr × Obj)), Zc cls d ob → (∃ vs, ob.data = .fields vs) → PSs (X.suite x ((x, ob) :: pn)) (st :: sts) (ts x cls d)) (r : HdsA X hs l) : HdsA X (.ExceptHandler (some (.Name y q1)) (some n) (st :: sts) q2 :: hs) ((c, i, ts) :: l)
theorem ps_tryManyA {X : Cx} {body : List Stmt} {h₀ : ExceptHandler} {hds : List ExceptHandler} {l : List (Value × Nat × (Addr → Value → Option Addr → TS))} {pos : Pos} {tb : WX → TS} {Wout : WX} (stk : X.stack = X.env :: X.outer) (lf : X.env.frame = some X.env.locals) (nd : X.N.Nodup) (tk : Takes X Wout)
    (hb : ∀ (W : WX) (pn : List (Addr × Obj)) (xe : Value → Shared → Prop), Takes (X.tr pn xe) W → PassesOwn (model X.prog X.w) X.A X.env xe → PSs (X.tr pn xe) body (tb W)) (hh : HdsA X (h₀ :: hds) l) : PS X (.Try body (h₀ :: hds) [] [] pos) (fun D τ G => tb (wManyA X.K Wout D l) D τ G) := by
  refine ⟨fun pins s τ G D I h => ?_⟩
  have ok0 := I.ok
  have fr0 : X.A.frames = some (X.env :: X.outer) := by rw [ok0.frames, stk]
  refine wpAny_Try_except (wpAny_mono ((hb (wManyA X.K Wout D l) (X.pn ++ pins) (fun e s₁ => wpAny (model X.prog X.w) X.A (noteFrame e X.env) (fun _ s₂ => wpAny (model X.prog X.w) X.A (setFlight e none) (fun _ s₃ => wpAny (model X.prog X.w) X.A (handleBy e X.env (h₀ :: hds)) (SP X pins D) X.xe s₃) X.xe s₂) X.xe s₁) (fun u s' xx => ?_) PassesOwn.looking).run [] s τ G D (I.toTry _) h) (fun f s1 hq => ?_) (fun e s1 he => he))
  · obtain ⟨x, B, si, pins2, τ1, G1, cls, d, rfl, j1, nb, up1, sk1, nx, eos, eag, wish⟩ := xx
    have j0 : Inv X pins τ1 G1 si := j1.ofTry ok0
    have sk2 : Sky B (X.env :: X.outer) x (Zc cls d) X.env.locals s'.heap := by rw [← stk]; exact sk1
    show wpAny (model X.prog X.w) X.A (noteFrame (.ref x) X.env) _ _ _; refine Sky.land Zc.steady fr0 lf sk2 fun h3 fl3 up3 => ?_
    have j3 : Inv X pins τ1 G1 { s' with heap := h3 } := j0.landed nb fl3.1 (up1.trans up3) eos eag
    obtain ⟨o3, vs3, ho3, hz3, hd3⟩ := fl3.there
    have nfr : x ∉ frs (X.env :: X.outer) := fun hm => by
      obtain ⟨_, o2, e2, hnf⟩ := fl3.2.2.1.mem hm; rw [ho3] at e2; cases e2; exact hnf _ hd3
    have nL : x ≠ X.env.locals := fun z => nfr (List.mem_filterMap.mpr ⟨X.env, List.mem_cons_self, by rw [lf, z]⟩)
    have nF : x ∉ X.fs := fun hm => by
      obtain ⟨e, he, q⟩ := List.mem_filterMap.mp hm; exact nfr (List.mem_filterMap.mpr ⟨e, List.mem_cons_of_mem _ he, q⟩)
    have suite3 := j3.suite ho3 hd3 nx nL nF
    have go : ∀ {hs' : List ExceptHandler} {l' : List (Value × Nat × (Addr → Value → Option Addr → TS))}, HdsA X hs' l' → wManyA X.K Wout D l' cls d τ1 G1 → wpAny (model X.prog X.w) X.A (handleBy (.ref x) X.env hs') (SP X pins D) X.xe { s' with heap := h3 } := by
      intro hs' l' hk
      induction hk with
      | nil =>
        intro wish
        refine wpAny_handleBy_nil ?_; obtain ⟨k1, k2, k3, oe, vs, tt, oT, ts', he, hz, hd, h1, hr⟩ := id fl3
        unfold PySem.passOn; refine wpAny_bind (wpAny_field he hd h1 ?_)
        rw [if_neg (show ¬ ((Value.ref tt == Value.none) = true) from by simp)]
        have fin : wpAny (model X.prog X.w) X.A (setFlight (.ref x) X.env.frame) (fun _ s4 => wpAny (model X.prog X.w) X.A (throw (.ref x) : Sem Flow) (SP X pins D) X.xe s4) X.xe { s' with heap := h3 } := by
          rw [lf]; refine HandSPX.setFlight_upZ fl3 fun h4 hh4 up4 => wpAny_throw (tk _ _ ?_)
          exact ⟨x, B, si, pins, τ1, G1, cls, d, rfl, j0, nb, (up1.trans up3).trans up4, .inr (.inr (by rw [stk]; exact hh4)), nx, eos, eag, wish⟩
        first | exact wpAny_bind (wpAny_pure (wpAny_bind fin)) | exact wpAny_bind fin
      | @cons y n c i ts st sts q1 q2 hs2 l2 hi hl hc hsu r ih =>
        intro wish
        obtain ⟨b, hb1, yes, no⟩ := wish
        refine wpAny_handleBy_cons (codeAny_handlers_test ?_) (by intro q; cases q); have lt : PySem.W.Looks (model X.prog X.w) h3 (typeOf (.ref x)) cls := fun A Q E s k q => wpAny_typeOf_ref (k _ _ ho3) (by rw [hz3.1]; exact q)
        have lm := PySem.W.exm_one (M := model X.prog X.w) (j3.kIn) lt hb1
        have test : ∀ {Q : Value → Shared → Prop} {E : Value → Shared → Prop}, Q c { s' with heap := h3 } → wpAny (model X.prog X.w) (X.A.mark (some (.ref x))) (eval (.Name y q1) X.env) Q E { s' with heap := h3 } := fun {Q E} q => by
          obtain ⟨hg, hdbg, hm | ⟨hm, hv, hnn⟩⟩ := hc
          · exact ld_glob (X := X.suite x ((x, o3) :: (X.pn ++ pins))) suite3 hg hm q hdbg
          · exact ld_blt (X := X.suite x ((x, o3) :: (X.pn ++ pins))) suite3 hg hm hv q hnn hdbg
        refine test (lm.here ?_)
        cases b with
        | true =>
          refine codeAny_handlers_suite_as (HandSPX.lands_againZ fl3 fun h4 fl4 up4 => ?_)
          have j4 : Inv X pins τ1 G1 { s' with heap := h4 } := j0.landed nb fl4.1 ((up1.trans up3).trans up4) eos eag
          obtain ⟨o4, vs4, ho4, hz4, hd4⟩ := fl4.there
          refine store_ok (X := X.suite x ((x, o4) :: (X.pn ++ pins))) (v := .ref x) (j4.suite ho4 hd4 nx nL nF) nd hi (.inl hl) rfl (fun s5 S5 => ?_) (.inr hl)
          refine wpAny_mono ((hsu x o4 cls d (X.pn ++ pins) hz4 ⟨_, hd4⟩).run [] s5 _ G1 _ S5 (yes rfl x nx)) (fun f s6 hq => ?_) (fun _ _ z => False.elim z)
          have fin : ∀ {τ6 : L2.St} {G6 : Hp} {Q : Shared → Prop}, Inv (X.suite x ((x, o4) :: (X.pn ++ pins))) [] τ6 G6 s6 → (∀ s7, Inv X pins (τ6.set i none) G6 s7 → Q s7) → wpAny (model X.prog X.w) X.A (do bindName X.env n .none; unbindBehindTheSuite X.env n q2) (fun _ s7 => Q s7) X.xe s6 := fun {τ6 G6 Q} S6 hq => gone_ok (S6.unsuite ok0) nd hi hl hq
          cases f with
          | next => obtain ⟨τ6, G6, S6, q6⟩ := hq; exact fin S6 fun s7 J7 => ⟨_, _, J7, q6⟩
          | brk => obtain ⟨τ6, G6, S6, q6⟩ := hq; exact fin S6 fun s7 J7 => ⟨_, _, J7, q6⟩
          | cont => obtain ⟨τ6, G6, S6, q6⟩ := hq; exact fin S6 fun s7 J7 => ⟨_, _, J7, q6⟩
          | ret u => obtain ⟨v6, τ6, G6, S6, r6, q6⟩ := hq; exact fin S6 fun s7 J7 => ⟨_, _, _, J7, r6, q6⟩
        | false => exact ih (no rfl)
    exact go hh wish
  · cases f with
    | next => obtain ⟨τ1, G1, j1, q⟩ := hq; exact wpAny_execs_nil ⟨τ1, G1, j1.ofTry ok0, q⟩
    | brk => obtain ⟨τ1, G1, j1, q⟩ := hq; exact ⟨τ1, G1, j1.ofTry ok0, q⟩
    | cont => obtain ⟨τ1, G1, j1, q⟩ := hq; exact ⟨τ1, G1, j1.ofTry ok0, q⟩
    | ret u => obtain ⟨v, τ1, G1, j1, r, q⟩ := hq; exact ⟨v, τ1, G1, j1.ofTry ok0, r, q⟩
def tTryM (K : PySem.W.Frag) (tb : WX → TS) (l : List (Value × Nat × (Addr → Value → Option Addr → TS))) (Wout : WX) : TS := fun D τ G => tb (wManyA K Wout D l) D τ G
section
variable {K : PySem.W.Frag} {c cls : Value} {d : Option Addr} {i : Nat} {tb : WX → TS} {ts : Addr → Value → Option Addr → TS} {Wout : WX} {σ : L2.St} {H : Hp} {rt : VK} {nx bk ct : L2.St → Hp → Prop} {l : List (Value × Nat × (Addr → Value → Option Addr → TS))}
theorem m_tryM (h : tb (wManyA K Wout (Ends.mk nx rt bk ct) l) (Ends.mk nx rt bk ct) σ H) : tTryM K tb l Wout (Ends.mk nx rt bk ct) σ H := h
theorem m_caughtM (he : PySem.W.exmOne K cls c = some true) (h : ∀ a, H a = none → ts a cls d (Ends.mk (fun σ' H' => nx (σ'.set i none) H') rt (fun σ' H' => bk (σ'.set i none) H') (fun σ' H' => ct (σ'.set i none) H')) (σ.set i (some (.ref a))) H) :
    WE (wManyA K Wout (Ends.mk nx rt bk ct) ((c, i, ts) :: l)) σ cls d H := ⟨true, he, fun _ => h, fun z => Bool.noConfusion z⟩
theorem m_nextM (he : PySem.W.exmOne K cls c = some false) (h : WE (wManyA K Wout (Ends.mk nx rt bk ct) l) σ cls d H) : WE (wManyA K Wout (Ends.mk nx rt bk ct) ((c, i, ts) :: l)) σ cls d H := ⟨false, he, fun z => Bool.noConfusion z, fun _ => h⟩
end
/-- isinstance(e, c), e the error that the suite holds -/
def rIsX (K : PySem.W.Frag) (cls : Value) (d : Option Addr) (a : Addr) : List V → Hp → VK → Prop := fun xs H Q => ∃ D, cls = .ref D ∧ d = none ∧ ExcC K D ∧ rIsE K D a xs H Q
theorem call_isX {a : Addr} {oe : Obj} {cls : Value} {d : Option Addr} {pn : List (Addr × Obj)} (hz : Zc cls d oe) (hf : ∃ vs, oe.data = .fields vs) : CallR (X.suite a ((a, oe) :: pn)) (.builtin "isinstance") (rIsX X.K cls d a) := by
  intro pins s σ H xs us Q I r h
  obtain ⟨D, rfl, rfl, C, h⟩ := h
  exact call_isE C hz hf pins s σ H xs us Q I r h
theorem k_isX {K : PySem.W.Frag} {D C a : Addr} {b : Bool} {H : Hp} {Q : VK} (h : ExcC K D) (e : PySem.W.kitOne K (.ref D) (.ref C) = some b) (q : Q (.bl b) H) : rIsX K (.ref D) none a [.ref a, .ref C] H Q :=
  ⟨D, rfl, rfl, h, .ref C, .ref C, b, rfl, fun _ r => r, e, q⟩
theorem k_isXty {K : PySem.W.Frag} {D a : Addr} {n : String} {b : Bool} {H : Hp} {Q : VK} (h : ExcC K D) (e : PySem.W.kitOne K (.ref D) (.type n) = some b) (q : Q (.bl b) H) : rIsX K (.ref D) none a [.ref a, .ty n] H Q :=
  ⟨D, rfl, rfl, h, .ty n, .type n, b, rfl, fun _ r => r, e, q⟩
end
/-- isinstance(e, (c1, c2, ..)), all of them own classes -/
def rIsXT (K : PySem.W.Frag) (cls : Value) (d : Option Addr) (a : Addr) : List V → Hp → VK → Prop := fun xs H Q => ∃ (D tp : Addr) (cs : List Addr) (b : Bool), cls = .ref D ∧ d = none ∧ ExcC K D ∧ xs = [.ref a, .ref tp] ∧ H tp = some (.tup (cs.map V.ref)) ∧ PySem.W.kitAny K (.ref D) (cs.map Value.ref) = some b ∧ Q (.bl b) H
theorem clsV_all : ∀ cs : List Addr, Paired ClsV (cs.map V.ref) (cs.map Value.ref)
  | [] => .nil
  | c :: cs => .cons (.own c) (clsV_all cs)
theorem call_isXT {X : Cx} {a : Addr} {oe : Obj} {cls : Value} {d : Option Addr} {pn : List (Addr × Obj)} (hz : Zc cls d oe) (hf : ∃ vs, oe.data = .fields vs) : CallR (X.suite a ((a, oe) :: pn)) (.builtin "isinstance") (rIsXT X.K cls d a) := by
  intro pins s σ H xs us Q I r h
  obtain ⟨D, tp, cs, b, rfl, rfl, C, rfl, hT, e, q⟩ := h
  obtain ⟨u1, u2, rfl, r1, r2⟩ := vals2 r
  cases (show u1 = Value.ref a from r1)
  cases (show u2 = Value.ref tp from r2)
  obtain ⟨hget, _⟩ := I.pin (a, oe) (List.mem_append.mpr (.inl List.mem_cons_self))
  obtain ⟨vs, hv⟩ := hf
  have J : PySem.W.InstAt s.heap a oe D none := by
    obtain ⟨oc, od, oda, osl⟩ := oe
    obtain ⟨h1, h2⟩ := hz
    dsimp only at h1 h2 hv
    subst h1 h2 hv
    exact ⟨hget, rfl, rfl, trivial⟩
  obtain ⟨_, its, rv, o, h1, h2, n, h3⟩ := (show ObjOk X.prog X.w H s.heap tp (.tup (cs.map V.ref)) from I.hok tp _ hT)
  have e3 := ClsV.all (clsV_all cs) rv
  subst e3
  obtain ⟨oc, od, dt, sl⟩ := o
  simp only at h2 h3
  subst h2 h3
  exact PySem.W.kia_tup (PySem.W.handS_kitx_exc C.hg C.hk C.hs C.hd C.ha C.hn C.ht C.hm) I.kIn J h1 e (fun z => nomatch z) fun tk => ⟨.bl b, H, I.kept (t' := tk) fun _ _ z => z, rfl, q⟩
theorem kitAny_no {K : PySem.W.Frag} {t : Value} : ∀ us : List Value, (∀ u ∈ us, PySem.W.kitOne K t u = some false) → PySem.W.kitAny K t us = some false
  | [], _ => rfl
  | u :: us, h => kitAny_cons (h u List.mem_cons_self) (fun _ => kitAny_no us fun x hx => h x (List.mem_cons_of_mem _ hx)) (fun z => Bool.noConfusion z)
theorem k_isXT {K : PySem.W.Frag} {D a tp : Addr} {b : Bool} {H : Hp} {Q : VK} (cs : List Addr) (hT : H tp = some (.tup (cs.map V.ref))) (h : ExcC K D) (e : PySem.W.kitAny K (.ref D) (cs.map Value.ref) = some b) (q : Q (.bl b) H) : rIsXT K (.ref D) none a [.ref a, .ref tp] H Q :=
  ⟨D, tp, cs, b, rfl, rfl, h, rfl, hT, e, q⟩
/-! ### the head's facts, with what is asked of errors -/
inductive Fx where
  | excC (x : Str)
  | kit (x y : Str) (b : Bool)
  | kitT (x : Str) (t : String) (b : Bool)
  | exm (x y : Str) (b : Bool)
def Fx.ok (K : PySem.W.Frag) : Fx → Bool
  | .excC x => He.eqO (PySem.W.findIn K (.ref (He.ga K x)) "__getattribute__") (some (some (.builtin "BaseException.__getattribute__"))) && (He.eqO (PySem.W.findIn K (.ref (He.ga K x)) "__getattr__") (some none) &&
      (decide (PySem.W.subIn K (.ref (He.ga K x)) (.type "BaseException") = some true) && (PySem.W.hasDictIn K (He.ga K x) && (He.eqO (PySem.W.findIn K (.ref (He.ga K x)) "__class__") (some (some (.builtin "object.__class__"))) &&
      (He.eqO (PySem.W.specialIn K (.builtin "object.__class__") "__get__") (some (some (.builtin "getset_descriptor.__get__"))) && (decide (PySem.W.takesIn K (.builtin "object.__class__") = some true) && decide (PySem.W.mroIn K (He.ga K x) (.type "object") = some true)))))))
  | .kit x y b => decide (PySem.W.kitOne K (.ref (He.ga K x)) (.ref (He.ga K y)) = some b)
  | .kitT x t b => decide (PySem.W.kitOne K (.ref (He.ga K x)) (.type t) = some b)
  | .exm x y b => decide (PySem.W.exmOne K (.ref (He.ga K x)) (.ref (He.ga K y)) = some b)
theorem Fx.excC_ok {K : PySem.W.Frag} {x : Str} (c : (Fx.excC x).ok K = true) : ExcC K (He.ga K x) := by
  obtain ⟨c1, c⟩ := He.ba c
  obtain ⟨c2, c⟩ := He.ba c
  obtain ⟨c3, c⟩ := He.ba c
  obtain ⟨c4, c⟩ := He.ba c
  obtain ⟨c5, c⟩ := He.ba c
  obtain ⟨c6, c⟩ := He.ba c
  obtain ⟨c7, c8⟩ := He.ba c
  exact ⟨He.eqO_ok c1, He.eqO_ok c2, of_decide_eq_true c3, c4, He.eqO_ok c5, He.eqO_ok c6, of_decide_eq_true c7, of_decide_eq_true c8⟩
theorem Fx.kit_ok {K : PySem.W.Frag} {x y : Str} {b : Bool} (c : (Fx.kit x y b).ok K = true) : PySem.W.kitOne K (.ref (He.ga K x)) (.ref (He.ga K y)) = some b := of_decide_eq_true c
theorem Fx.kitT_ok {K : PySem.W.Frag} {x : Str} {t : String} {b : Bool} (c : (Fx.kitT x t b).ok K = true) : PySem.W.kitOne K (.ref (He.ga K x)) (.type t) = some b := of_decide_eq_true c
theorem Fx.exm_ok {K : PySem.W.Frag} {x y : Str} {b : Bool} (c : (Fx.exm x y b).ok K = true) : PySem.W.exmOne K (.ref (He.ga K x)) (.ref (He.ga K y)) = some b := of_decide_eq_true c
abbrev AlF : Type := He.AlD × Bool
def obsF (fa : List He.Fa) (fn : List He.DefD) (fx : List Fx) (K : PySem.W.Frag) : AlF := (He.obsD fa fn K, fx.all fun f => f.ok K)
def SaysF (fa : List He.Fa) (fn : List He.DefD) (fx : List Fx) (K : PySem.W.Frag) : Prop := obsF fa fn fx K = (He.valD fn, true)
def obsFG (n : Nat) (fa : List He.Fa) (fn : List He.DefD) (fx : List Fx) (g : Addr → Option Obj) : AlF := obsF fa fn fx (He.frG g (He.asD g n))
def hookF (n : Nat) (fa : List He.Fa) (fn : List He.DefD) (fx : List Fx) : PySem.W.Hook where
  α := AlF
  obs := fun s => obsFG n fa fn fx s.heap.get?
  val := fun _ => (He.valD fn, true)
  says := fun _ h => ∃ K : PySem.W.Frag, K.In h ∧ SaysF fa fn fx K
  of := fun _ _ e => ⟨_, He.frG_in, e⟩
  keeps := fun _ _ _ ⟨K, hK, c⟩ k => ⟨K, PySem.W.Frag.In.keeps hK k, c⟩
theorem obsFG_eq {n : Nat} {fa : List He.Fa} {fn : List He.DefD} {fx : List Fx} {g : Addr → Option Obj} {s : Shared} (h : ∀ a, g a = s.heap.get? a) : obsFG n fa fn fx g = (hookF n fa fn fx).obs s := by
  have e : g = s.heap.get? := funext h
  rw [e] <;> rfl
theorem SaysF.d {fa : List He.Fa} {fn : List He.DefD} {fx : List Fx} {K : PySem.W.Frag} (c : SaysF fa fn fx K) : He.SaysD fa fn K := congrArg (fun z : AlF => z.1) c
theorem SaysF.fx {fa : List He.Fa} {fn : List He.DefD} {fx : List Fx} {K : PySem.W.Frag} (c : SaysF fa fn fx K) (i : Nat) {f : Fx} (h : fx[i]? = some f := by rfl) : f.ok K = true := by
  have c1 : (fx.all fun f => f.ok K) = true := congrArg (fun z : AlF => z.2) c
  exact List.all_eq_true.mp c1 f (List.mem_of_getElem? h)
end Tw
open PySem PySem.Spec PyProof.Rows L2 Tw
set_option hygiene false in
local macro_rules | `(tactic| walk_at "s1") => `(tactic| first
  | with_reducible refine m_seq ?_
  | with_reducible refine k_asg ?_
  | with_reducible refine m_asg ?_
  | ((with_reducible refine' k_var ?kv ?_); case kv => walk_at "look")
  | with_reducible refine k_c ?_
  | with_reducible refine k_op ?_
  | with_reducible refine k_I0 ?_
  | ((with_reducible refine k_I ?kv ?_); case kv => walk_at "cond")
  | with_reducible refine k_and1 ?_
  | with_reducible refine k_eqI ?_
  | with_reducible refine k_neI ?_
  | ((with_reducible refine k_eq ?kv ?_); case kv => exact rfl)
  | ((with_reducible refine k_ne ?kv ?_); case kv => exact rfl)
  | with_reducible refine k_isN ?_
  | with_reducible refine k_notN ?_
  | with_reducible refine k_nx ?_
  | with_reducible refine k_rt ?_
  | with_reducible refine m_next ?_
  | with_reducible refine m_bk ?_
  | with_reducible refine m_ct ?_
  | with_reducible refine k_if ?_
  | with_reducible refine k_test ?_
  | with_reducible refine k_tB ?_
  | with_reducible refine k_bl ?_
  | with_reducible refine k_chain ?_
  | with_reducible refine k_chainE ?_
  | with_reducible refine k_not ?_
  | with_reducible refine k_and ?_
  | with_reducible refine k_or ?_
  | with_reducible refine k_andV ?_
  | with_reducible refine k_orV ?_
  | with_reducible refine k_notV ?_
  | with_reducible refine k_ifE ?_
  | with_reducible refine k_ret ?_
  | with_reducible refine k_retN ?_
  | with_reducible refine k_drop ?_
  | with_reducible refine k_cons ?_
  | with_reducible refine k_nil ?_
  | with_reducible refine m_call ?_
  | with_reducible refine m_callS ?_
  | with_reducible refine k_rz ?_
  | with_reducible refine m_tryAs ?_
  | with_reducible refine m_tryOnly ?_
  | with_reducible refine m_tryM ?_
  | with_reducible refine k_cb ?_
  | with_reducible refine k_tup ?_
  | with_reducible refine k_lst ?_
  | ((with_reducible refine' k_aug ?kv ?_); case kv => exact rfl)
  | with_reducible refine k_ipI ?_
  | with_reducible refine k_un ?_
  | with_reducible refine k_U ?_
  | with_reducible refine k_sl ?_
  | with_reducible refine k_part ?_
  | with_reducible refine k_noPart ?_
  | with_reducible refine k_partE ?_
  | with_reducible refine k_bm ?_
  | with_reducible refine k_bm0 ?_
  | with_reducible refine k_isInt ?_
  | with_reducible refine k_isBool ?_
  | with_reducible refine k_min2 ?_
  | with_reducible refine k_max2 ?_
  | with_reducible refine m_gName ?_
  | with_reducible refine m_for ?_
  | with_reducible refine m_rng1 ?_
  | ((with_reducible refine m_rng1n ?kv ?_); case kv => walk_at "arith")
  | ((with_reducible refine m_rng1e ?kv ?_); case kv => walk_at "arith")
  | with_reducible refine m_rng2 ?_
  | ((with_reducible refine m_rng2e ?kv ?_); case kv => walk_at "arith")
  | with_reducible refine m_iL ?_
  | with_reducible refine m_iT ?_
  | with_reducible refine m_lc ?_
  | ((with_reducible refine k_disp ?kv ?_); case kv => (first | decide | (simp only [List.length_cons, List.length_nil]; omega)))
  | with_reducible refine m_rev ?_
  | with_reducible refine m_revL ?_
  | with_reducible refine m_enum ?_
  | with_reducible refine m_zip ?_
  | with_reducible refine m_rng3 ?_
  | with_reducible refine m_gCons ?_
  | with_reducible refine m_gNil ?_
  | with_reducible refine m_gSub ?_
  | with_reducible refine m_par ?_
  | with_reducible refine m_parE ?_
  | with_reducible refine m_wbody ?_
  | with_reducible refine m_lenSet ?_
  | with_reducible refine m_minD ?_
  | ((with_reducible refine' m_callV ?kv ?kf ?_); (case kv => walk_at "look"); (case kf => walk_at "isfn"))
  | with_reducible refine k_yes ?_
  | with_reducible refine k_T ?_
  | with_reducible refine k_F ?_
  | with_reducible refine k_nT ?_
  | with_reducible refine k_nF ?_)
local macro_rules | `(tactic| walk_at "cond") => `(tactic| first | exact ⟨by decide, by decide⟩ | omega | decide | exact ⟨by omega, by omega⟩ | exact ⟨by omega, by omega, by decide⟩ | exact Or.inr (by omega) | exact Or.inr (by decide) | exact Or.inl (by omega) | exact Or.inl (by decide) | assumption)
local macro_rules | `(tactic| walk_at "st") => `(tactic| repeat (walk_at "s1"))
local macro_rules | `(tactic| walk_at "look") => `(tactic| first | exact rfl | (simp only [List.getElem?_set, List.getElem?_cons_zero, List.getElem?_cons_succ]; exact rfl))
local macro_rules | `(tactic| walk_at "if") => `(tactic| first | with_reducible apply k_dec | with_reducible apply k_ndec)
local macro_rules | `(tactic| walk_at "arith") => `(tactic| first | decide | omega | (simp only [List.length_map, List.length_take, List.length_drop, List.length_append, List.length_cons, List.length_nil] at *; first | omega | (split <;> omega) | (split <;> split <;> omega)))
local macro_rules | `(tactic| walk_at "isfn") => `(tactic| assumption)
namespace Tw
structure KFx (K : PySem.W.Frag) : Prop where
  ec_NoBit : ExcC K (He.ga K "NoBit")
  kt_NoBit : PySem.W.kitOne K (.ref (He.ga K "NoBit")) (.type "ValueError") = some true
  k_NoBit_NoBit : PySem.W.kitOne K (.ref (He.ga K "NoBit")) (.ref (He.ga K "NoBit")) = some true
  e_NoBit_NoBit : PySem.W.exmOne K (.ref (He.ga K "NoBit")) (.ref (He.ga K "NoBit")) = some true
  k_NoBit_NoNode : PySem.W.kitOne K (.ref (He.ga K "NoBit")) (.ref (He.ga K "NoNode")) = some false
  e_NoBit_NoNode : PySem.W.exmOne K (.ref (He.ga K "NoBit")) (.ref (He.ga K "NoNode")) = some false
  k_NoBit_NoOctets : PySem.W.kitOne K (.ref (He.ga K "NoBit")) (.ref (He.ga K "NoOctets")) = some false
  e_NoBit_NoOctets : PySem.W.exmOne K (.ref (He.ga K "NoBit")) (.ref (He.ga K "NoOctets")) = some false
  k_NoBit_NoPlace : PySem.W.kitOne K (.ref (He.ga K "NoBit")) (.ref (He.ga K "NoPlace")) = some false
  e_NoBit_NoPlace : PySem.W.exmOne K (.ref (He.ga K "NoBit")) (.ref (He.ga K "NoPlace")) = some false
  k_NoBit_NoSign : PySem.W.kitOne K (.ref (He.ga K "NoBit")) (.ref (He.ga K "NoSign")) = some false
  e_NoBit_NoSign : PySem.W.exmOne K (.ref (He.ga K "NoBit")) (.ref (He.ga K "NoSign")) = some false
  k_NoBit_NoTree : PySem.W.kitOne K (.ref (He.ga K "NoBit")) (.ref (He.ga K "NoTree")) = some false
  e_NoBit_NoTree : PySem.W.exmOne K (.ref (He.ga K "NoBit")) (.ref (He.ga K "NoTree")) = some false
  k_NoBit_NoWord : PySem.W.kitOne K (.ref (He.ga K "NoBit")) (.ref (He.ga K "NoWord")) = some false
  e_NoBit_NoWord : PySem.W.exmOne K (.ref (He.ga K "NoBit")) (.ref (He.ga K "NoWord")) = some false
  k_NoBit_TooMany : PySem.W.kitOne K (.ref (He.ga K "NoBit")) (.ref (He.ga K "TooMany")) = some false
  e_NoBit_TooMany : PySem.W.exmOne K (.ref (He.ga K "NoBit")) (.ref (He.ga K "TooMany")) = some false
  k_NoBit_Twice : PySem.W.kitOne K (.ref (He.ga K "NoBit")) (.ref (He.ga K "Twice")) = some false
  e_NoBit_Twice : PySem.W.exmOne K (.ref (He.ga K "NoBit")) (.ref (He.ga K "Twice")) = some false
  k_NoBit_WoodError : PySem.W.kitOne K (.ref (He.ga K "NoBit")) (.ref (He.ga K "WoodError")) = some true
  e_NoBit_WoodError : PySem.W.exmOne K (.ref (He.ga K "NoBit")) (.ref (He.ga K "WoodError")) = some true
  ec_NoNode : ExcC K (He.ga K "NoNode")
  kt_NoNode : PySem.W.kitOne K (.ref (He.ga K "NoNode")) (.type "ValueError") = some true
  k_NoNode_NoBit : PySem.W.kitOne K (.ref (He.ga K "NoNode")) (.ref (He.ga K "NoBit")) = some false
  e_NoNode_NoBit : PySem.W.exmOne K (.ref (He.ga K "NoNode")) (.ref (He.ga K "NoBit")) = some false
  k_NoNode_NoNode : PySem.W.kitOne K (.ref (He.ga K "NoNode")) (.ref (He.ga K "NoNode")) = some true
  e_NoNode_NoNode : PySem.W.exmOne K (.ref (He.ga K "NoNode")) (.ref (He.ga K "NoNode")) = some true
  k_NoNode_NoOctets : PySem.W.kitOne K (.ref (He.ga K "NoNode")) (.ref (He.ga K "NoOctets")) = some false
  e_NoNode_NoOctets : PySem.W.exmOne K (.ref (He.ga K "NoNode")) (.ref (He.ga K "NoOctets")) = some false
  k_NoNode_NoPlace : PySem.W.kitOne K (.ref (He.ga K "NoNode")) (.ref (He.ga K "NoPlace")) = some false
  e_NoNode_NoPlace : PySem.W.exmOne K (.ref (He.ga K "NoNode")) (.ref (He.ga K "NoPlace")) = some false
  k_NoNode_NoSign : PySem.W.kitOne K (.ref (He.ga K "NoNode")) (.ref (He.ga K "NoSign")) = some false
  e_NoNode_NoSign : PySem.W.exmOne K (.ref (He.ga K "NoNode")) (.ref (He.ga K "NoSign")) = some false
  k_NoNode_NoTree : PySem.W.kitOne K (.ref (He.ga K "NoNode")) (.ref (He.ga K "NoTree")) = some false
  e_NoNode_NoTree : PySem.W.exmOne K (.ref (He.ga K "NoNode")) (.ref (He.ga K "NoTree")) = some false
  k_NoNode_NoWord : PySem.W.kitOne K (.ref (He.ga K "NoNode")) (.ref (He.ga K "NoWord")) = some false
  e_NoNode_NoWord : PySem.W.exmOne K (.ref (He.ga K "NoNode")) (.ref (He.ga K "NoWord")) = some false
  k_NoNode_TooMany : PySem.W.kitOne K (.ref (He.ga K "NoNode")) (.ref (He.ga K "TooMany")) = some false
  e_NoNode_TooMany : PySem.W.exmOne K (.ref (He.ga K "NoNode")) (.ref (He.ga K "TooMany")) = some false
  k_NoNode_Twice : PySem.W.kitOne K (.ref (He.ga K "NoNode")) (.ref (He.ga K "Twice")) = some false
  e_NoNode_Twice : PySem.W.exmOne K (.ref (He.ga K "NoNode")) (.ref (He.ga K "Twice")) = some false
  k_NoNode_WoodError : PySem.W.kitOne K (.ref (He.ga K "NoNode")) (.ref (He.ga K "WoodError")) = some true
  e_NoNode_WoodError : PySem.W.exmOne K (.ref (He.ga K "NoNode")) (.ref (He.ga K "WoodError")) = some true
  ec_NoOctets : ExcC K (He.ga K "NoOctets")
  kt_NoOctets : PySem.W.kitOne K (.ref (He.ga K "NoOctets")) (.type "ValueError") = some true
  k_NoOctets_NoBit : PySem.W.kitOne K (.ref (He.ga K "NoOctets")) (.ref (He.ga K "NoBit")) = some false
  e_NoOctets_NoBit : PySem.W.exmOne K (.ref (He.ga K "NoOctets")) (.ref (He.ga K "NoBit")) = some false
  k_NoOctets_NoNode : PySem.W.kitOne K (.ref (He.ga K "NoOctets")) (.ref (He.ga K "NoNode")) = some false
  e_NoOctets_NoNode : PySem.W.exmOne K (.ref (He.ga K "NoOctets")) (.ref (He.ga K "NoNode")) = some false
  k_NoOctets_NoOctets : PySem.W.kitOne K (.ref (He.ga K "NoOctets")) (.ref (He.ga K "NoOctets")) = some true
  e_NoOctets_NoOctets : PySem.W.exmOne K (.ref (He.ga K "NoOctets")) (.ref (He.ga K "NoOctets")) = some true
  k_NoOctets_NoPlace : PySem.W.kitOne K (.ref (He.ga K "NoOctets")) (.ref (He.ga K "NoPlace")) = some false
  e_NoOctets_NoPlace : PySem.W.exmOne K (.ref (He.ga K "NoOctets")) (.ref (He.ga K "NoPlace")) = some false
  k_NoOctets_NoSign : PySem.W.kitOne K (.ref (He.ga K "NoOctets")) (.ref (He.ga K "NoSign")) = some false
  e_NoOctets_NoSign : PySem.W.exmOne K (.ref (He.ga K "NoOctets")) (.ref (He.ga K "NoSign")) = some false
  k_NoOctets_NoTree : PySem.W.kitOne K (.ref (He.ga K "NoOctets")) (.ref (He.ga K "NoTree")) = some false
  e_NoOctets_NoTree : PySem.W.exmOne K (.ref (He.ga K "NoOctets")) (.ref (He.ga K "NoTree")) = some false
  k_NoOctets_NoWord : PySem.W.kitOne K (.ref (He.ga K "NoOctets")) (.ref (He.ga K "NoWord")) = some false
  e_NoOctets_NoWord : PySem.W.exmOne K (.ref (He.ga K "NoOctets")) (.ref (He.ga K "NoWord")) = some false
  k_NoOctets_TooMany : PySem.W.kitOne K (.ref (He.ga K "NoOctets")) (.ref (He.ga K "TooMany")) = some false
  e_NoOctets_TooMany : PySem.W.exmOne K (.ref (He.ga K "NoOctets")) (.ref (He.ga K "TooMany")) = some false
  k_NoOctets_Twice : PySem.W.kitOne K (.ref (He.ga K "NoOctets")) (.ref (He.ga K "Twice")) = some false
  e_NoOctets_Twice : PySem.W.exmOne K (.ref (He.ga K "NoOctets")) (.ref (He.ga K "Twice")) = some false
  k_NoOctets_WoodError : PySem.W.kitOne K (.ref (He.ga K "NoOctets")) (.ref (He.ga K "WoodError")) = some true
  e_NoOctets_WoodError : PySem.W.exmOne K (.ref (He.ga K "NoOctets")) (.ref (He.ga K "WoodError")) = some true
  ec_NoPlace : ExcC K (He.ga K "NoPlace")
  kt_NoPlace : PySem.W.kitOne K (.ref (He.ga K "NoPlace")) (.type "ValueError") = some true
  k_NoPlace_NoBit : PySem.W.kitOne K (.ref (He.ga K "NoPlace")) (.ref (He.ga K "NoBit")) = some false
  e_NoPlace_NoBit : PySem.W.exmOne K (.ref (He.ga K "NoPlace")) (.ref (He.ga K "NoBit")) = some false
  k_NoPlace_NoNode : PySem.W.kitOne K (.ref (He.ga K "NoPlace")) (.ref (He.ga K "NoNode")) = some false
  e_NoPlace_NoNode : PySem.W.exmOne K (.ref (He.ga K "NoPlace")) (.ref (He.ga K "NoNode")) = some false
  k_NoPlace_NoOctets : PySem.W.kitOne K (.ref (He.ga K "NoPlace")) (.ref (He.ga K "NoOctets")) = some false
  e_NoPlace_NoOctets : PySem.W.exmOne K (.ref (He.ga K "NoPlace")) (.ref (He.ga K "NoOctets")) = some false
  k_NoPlace_NoPlace : PySem.W.kitOne K (.ref (He.ga K "NoPlace")) (.ref (He.ga K "NoPlace")) = some true
  e_NoPlace_NoPlace : PySem.W.exmOne K (.ref (He.ga K "NoPlace")) (.ref (He.ga K "NoPlace")) = some true
  k_NoPlace_NoSign : PySem.W.kitOne K (.ref (He.ga K "NoPlace")) (.ref (He.ga K "NoSign")) = some false
  e_NoPlace_NoSign : PySem.W.exmOne K (.ref (He.ga K "NoPlace")) (.ref (He.ga K "NoSign")) = some false
  k_NoPlace_NoTree : PySem.W.kitOne K (.ref (He.ga K "NoPlace")) (.ref (He.ga K "NoTree")) = some false
  e_NoPlace_NoTree : PySem.W.exmOne K (.ref (He.ga K "NoPlace")) (.ref (He.ga K "NoTree")) = some false
  k_NoPlace_NoWord : PySem.W.kitOne K (.ref (He.ga K "NoPlace")) (.ref (He.ga K "NoWord")) = some false
  e_NoPlace_NoWord : PySem.W.exmOne K (.ref (He.ga K "NoPlace")) (.ref (He.ga K "NoWord")) = some false
  k_NoPlace_TooMany : PySem.W.kitOne K (.ref (He.ga K "NoPlace")) (.ref (He.ga K "TooMany")) = some false
  e_NoPlace_TooMany : PySem.W.exmOne K (.ref (He.ga K "NoPlace")) (.ref (He.ga K "TooMany")) = some false
  k_NoPlace_Twice : PySem.W.kitOne K (.ref (He.ga K "NoPlace")) (.ref (He.ga K "Twice")) = some false
  e_NoPlace_Twice : PySem.W.exmOne K (.ref (He.ga K "NoPlace")) (.ref (He.ga K "Twice")) = some false
  k_NoPlace_WoodError : PySem.W.kitOne K (.ref (He.ga K "NoPlace")) (.ref (He.ga K "WoodError")) = some true
  e_NoPlace_WoodError : PySem.W.exmOne K (.ref (He.ga K "NoPlace")) (.ref (He.ga K "WoodError")) = some true
  ec_NoSign : ExcC K (He.ga K "NoSign")
  kt_NoSign : PySem.W.kitOne K (.ref (He.ga K "NoSign")) (.type "ValueError") = some true
  k_NoSign_NoBit : PySem.W.kitOne K (.ref (He.ga K "NoSign")) (.ref (He.ga K "NoBit")) = some false
  e_NoSign_NoBit : PySem.W.exmOne K (.ref (He.ga K "NoSign")) (.ref (He.ga K "NoBit")) = some false
  k_NoSign_NoNode : PySem.W.kitOne K (.ref (He.ga K "NoSign")) (.ref (He.ga K "NoNode")) = some false
  e_NoSign_NoNode : PySem.W.exmOne K (.ref (He.ga K "NoSign")) (.ref (He.ga K "NoNode")) = some false
  k_NoSign_NoOctets : PySem.W.kitOne K (.ref (He.ga K "NoSign")) (.ref (He.ga K "NoOctets")) = some false
  e_NoSign_NoOctets : PySem.W.exmOne K (.ref (He.ga K "NoSign")) (.ref (He.ga K "NoOctets")) = some false
  k_NoSign_NoPlace : PySem.W.kitOne K (.ref (He.ga K "NoSign")) (.ref (He.ga K "NoPlace")) = some false
  e_NoSign_NoPlace : PySem.W.exmOne K (.ref (He.ga K "NoSign")) (.ref (He.ga K "NoPlace")) = some false
  k_NoSign_NoSign : PySem.W.kitOne K (.ref (He.ga K "NoSign")) (.ref (He.ga K "NoSign")) = some true
  e_NoSign_NoSign : PySem.W.exmOne K (.ref (He.ga K "NoSign")) (.ref (He.ga K "NoSign")) = some true
  k_NoSign_NoTree : PySem.W.kitOne K (.ref (He.ga K "NoSign")) (.ref (He.ga K "NoTree")) = some false
  e_NoSign_NoTree : PySem.W.exmOne K (.ref (He.ga K "NoSign")) (.ref (He.ga K "NoTree")) = some false
  k_NoSign_NoWord : PySem.W.kitOne K (.ref (He.ga K "NoSign")) (.ref (He.ga K "NoWord")) = some false
  e_NoSign_NoWord : PySem.W.exmOne K (.ref (He.ga K "NoSign")) (.ref (He.ga K "NoWord")) = some false
  k_NoSign_TooMany : PySem.W.kitOne K (.ref (He.ga K "NoSign")) (.ref (He.ga K "TooMany")) = some false
  e_NoSign_TooMany : PySem.W.exmOne K (.ref (He.ga K "NoSign")) (.ref (He.ga K "TooMany")) = some false
  k_NoSign_Twice : PySem.W.kitOne K (.ref (He.ga K "NoSign")) (.ref (He.ga K "Twice")) = some false
  e_NoSign_Twice : PySem.W.exmOne K (.ref (He.ga K "NoSign")) (.ref (He.ga K "Twice")) = some false
  k_NoSign_WoodError : PySem.W.kitOne K (.ref (He.ga K "NoSign")) (.ref (He.ga K "WoodError")) = some true
  e_NoSign_WoodError : PySem.W.exmOne K (.ref (He.ga K "NoSign")) (.ref (He.ga K "WoodError")) = some true
  ec_NoTree : ExcC K (He.ga K "NoTree")
  kt_NoTree : PySem.W.kitOne K (.ref (He.ga K "NoTree")) (.type "ValueError") = some true
  k_NoTree_NoBit : PySem.W.kitOne K (.ref (He.ga K "NoTree")) (.ref (He.ga K "NoBit")) = some false
  e_NoTree_NoBit : PySem.W.exmOne K (.ref (He.ga K "NoTree")) (.ref (He.ga K "NoBit")) = some false
  k_NoTree_NoNode : PySem.W.kitOne K (.ref (He.ga K "NoTree")) (.ref (He.ga K "NoNode")) = some false
  e_NoTree_NoNode : PySem.W.exmOne K (.ref (He.ga K "NoTree")) (.ref (He.ga K "NoNode")) = some false
  k_NoTree_NoOctets : PySem.W.kitOne K (.ref (He.ga K "NoTree")) (.ref (He.ga K "NoOctets")) = some false
  e_NoTree_NoOctets : PySem.W.exmOne K (.ref (He.ga K "NoTree")) (.ref (He.ga K "NoOctets")) = some false
  k_NoTree_NoPlace : PySem.W.kitOne K (.ref (He.ga K "NoTree")) (.ref (He.ga K "NoPlace")) = some false
  e_NoTree_NoPlace : PySem.W.exmOne K (.ref (He.ga K "NoTree")) (.ref (He.ga K "NoPlace")) = some false
  k_NoTree_NoSign : PySem.W.kitOne K (.ref (He.ga K "NoTree")) (.ref (He.ga K "NoSign")) = some false
  e_NoTree_NoSign : PySem.W.exmOne K (.ref (He.ga K "NoTree")) (.ref (He.ga K "NoSign")) = some false
  k_NoTree_NoTree : PySem.W.kitOne K (.ref (He.ga K "NoTree")) (.ref (He.ga K "NoTree")) = some true
  e_NoTree_NoTree : PySem.W.exmOne K (.ref (He.ga K "NoTree")) (.ref (He.ga K "NoTree")) = some true
  k_NoTree_NoWord : PySem.W.kitOne K (.ref (He.ga K "NoTree")) (.ref (He.ga K "NoWord")) = some false
  e_NoTree_NoWord : PySem.W.exmOne K (.ref (He.ga K "NoTree")) (.ref (He.ga K "NoWord")) = some false
  k_NoTree_TooMany : PySem.W.kitOne K (.ref (He.ga K "NoTree")) (.ref (He.ga K "TooMany")) = some false
  e_NoTree_TooMany : PySem.W.exmOne K (.ref (He.ga K "NoTree")) (.ref (He.ga K "TooMany")) = some false
  k_NoTree_Twice : PySem.W.kitOne K (.ref (He.ga K "NoTree")) (.ref (He.ga K "Twice")) = some false
  e_NoTree_Twice : PySem.W.exmOne K (.ref (He.ga K "NoTree")) (.ref (He.ga K "Twice")) = some false
  k_NoTree_WoodError : PySem.W.kitOne K (.ref (He.ga K "NoTree")) (.ref (He.ga K "WoodError")) = some true
  e_NoTree_WoodError : PySem.W.exmOne K (.ref (He.ga K "NoTree")) (.ref (He.ga K "WoodError")) = some true
  ec_NoWord : ExcC K (He.ga K "NoWord")
  kt_NoWord : PySem.W.kitOne K (.ref (He.ga K "NoWord")) (.type "ValueError") = some true
  k_NoWord_NoBit : PySem.W.kitOne K (.ref (He.ga K "NoWord")) (.ref (He.ga K "NoBit")) = some false
  e_NoWord_NoBit : PySem.W.exmOne K (.ref (He.ga K "NoWord")) (.ref (He.ga K "NoBit")) = some false
  k_NoWord_NoNode : PySem.W.kitOne K (.ref (He.ga K "NoWord")) (.ref (He.ga K "NoNode")) = some false
  e_NoWord_NoNode : PySem.W.exmOne K (.ref (He.ga K "NoWord")) (.ref (He.ga K "NoNode")) = some false
  k_NoWord_NoOctets : PySem.W.kitOne K (.ref (He.ga K "NoWord")) (.ref (He.ga K "NoOctets")) = some false
  e_NoWord_NoOctets : PySem.W.exmOne K (.ref (He.ga K "NoWord")) (.ref (He.ga K "NoOctets")) = some false
  k_NoWord_NoPlace : PySem.W.kitOne K (.ref (He.ga K "NoWord")) (.ref (He.ga K "NoPlace")) = some false
  e_NoWord_NoPlace : PySem.W.exmOne K (.ref (He.ga K "NoWord")) (.ref (He.ga K "NoPlace")) = some false
  k_NoWord_NoSign : PySem.W.kitOne K (.ref (He.ga K "NoWord")) (.ref (He.ga K "NoSign")) = some false
  e_NoWord_NoSign : PySem.W.exmOne K (.ref (He.ga K "NoWord")) (.ref (He.ga K "NoSign")) = some false
  k_NoWord_NoTree : PySem.W.kitOne K (.ref (He.ga K "NoWord")) (.ref (He.ga K "NoTree")) = some false
  e_NoWord_NoTree : PySem.W.exmOne K (.ref (He.ga K "NoWord")) (.ref (He.ga K "NoTree")) = some false
  k_NoWord_NoWord : PySem.W.kitOne K (.ref (He.ga K "NoWord")) (.ref (He.ga K "NoWord")) = some true
  e_NoWord_NoWord : PySem.W.exmOne K (.ref (He.ga K "NoWord")) (.ref (He.ga K "NoWord")) = some true
  k_NoWord_TooMany : PySem.W.kitOne K (.ref (He.ga K "NoWord")) (.ref (He.ga K "TooMany")) = some false
  e_NoWord_TooMany : PySem.W.exmOne K (.ref (He.ga K "NoWord")) (.ref (He.ga K "TooMany")) = some false
  k_NoWord_Twice : PySem.W.kitOne K (.ref (He.ga K "NoWord")) (.ref (He.ga K "Twice")) = some false
  e_NoWord_Twice : PySem.W.exmOne K (.ref (He.ga K "NoWord")) (.ref (He.ga K "Twice")) = some false
  k_NoWord_WoodError : PySem.W.kitOne K (.ref (He.ga K "NoWord")) (.ref (He.ga K "WoodError")) = some true
  e_NoWord_WoodError : PySem.W.exmOne K (.ref (He.ga K "NoWord")) (.ref (He.ga K "WoodError")) = some true
  ec_TooMany : ExcC K (He.ga K "TooMany")
  kt_TooMany : PySem.W.kitOne K (.ref (He.ga K "TooMany")) (.type "ValueError") = some true
  k_TooMany_NoBit : PySem.W.kitOne K (.ref (He.ga K "TooMany")) (.ref (He.ga K "NoBit")) = some false
  e_TooMany_NoBit : PySem.W.exmOne K (.ref (He.ga K "TooMany")) (.ref (He.ga K "NoBit")) = some false
  k_TooMany_NoNode : PySem.W.kitOne K (.ref (He.ga K "TooMany")) (.ref (He.ga K "NoNode")) = some false
  e_TooMany_NoNode : PySem.W.exmOne K (.ref (He.ga K "TooMany")) (.ref (He.ga K "NoNode")) = some false
  k_TooMany_NoOctets : PySem.W.kitOne K (.ref (He.ga K "TooMany")) (.ref (He.ga K "NoOctets")) = some false
  e_TooMany_NoOctets : PySem.W.exmOne K (.ref (He.ga K "TooMany")) (.ref (He.ga K "NoOctets")) = some false
  k_TooMany_NoPlace : PySem.W.kitOne K (.ref (He.ga K "TooMany")) (.ref (He.ga K "NoPlace")) = some false
  e_TooMany_NoPlace : PySem.W.exmOne K (.ref (He.ga K "TooMany")) (.ref (He.ga K "NoPlace")) = some false
  k_TooMany_NoSign : PySem.W.kitOne K (.ref (He.ga K "TooMany")) (.ref (He.ga K "NoSign")) = some false
  e_TooMany_NoSign : PySem.W.exmOne K (.ref (He.ga K "TooMany")) (.ref (He.ga K "NoSign")) = some false
  k_TooMany_NoTree : PySem.W.kitOne K (.ref (He.ga K "TooMany")) (.ref (He.ga K "NoTree")) = some false
  e_TooMany_NoTree : PySem.W.exmOne K (.ref (He.ga K "TooMany")) (.ref (He.ga K "NoTree")) = some false
  k_TooMany_NoWord : PySem.W.kitOne K (.ref (He.ga K "TooMany")) (.ref (He.ga K "NoWord")) = some false
  e_TooMany_NoWord : PySem.W.exmOne K (.ref (He.ga K "TooMany")) (.ref (He.ga K "NoWord")) = some false
  k_TooMany_TooMany : PySem.W.kitOne K (.ref (He.ga K "TooMany")) (.ref (He.ga K "TooMany")) = some true
  e_TooMany_TooMany : PySem.W.exmOne K (.ref (He.ga K "TooMany")) (.ref (He.ga K "TooMany")) = some true
  k_TooMany_Twice : PySem.W.kitOne K (.ref (He.ga K "TooMany")) (.ref (He.ga K "Twice")) = some false
  e_TooMany_Twice : PySem.W.exmOne K (.ref (He.ga K "TooMany")) (.ref (He.ga K "Twice")) = some false
  k_TooMany_WoodError : PySem.W.kitOne K (.ref (He.ga K "TooMany")) (.ref (He.ga K "WoodError")) = some true
  e_TooMany_WoodError : PySem.W.exmOne K (.ref (He.ga K "TooMany")) (.ref (He.ga K "WoodError")) = some true
  ec_Twice : ExcC K (He.ga K "Twice")
  kt_Twice : PySem.W.kitOne K (.ref (He.ga K "Twice")) (.type "ValueError") = some true
  k_Twice_NoBit : PySem.W.kitOne K (.ref (He.ga K "Twice")) (.ref (He.ga K "NoBit")) = some false
  e_Twice_NoBit : PySem.W.exmOne K (.ref (He.ga K "Twice")) (.ref (He.ga K "NoBit")) = some false
  k_Twice_NoNode : PySem.W.kitOne K (.ref (He.ga K "Twice")) (.ref (He.ga K "NoNode")) = some false
  e_Twice_NoNode : PySem.W.exmOne K (.ref (He.ga K "Twice")) (.ref (He.ga K "NoNode")) = some false
  k_Twice_NoOctets : PySem.W.kitOne K (.ref (He.ga K "Twice")) (.ref (He.ga K "NoOctets")) = some false
  e_Twice_NoOctets : PySem.W.exmOne K (.ref (He.ga K "Twice")) (.ref (He.ga K "NoOctets")) = some false
  k_Twice_NoPlace : PySem.W.kitOne K (.ref (He.ga K "Twice")) (.ref (He.ga K "NoPlace")) = some false
  e_Twice_NoPlace : PySem.W.exmOne K (.ref (He.ga K "Twice")) (.ref (He.ga K "NoPlace")) = some false
  k_Twice_NoSign : PySem.W.kitOne K (.ref (He.ga K "Twice")) (.ref (He.ga K "NoSign")) = some false
  e_Twice_NoSign : PySem.W.exmOne K (.ref (He.ga K "Twice")) (.ref (He.ga K "NoSign")) = some false
  k_Twice_NoTree : PySem.W.kitOne K (.ref (He.ga K "Twice")) (.ref (He.ga K "NoTree")) = some false
  e_Twice_NoTree : PySem.W.exmOne K (.ref (He.ga K "Twice")) (.ref (He.ga K "NoTree")) = some false
  k_Twice_NoWord : PySem.W.kitOne K (.ref (He.ga K "Twice")) (.ref (He.ga K "NoWord")) = some false
  e_Twice_NoWord : PySem.W.exmOne K (.ref (He.ga K "Twice")) (.ref (He.ga K "NoWord")) = some false
  k_Twice_TooMany : PySem.W.kitOne K (.ref (He.ga K "Twice")) (.ref (He.ga K "TooMany")) = some false
  e_Twice_TooMany : PySem.W.exmOne K (.ref (He.ga K "Twice")) (.ref (He.ga K "TooMany")) = some false
  k_Twice_Twice : PySem.W.kitOne K (.ref (He.ga K "Twice")) (.ref (He.ga K "Twice")) = some true
  e_Twice_Twice : PySem.W.exmOne K (.ref (He.ga K "Twice")) (.ref (He.ga K "Twice")) = some true
  k_Twice_WoodError : PySem.W.kitOne K (.ref (He.ga K "Twice")) (.ref (He.ga K "WoodError")) = some true
  e_Twice_WoodError : PySem.W.exmOne K (.ref (He.ga K "Twice")) (.ref (He.ga K "WoodError")) = some true
  ec_WoodError : ExcC K (He.ga K "WoodError")
  kt_WoodError : PySem.W.kitOne K (.ref (He.ga K "WoodError")) (.type "ValueError") = some true
  k_WoodError_NoBit : PySem.W.kitOne K (.ref (He.ga K "WoodError")) (.ref (He.ga K "NoBit")) = some false
  e_WoodError_NoBit : PySem.W.exmOne K (.ref (He.ga K "WoodError")) (.ref (He.ga K "NoBit")) = some false
  k_WoodError_NoNode : PySem.W.kitOne K (.ref (He.ga K "WoodError")) (.ref (He.ga K "NoNode")) = some false
  e_WoodError_NoNode : PySem.W.exmOne K (.ref (He.ga K "WoodError")) (.ref (He.ga K "NoNode")) = some false
  k_WoodError_NoOctets : PySem.W.kitOne K (.ref (He.ga K "WoodError")) (.ref (He.ga K "NoOctets")) = some false
  e_WoodError_NoOctets : PySem.W.exmOne K (.ref (He.ga K "WoodError")) (.ref (He.ga K "NoOctets")) = some false
  k_WoodError_NoPlace : PySem.W.kitOne K (.ref (He.ga K "WoodError")) (.ref (He.ga K "NoPlace")) = some false
  e_WoodError_NoPlace : PySem.W.exmOne K (.ref (He.ga K "WoodError")) (.ref (He.ga K "NoPlace")) = some false
  k_WoodError_NoSign : PySem.W.kitOne K (.ref (He.ga K "WoodError")) (.ref (He.ga K "NoSign")) = some false
  e_WoodError_NoSign : PySem.W.exmOne K (.ref (He.ga K "WoodError")) (.ref (He.ga K "NoSign")) = some false
  k_WoodError_NoTree : PySem.W.kitOne K (.ref (He.ga K "WoodError")) (.ref (He.ga K "NoTree")) = some false
  e_WoodError_NoTree : PySem.W.exmOne K (.ref (He.ga K "WoodError")) (.ref (He.ga K "NoTree")) = some false
  k_WoodError_NoWord : PySem.W.kitOne K (.ref (He.ga K "WoodError")) (.ref (He.ga K "NoWord")) = some false
  e_WoodError_NoWord : PySem.W.exmOne K (.ref (He.ga K "WoodError")) (.ref (He.ga K "NoWord")) = some false
  k_WoodError_TooMany : PySem.W.kitOne K (.ref (He.ga K "WoodError")) (.ref (He.ga K "TooMany")) = some false
  e_WoodError_TooMany : PySem.W.exmOne K (.ref (He.ga K "WoodError")) (.ref (He.ga K "TooMany")) = some false
  k_WoodError_Twice : PySem.W.kitOne K (.ref (He.ga K "WoodError")) (.ref (He.ga K "Twice")) = some false
  e_WoodError_Twice : PySem.W.exmOne K (.ref (He.ga K "WoodError")) (.ref (He.ga K "Twice")) = some false
  k_WoodError_WoodError : PySem.W.kitOne K (.ref (He.ga K "WoodError")) (.ref (He.ga K "WoodError")) = some true
  e_WoodError_WoodError : PySem.W.exmOne K (.ref (He.ga K "WoodError")) (.ref (He.ga K "WoodError")) = some true

/-- _law_whole(x) -/
def sp_law_whole (_ : PySem.W.Frag) : Sp := fun vs H Q _ => ∃ x : V, vs = [x] ∧ ((∃ n : Int, x = .int n ∧ Q (.bl true) H) ∨ (x = .non ∧ Q (.bl false) H))
theorem whole_int {K : PySem.W.Frag} {H : Hp} {Q : VK} {E : XK} {n : Int} (q : Q (.bl true) H) : sp_law_whole K [.int n] H Q E := ⟨_, rfl, .inl ⟨n, rfl, q⟩⟩
theorem whole_non {K : PySem.W.Frag} {H : Hp} {Q : VK} {E : XK} (q : Q (.bl false) H) : sp_law_whole K [.non] H Q E := ⟨_, rfl, .inr ⟨rfl, q⟩⟩
theorem len_law_whole (K : PySem.W.Frag) : ∀ vs H Q E, sp_law_whole K vs H Q E → vs.length = 1 := by
  rintro vs H Q E ⟨x, rfl, _⟩; rfl
def t_law_whole (K : PySem.W.Frag) : TS :=
  (tRet (tAndV (tCB rIsB (tCons (tVar 0) (tCons (tC (.ty "int")) tNil))) (tNotV (tCB rIsB (tCons (tVar 0) (tCons (tC (.ty "bool")) tNil))))))
abbrev n_law_whole : List Str := ["_law_found"]

theorem rd_law_whole (K : PySem.W.Frag) (vs : List V) (H : Hp) (Q : VK) (E : XK) (h : sp_law_whole K vs H Q E) : t_law_whole K { nx := fun _ H' => Q .non H', rt := Q } (start n_law_whole vs) H := by
  obtain ⟨x, rfl, (⟨n, rfl, q⟩ | ⟨rfl, q⟩)⟩ := h
  · unfold t_law_whole
    walk_at "st"
    exact q
  · unfold t_law_whole
    walk_at "st"
    refine k_isIntN ?_
    walk_at "st"
    exact q

/-- _law_cell_at(script, k) -/
def sp_law_cell_at (K : PySem.W.Frag) : Sp := fun vs H Q _ => ∃ (a : Addr) (ns : List Int) (k : Int), vs = [.ref a, .int k] ∧ SqL K H a (ns.map V.int) ∧ 0 ≤ k ∧ ∀ c : Int, c = ns.getD k.toNat 0 → Q (.int c) H
theorem len_law_cell_at (K : PySem.W.Frag) : ∀ vs H Q E, sp_law_cell_at K vs H Q E → vs.length = 2 := by
  rintro vs H Q E ⟨x, y, z, rfl, _⟩; rfl
def t_law_cell_at (K : PySem.W.Frag) : TS :=
  (tSeq (tIfS (tTest (tOp rLt (tVar 1) (tCB (rLen K) (tCons (tVar 0) tNil))))
  (tRet (tOp (rIxL K) (tVar 0) (tVar 1)))
  tNext)
  (tRet (tC (.int 0))))
abbrev n_law_cell_at : List Str := ["_law_script", "_law_k"]

theorem rd_law_cell_at (K : PySem.W.Frag) (vs : List V) (H : Hp) (Q : VK) (E : XK) (h : sp_law_cell_at K vs H Q E) : t_law_cell_at K { nx := fun _ H' => Q .non H', rt := Q } (start n_law_cell_at vs) H := by
  obtain ⟨a, ns, k, rfl, hS, hk, q⟩ := h
  unfold t_law_cell_at
  walk_at "st"
  refine k_lenL hS ?_
  walk_at "st"
  rw [List.length_map]
  walk_at "if" <;> intro c
  · walk_at "st"
    have hlt : k.toNat < ns.length := by omega
    refine k_ixL hS (at_int hk (mapint (List.getElem?_eq_getElem hlt))) ?_
    walk_at "st"
    exact q _ (by rw [List.getD_eq_getElem?_getD, List.getElem?_eq_getElem hlt]; rfl)
  · walk_at "st"
    exact q _ (by rw [List.getD_eq_getElem?_getD, List.getElem?_eq_none (by omega)]; rfl)
theorem call_cell_at {K : PySem.W.Frag} {H : Hp} {Q : VK} {E : XK} {a : Addr} {ns : List Int} {k : Int} (hS : SqL K H a (ns.map V.int)) (hk : 0 ≤ k) (q : ∀ c : Int, c = ns.getD k.toNat 0 → Q (.int c) H) : sp_law_cell_at K [.ref a, .int k] H Q E :=
  ⟨a, ns, k, rfl, hS, hk, q⟩

/-! ### bits of a number -/
/-- the bit k of b -/
def bit (b : Int) (k : Nat) : Int := b / 2 ^ k % 2
theorem bit_cases (b : Int) (k : Nat) : bit b k = 0 ∨ bit b k = 1 := by unfold bit; omega
/-- the ones among the first n bits -/
def onesIn (b : Int) : Nat → Int
  | 0 => 0
  | n + 1 => onesIn b n + bit b n
theorem onesIn_mono1 (b : Int) (n : Nat) : onesIn b n ≤ onesIn b (n + 1) ∧ onesIn b (n + 1) ≤ onesIn b n + 1 := by
  show onesIn b n ≤ onesIn b n + bit b n ∧ onesIn b n + bit b n ≤ _
  have := bit_cases b n; omega
theorem onesIn_mono (b : Int) (n m : Nat) (h : n ≤ m) : onesIn b n ≤ onesIn b m := by
  induction m with
  | zero => have : n = 0 := by omega
            subst this; exact Int.le_refl _
  | succ m ih =>
    rcases Nat.lt_or_ge m n with q | q
    · have : n = m + 1 := by omega
      subst this; exact Int.le_refl _
    · have := ih q; have := onesIn_mono1 b m; omega
theorem onesIn_range (b : Int) (n : Nat) : 0 ≤ onesIn b n ∧ onesIn b n ≤ n := by
  induction n with
  | zero => exact ⟨Int.le_refl _, Int.le_refl _⟩
  | succ n ih => have := onesIn_mono1 b n; omega
theorem sum_range_succ (f : Nat → Int) (n : Nat) : ((List.range (n + 1)).map f).sum = ((List.range n).map f).sum + f n := by
  rw [List.range_succ, List.map_append, List.sum_append]; simp
theorem onesIn_sum (b : Int) (n : Nat) : ((List.range n).map fun k => bit b k).sum = onesIn b n := by
  induction n with
  | zero => rfl
  | succ n ih => rw [sum_range_succ, ih]; rfl
theorem halve (b : Int) (k : Nat) : b / 2 ^ k / 2 = b / 2 ^ (k + 1) := by
  rw [Int.pow_succ, Int.ediv_ediv_of_nonneg]
  exact Int.le_of_lt (Int.pow_pos (by decide))

/-! ### rows and blocks -/
/-- all items are bits -/
def Bits (bs : List Int) : Prop := ∀ b ∈ bs, b = 0 ∨ b = 1
/-- the block of some bits (the first one counting 1) -/
def blk : List Int → Int
  | [] => 0
  | b :: bs => b + 2 * blk bs
/-- the row of bits bs as blocks, so many -/
def blksN (bs : List Int) : Nat → List Int
  | 0 => []
  | n + 1 => blk (bs.take 32) :: blksN (bs.drop 32) n
/-- the blocks of a row -/
def blks (bs : List Int) : List Int := blksN bs ((bs.length + 31) / 32)
theorem blksN_len (bs : List Int) (n : Nat) : (blksN bs n).length = n := by
  induction n generalizing bs with
  | zero => rfl
  | succ n ih => show (blksN (bs.drop 32) n).length + 1 = n + 1; rw [ih]
theorem blks_len (bs : List Int) : (blks bs).length = (bs.length + 31) / 32 := blksN_len _ _
theorem blksN_get (bs : List Int) (n j : Nat) (h : j < n) : (blksN bs n)[j]? = some (blk ((bs.drop (32 * j)).take 32)) := by
  induction n generalizing bs j with
  | zero => omega
  | succ n ih =>
    cases j with
    | zero => rfl
    | succ j =>
      show (blksN (bs.drop 32) n)[j]? = _
      rw [ih (bs.drop 32) j (by omega), List.drop_drop, show 32 + 32 * j = 32 * (j + 1) by omega]
theorem blks_get (bs : List Int) (j : Nat) (h : j < (bs.length + 31) / 32) : (blks bs)[j]? = some (blk ((bs.drop (32 * j)).take 32)) := blksN_get _ _ _ h
theorem blk_range : ∀ bs : List Int, Bits bs → 0 ≤ blk bs ∧ blk bs < 2 ^ bs.length
  | [], _ => ⟨Int.le_refl _, by decide⟩
  | b :: bs, h => by
    obtain ⟨h1, h2⟩ := blk_range bs fun x hx => h x (List.mem_cons_of_mem _ hx)
    have h3 := h b List.mem_cons_self
    have e : (2 : Int) ^ (bs.length + 1) = 2 ^ bs.length * 2 := Int.pow_succ ..
    show 0 ≤ b + 2 * blk bs ∧ b + 2 * blk bs < 2 ^ (bs.length + 1)
    omega
/-- a bit of a block -/
theorem bit_blk : ∀ (bs : List Int) (k : Nat), Bits bs → bit (blk bs) k = bs.getD k 0
  | [], k, _ => by
    show (0 : Int) / 2 ^ k % 2 = _
    rw [Int.zero_ediv]; rfl
  | b :: bs, 0, h => by
    have h3 := h b List.mem_cons_self
    show (b + 2 * blk bs) / 2 ^ 0 % 2 = b
    simp; omega
  | b :: bs, k + 1, h => by
    have h3 := h b List.mem_cons_self
    have ih := bit_blk bs k fun x hx => h x (List.mem_cons_of_mem _ hx)
    show (b + 2 * blk bs) / 2 ^ (k + 1) % 2 = (b :: bs).getD (k + 1) 0
    rw [List.getD_cons_succ, ← ih]
    show _ = blk bs / 2 ^ k % 2
    have e : (b + 2 * blk bs) / 2 = blk bs := by omega
    rw [show (2 : Int) ^ (k + 1) = 2 * 2 ^ k by rw [Int.pow_succ, Int.mul_comm], ← Int.ediv_ediv_of_nonneg (by decide), e]
theorem Bits.sub {bs cs : List Int} (h : Bits bs) (s : ∀ x ∈ cs, x ∈ bs) : Bits cs := fun x hx => h x (s x hx)
theorem Bits.take {bs : List Int} (h : Bits bs) (n : Nat) : Bits (bs.take n) := h.sub fun _ hx => List.mem_of_mem_take hx
theorem Bits.drop {bs : List Int} (h : Bits bs) (n : Nat) : Bits (bs.drop n) := h.sub fun _ hx => List.mem_of_mem_drop hx
/-- a row's blocks: each below 2 ^ 32 -/
theorem blks_range {bs : List Int} (h : Bits bs) {j : Nat} {b : Int} (e : (blks bs)[j]? = some b) : 0 ≤ b ∧ b < 4294967296 := by
  have hj : j < (bs.length + 31) / 32 := by
    have := (List.getElem?_eq_some_iff.mp e).1
    rw [blks_len] at this; exact this
  rw [blks_get bs j hj] at e
  obtain rfl := Option.some.inj e
  obtain ⟨h1, h2⟩ := blk_range _ ((h.drop (32 * j)).take 32)
  refine ⟨h1, Int.lt_of_lt_of_le h2 ?_⟩
  have : ((bs.drop (32 * j)).take 32).length ≤ 32 := by rw [List.length_take]; omega
  show (2 : Int) ^ _ ≤ 2 ^ 32
  exact_mod_cast Nat.pow_le_pow_right (show 0 < 2 by decide) this
/-- bit k of block j is bit 32 * j + k of the row -/
theorem bit_blks {bs : List Int} (h : Bits bs) {j : Nat} {b : Int} (e : (blks bs)[j]? = some b) {k : Nat} (hk : k < 32) : bit b k = bs.getD (32 * j + k) 0 := by
  have hj : j < (bs.length + 31) / 32 := by
    have := (List.getElem?_eq_some_iff.mp e).1
    rw [blks_len] at this; exact this
  rw [blks_get bs j hj] at e
  obtain rfl := Option.some.inj e
  rw [bit_blk _ _ ((h.drop (32 * j)).take 32), List.getD_eq_getElem?_getD, List.getD_eq_getElem?_getD, List.getElem?_take, if_pos hk, List.getElem?_drop]
/-- blocks are alike where their bits are -/
theorem blk_ext {x y : Int} (hx : 0 ≤ x ∧ x < 4294967296) (hy : 0 ≤ y ∧ y < 4294967296) (h : ∀ k, k < 32 → bit x k = bit y k) : x = y := by
  have key : ∀ n : Nat, n ≤ 32 → x / 2 ^ (32 - n) = y / 2 ^ (32 - n) := by
    intro n
    induction n with
    | zero =>
      intro _
      rw [Int.ediv_eq_zero_of_lt hx.1 (by exact hx.2), Int.ediv_eq_zero_of_lt hy.1 (by exact hy.2)]
    | succ n ih =>
      intro hn
      have h1 := ih (by omega)
      have h2 := h (32 - (n + 1)) (by omega)
      unfold bit at h2
      have e : 32 - n = (32 - (n + 1)) + 1 := by omega
      rw [e, ← halve, ← halve] at h1
      omega
  have := key 32 (Nat.le_refl _)
  rw [Nat.sub_self, Int.pow_zero, Int.ediv_one, Int.ediv_one] at this
  exact this

/-- blocks filled with the first i bits, zeroes behind -/
def part (bs : List Int) (n i : Nat) : List Int := blksN (bs.take i) n
theorem blk_nil : blk [] = 0 := rfl
theorem blk_snoc : ∀ (bs : List Int) (b : Int), blk (bs ++ [b]) = blk bs + b * 2 ^ bs.length
  | [], b => by show b + 2 * 0 = 0 + b * 2 ^ 0; simp
  | c :: bs, b => by
    show c + 2 * blk (bs ++ [b]) = c + 2 * blk bs + b * 2 ^ (bs.length + 1)
    rw [blk_snoc bs b, Int.pow_succ, Int.mul_add, ← Int.mul_assoc 2 b, Int.mul_comm 2 b, Int.mul_assoc b, Int.mul_comm 2 (2 ^ bs.length), Int.add_assoc]
theorem part_zero (bs : List Int) (n : Nat) : part bs n 0 = List.replicate n 0 := by
  unfold part
  rw [List.take_zero]
  induction n with
  | zero => rfl
  | succ n ih => show blk [] :: blksN [] n = _; rw [ih]; rfl
theorem part_full (bs : List Int) : part bs ((bs.length + 31) / 32) bs.length = blks bs := by
  unfold part blks; rw [List.take_length]
theorem part_len (bs : List Int) (n i : Nat) : (part bs n i).length = n := blksN_len _ _
theorem part_get (bs : List Int) (n i j : Nat) (h : j < n) : (part bs n i)[j]? = some (blk (((bs.take i).drop (32 * j)).take 32)) := blksN_get _ _ _ h
/-- one bit more: only its own block turns -/
theorem part_succ {bs : List Int} {n i : Nat} {b : Int} (hb : bs[i]? = some b) (hn : i / 32 < n) :
    part bs n (i + 1) = (part bs n i).set (i / 32) ((part bs n i).getD (i / 32) 0 + b * 2 ^ (i % 32)) := by
  have hi : i < bs.length := (List.getElem?_eq_some_iff.mp hb).1
  apply List.ext_getElem?
  intro j
  rw [List.getElem?_set, part_len]
  rcases Nat.lt_or_ge j n with hj | hj
  · rw [part_get _ _ _ _ hj]
    have et : bs.take (i + 1) = bs.take i ++ [b] := by rw [List.take_add_one, hb]; rfl
    have hl : (bs.take i).length = i := by rw [List.length_take]; omega
    rw [et]
    by_cases h : i / 32 = j
    · subst h
      rw [if_pos rfl, if_pos hn, List.getD_eq_getElem?_getD, part_get _ _ _ _ hn]
      have hd : ((bs.take i).drop (32 * (i / 32))).length = i % 32 := by rw [List.length_drop, hl]; omega
      have e2 : ((bs.take i).drop (32 * (i / 32))).take 32 = (bs.take i).drop (32 * (i / 32)) := List.take_of_length_le (by rw [hd]; omega)
      have e1 : ((bs.take i).drop (32 * (i / 32)) ++ [b]).take 32 = (bs.take i).drop (32 * (i / 32)) ++ [b] := List.take_of_length_le (by rw [List.length_append, hd]; simp; omega)
      rw [List.drop_append_of_le_length (by rw [hl]; omega), e1, e2, blk_snoc, hd]
      rfl
    · rw [if_neg h, part_get _ _ _ _ hj]
      congr 2
      rcases Nat.lt_or_ge j (i / 32) with l | l
      · rw [List.drop_append_of_le_length (by rw [hl]; omega), List.take_append_of_le_length (by rw [List.length_drop, hl]; omega)]
      · rw [List.drop_of_length_le (by rw [List.length_append, hl]; simp; omega), List.drop_of_length_le (by rw [hl]; omega)]
  · rw [List.getElem?_eq_none (by rw [part_len]; exact hj), if_neg (by omega), List.getElem?_eq_none (by rw [part_len]; exact hj)]
theorem part_range_take {bs : List Int} {i : Nat} (h : Bits (bs.take i)) {n j : Nat} (hj : j < n) (hi : i % 32 = i - 32 * j) (hij : 32 * j ≤ i) : 0 ≤ (part bs n i).getD j 0 ∧ (part bs n i).getD j 0 < 2 ^ (i % 32) := by
  rw [List.getD_eq_getElem?_getD, part_get _ _ _ _ hj]
  obtain ⟨h1, h2⟩ := blk_range _ ((h.drop (32 * j)).take 32)
  refine ⟨h1, Int.lt_of_lt_of_le h2 ?_⟩
  have : (((bs.take i).drop (32 * j)).take 32).length ≤ i % 32 := by rw [List.length_take, List.length_drop, List.length_take]; omega
  exact_mod_cast Nat.pow_le_pow_right (show 0 < 2 by decide) this
/-- a bit above a number -/
theorem or_high {x : Int} {k : Nat} (h0 : 0 ≤ x) (h1 : x < 2 ^ k) : Builtin.bitOr x (1 * 2 ^ k) = x + 1 * 2 ^ k := by
  have e := or_low (q := 1) (r := x) (k := k) (by decide) h0 h1
  rw [bitOr_nn h0 (by rw [Int.one_mul]; exact Int.le_of_lt (Int.pow_pos (by decide))), Nat.or_comm, ← bitOr_nn (by rw [Int.one_mul]; exact Int.le_of_lt (Int.pow_pos (by decide))) h0, e, Int.add_comm]

/-- packed(bits) -/
def sp_packed (K : PySem.W.Frag) : Sp := fun vs H Q E => ∃ (a : Addr) (bs : List Int), vs = [.ref a] ∧ SqL K H a (bs.map V.int) ∧ bs.length ≤ 100000 ∧
  (bs.length > 4096 → E (.ref (He.ga K "TooMany")) none H) ∧
  (bs.length ≤ 4096 → ¬ Bits bs → ∀ H', Same H H' → E (.ref (He.ga K "NoBit")) none H') ∧
  (bs.length ≤ 4096 → Bits bs → ∀ p H', H p = none → Same H H' → H' p = some (.lst ((blks bs).map V.int)) → Q (.ref p) H')
theorem len_packed (K : PySem.W.Frag) : ∀ vs H Q E, sp_packed K vs H Q E → vs.length = 1 := by
  rintro vs H Q E ⟨x, y, rfl, _⟩; rfl
def t_packed (K : PySem.W.Frag) (E : XK) : TS :=
  (tSeq (tIfS (tTest (tOp rGtI (tCB (rLen K) (tCons (tVar 0) tNil)) (tC (.int 4096))))
  (tRz (fun cls d _ H => E cls d H) (He.ga K "TooMany"))
  tNext)
  (tSeq (tAsg (tOp rRep (tLst (tCons (tC (.int 0)) tNil)) (tOp rDiv (tOp rMinus (tOp rPlus (tCB (rLen K) (tCons (tVar 0) tNil)) (tC (.int 32))) (tC (.int 1))) (tC (.int 32)))) (gName 1))
  (tSeq (tFor (iEnum K (tCons (tVar 0) tNil)) (gTup K 2 (gCons (gName 2) (gCons (gName 3) gNil)))
  (tSeq (tIfS (tAnd (tTest (tOp rNe (tVar 3) (tC (.int 0)))) (tTest (tOp rNe (tVar 3) (tC (.int 1)))))
  (tRz (fun cls d _ H => E cls d H) (He.ga K "NoBit"))
  tNext)
  (tIfS (tTest (tOp rEq (tVar 3) (tC (.int 1))))
  (tAsg (tOp rBitOr (tOp (rIxL K) (tVar 1) (tOp rDiv (tVar 2) (tC (.int 32)))) (tOp rShlW (tC (.int 1)) (tOp rMod (tVar 2) (tC (.int 32))))) (gSub (tVar 1) (tOp rDiv (tVar 2) (tC (.int 32))) rSetL))
  tNext)))
  (tRet (tVar 1)))))
abbrev n_packed : List Str := ["bits", "blocks", "at", "bit"]

theorem rd_packed (K : PySem.W.Frag) (vs : List V) (H : Hp) (Q : VK) (E : XK) (h : sp_packed K vs H Q E) : t_packed K E { nx := fun _ H' => Q .non H', rt := Q } (start n_packed vs) H := by
  obtain ⟨a, bs, rfl, hS, hl, q1, q2, q3⟩ := h
  unfold t_packed
  walk_at "st"
  refine k_lenL hS ?_
  walk_at "st"
  rw [List.length_map]
  walk_at "if" <;> intro c1
  · walk_at "st"
    exact q1 (by omega)
  have hm : bs.length ≤ 4096 := by omega
  walk_at "st"
  intro p0 hp0
  walk_at "st"
  refine k_lenL ((same_new hp0).seq hS) ?_
  walk_at "st"
  rw [List.length_map]
  have en : ((bs.length : Int) + 32 - 1) / 32 = (((bs.length + 31) / 32 : Nat) : Int) := by omega
  rw [en]
  refine k_rep (xs := [.int 0]) upd_same (by simp only [List.length_cons, List.length_nil]; omega) (by omega) fun p hp => ?_
  have hp' : H p = none := (same_new hp0).free hp
  have s0 := (same_new hp0).trans (same_new (o := .lst (List.replicate ((bs.length + 31) / 32) [V.int 0]).flatten) hp)
  walk_at "st"
  refine m_enumE (s0.seq hS) ?_
  refine loop_walk walk_enum (fun i σ H' => ∃ y z, σ = [some (.ref a), some (.ref p), y, z] ∧ i ≤ bs.length ∧ Same H H' ∧ H' p = some (.lst ((part bs ((bs.length + 31) / 32) i).map V.int)) ∧ Bits (bs.take i)) ⟨none, none, rfl, Nat.zero_le _, s0, ?_, fun x hx => by simp at hx⟩ (fun i σ H' ⟨y, z, _, _, s, _⟩ => s.seq hS) ?_ ?_
  · rw [upd_same, part_zero, List.map_replicate, rep_one]
  · rintro i v σ H1 H2 hi ⟨y, z, rfl, _, s, e, hb⟩ ⟨T, x, w, rfl, hT, rfl, ex, ew⟩
    rw [List.length_map] at hi
    obtain ⟨b, hbi, rfl⟩ := of_mapint ew
    obtain rfl : x = .int (i : Nat) := (Option.some.inj ex).symm
    have npT : p ≠ T := ne_of_none e hT
    have s2 : Same H (upd H1 T (.tup [.int (i : Nat), .int b])) := s.trans (same_new hT)
    have e2 : (upd H1 T (.tup [.int (i : Nat), .int b])) p = some (.lst ((part bs ((bs.length + 31) / 32) i).map V.int)) := by rw [upd_ne npT]; exact e
    refine m_gTup (.of upd_same) rfl ?_
    walk_at "st"
    have nobit : ∀ (c : ¬ (b = 0 ∨ b = 1)), ¬ Bits bs := fun c hB => c (hB b (List.mem_of_getElem? hbi))
    have go : (b = 0 ∨ b = 1) → Bits (bs.take (i + 1)) := by
      intro hb1 q hq
      rw [List.take_add_one, hbi] at hq
      rcases List.mem_append.mp hq with h | h
      · exact hb q h
      · have : q = b := by simpa using h
        subst this; exact hb1
    have hin : i / 32 < (bs.length + 31) / 32 := by omega
    walk_at "if" <;> intro c0
    · walk_at "st"
      walk_at "if" <;> intro c1
      · walk_at "st"
        exact q2 hm (nobit fun z => z.elim c0 c1) _ s2
      · walk_at "st"
        refine k_decT c1 ?_
        obtain rfl : b = 1 := c1
        walk_at "st"
        have hlt : i / 32 < ((part bs ((bs.length + 31) / 32) i)).length := by rw [part_len]; exact hin
        refine k_ixL (.of e2) (at_int (by omega) (i := ((i : Nat) : Int) / 32) (x := .int ((part bs ((bs.length + 31) / 32) i).getD (i / 32) 0)) ?_) ?_
        · rw [show (((i : Nat) : Int) / 32).toNat = i / 32 by omega, List.getD_eq_getElem?_getD, List.getElem?_eq_getElem hlt]
          exact mapint (List.getElem?_eq_getElem hlt)
        walk_at "st"
        have hsh : CShl 1 (((i : Nat) : Int) % 32) := by
          rw [show ((i : Nat) : Int) % 32 = ((i % 32 : Nat) : Int) by omega]
          exact shl_ok (n := 1) (by decide) (by omega)
        refine k_I hsh ?_
        walk_at "st"
        have hr := part_range_take hb (n := (bs.length + 31) / 32) (j := i / 32) hin (by omega) (by omega)
        have eor : Builtin.bitOr ((part bs ((bs.length + 31) / 32) i).getD (i / 32) 0) (1 * 2 ^ (((i : Nat) : Int) % 32).toNat) = (part bs ((bs.length + 31) / 32) i).getD (i / 32) 0 + 1 * 2 ^ (i % 32) := by
          rw [show (((i : Nat) : Int) % 32).toNat = i % 32 by omega]
          exact or_high hr.1 hr.2
        rw [eor]
        refine m_setL e2 (ixN_nat (by omega) (by rw [List.length_map, part_len]; omega)) ?_
        walk_at "st"
        refine ⟨_, _, rfl, hi, Same.mut s2 hp', ?_, go (.inr rfl)⟩
        rw [upd_same, show (((i : Nat) : Int) / 32).toNat = i / 32 by omega, part_succ hbi hin, List.map_set]
    · walk_at "st"
      obtain rfl : b = 0 := c0
      refine k_decF (by decide) ?_
      walk_at "st"
      refine ⟨_, _, rfl, hi, s2, ?_, go (.inl rfl)⟩
      rw [e2, part_succ hbi hin, Int.zero_mul, Int.add_zero]
      congr 2
      have hlt : i / 32 < ((part bs ((bs.length + 31) / 32) i)).length := by rw [part_len]; exact hin
      rw [List.getD_eq_getElem?_getD, List.getElem?_eq_getElem hlt]
      show _ = List.map V.int ((part bs ((bs.length + 31) / 32) i).set (i / 32) ((part bs ((bs.length + 31) / 32) i)[i / 32]))
      rw [List.set_getElem_self]
  · rintro σ H' ⟨y, z, rfl, _, s, e, hb⟩
    rw [List.length_map] at e hb
    walk_at "st"
    rw [List.take_length] at hb
    rw [part_full] at e
    exact q3 hm hb p H' hp' s e

/-- the ones among the first n bits of a row -/
def sumTo (bs : List Int) (n : Nat) : Int := (bs.take n).sum
theorem sumTo_succ (bs : List Int) (n : Nat) : sumTo bs (n + 1) = sumTo bs n + bs.getD n 0 := by
  unfold sumTo
  rw [List.take_add_one, List.sum_append, List.getD_eq_getElem?_getD]
  cases bs[n]? <;> simp
theorem sumTo_all (bs : List Int) {n : Nat} (h : bs.length ≤ n) : sumTo bs n = bs.sum := by
  unfold sumTo; rw [List.take_of_length_le h]
theorem sumTo_zero (bs : List Int) : sumTo bs 0 = 0 := rfl
/-- the ones of a block's first bits -/
theorem onesIn_blks {bs : List Int} (h : Bits bs) {j : Nat} {b : Int} (e : (blks bs)[j]? = some b) : ∀ k, k ≤ 32 → onesIn b k = sumTo bs (32 * j + k) - sumTo bs (32 * j)
  | 0, _ => by rw [Nat.add_zero]; show (0 : Int) = _; omega
  | k + 1, hk => by
    show onesIn b k + bit b k = _
    rw [onesIn_blks h e k (by omega), bit_blks h e (by omega), show 32 * j + (k + 1) = (32 * j + k) + 1 by omega, sumTo_succ]; omega

/-- the ones ahead of the first n blocks -/
def aheadN (bs : List Int) (n : Nat) : List Int := (List.range n).map fun j => sumTo bs (32 * j)
theorem aheadN_len (bs : List Int) (n : Nat) : (aheadN bs n).length = n := by unfold aheadN; simp
theorem aheadN_get (bs : List Int) {n j : Nat} (h : j < n) : (aheadN bs n)[j]? = some (sumTo bs (32 * j)) := by unfold aheadN; simp [h]
theorem aheadN_succ (bs : List Int) (n : Nat) : aheadN bs (n + 1) = aheadN bs n ++ [sumTo bs (32 * n)] := by unfold aheadN; rw [List.range_succ, List.map_append]; rfl
/-- the table of a row: the ones ahead of each block, and all -/
def aheadT (bs : List Int) : List Int := aheadN bs ((bs.length + 31) / 32 + 1)
theorem aheadT_len (bs : List Int) : (aheadT bs).length = (bs.length + 31) / 32 + 1 := aheadN_len _ _
theorem aheadT_get (bs : List Int) {j : Nat} (h : j ≤ (bs.length + 31) / 32) : (aheadT bs)[j]? = some (sumTo bs (32 * j)) := aheadN_get bs (by omega)
theorem sumTo_add (bs : List Int) (n m : Nat) : sumTo bs (n + m) = sumTo bs n + ((bs.drop n).take m).sum := by
  unfold sumTo; rw [List.take_add, List.sum_append]
theorem getD_bit {bs : List Int} (h : Bits bs) (k : Nat) : bs.getD k 0 = 0 ∨ bs.getD k 0 = 1 := by
  rw [List.getD_eq_getElem?_getD]
  cases e : bs[k]? with
  | none => exact .inl rfl
  | some b => exact h b (List.mem_of_getElem? e)
theorem sumTo_mono1 {bs : List Int} (h : Bits bs) (n : Nat) : sumTo bs n ≤ sumTo bs (n + 1) ∧ sumTo bs (n + 1) ≤ sumTo bs n + 1 := by
  rw [sumTo_succ]; have := getD_bit h n; omega
theorem sumTo_mono {bs : List Int} (h : Bits bs) {n m : Nat} (l : n ≤ m) : sumTo bs n ≤ sumTo bs m := by
  induction m with
  | zero => rw [show n = 0 by omega]; exact Int.le_refl _
  | succ m ih =>
    rcases Nat.lt_or_ge m n with z | z
    · rw [show n = m + 1 by omega]; exact Int.le_refl _
    · have := ih z; have := sumTo_mono1 h m; omega
theorem sumTo_range {bs : List Int} (h : Bits bs) (n : Nat) : 0 ≤ sumTo bs n ∧ sumTo bs n ≤ n := by
  induction n with
  | zero => exact ⟨Int.le_refl _, Int.le_refl _⟩
  | succ n ih => have := sumTo_mono1 h n; omega
theorem blks_getD {bs : List Int} {j : Nat} (h : j < (bs.length + 31) / 32) : (blks bs)[j]? = some ((blks bs).getD j 0) := by
  rw [List.getD_eq_getElem?_getD, List.getElem?_eq_getElem (by rw [blks_len]; exact h)]; rfl

/-! ### promises -/
/-- ones_in(b, u) -/
def sp_ones_in (_ : PySem.W.Frag) : Sp := fun vs H Q _ => ∃ (b : Int) (u : Nat), vs = [.int b, .int (u : Int)] ∧ u ≤ 1000 ∧ ∀ H', Same H H' → Q (.int (onesIn b u)) H'
theorem len_ones_in (K : PySem.W.Frag) : ∀ vs H Q E, sp_ones_in K vs H Q E → vs.length = 2 := by
  rintro vs H Q E ⟨b, u, rfl, _⟩; rfl
def t_ones_in (K : PySem.W.Frag) : TS :=
  (tRet (tCB (rSum K) (tCons (tLc (iRng1 (tCons (tVar 1) tNil)) (gName 2) tYes (tOp rAnd1 (tOp rShr (tVar 0) (tVar 2)) (tC (.int 1))) [2]) tNil)))
abbrev n_ones_in : List Str := ["block", "upto", "k"]

theorem rd_ones_in (K : PySem.W.Frag) (vs : List V) (H : Hp) (Q : VK) (E : XK) (h : sp_ones_in K vs H Q E) : t_ones_in K { nx := fun _ H' => Q .non H', rt := Q } (start n_ones_in vs) H := by
  obtain ⟨b, u, rfl, hu, q⟩ := h
  unfold t_ones_in
  walk_at "st"
  refine comp_rangeV (n := u) (f := fun k => .int (bit b k)) (by omega) (fun k H2 Q2 _ _ q2 => ?_) (fun p H' _ s e => ?_)
  · walk_at "st"
    exact q2 _ (Same.refl _)
  · walk_at "st"
    refine k_sum (ns := (List.range u).map fun k => bit b k) (.of ?_) ?_
    · rw [e, List.map_map]; rfl
    · rw [onesIn_sum]; walk_at "st"; exact q _ s

/-- ones_table(blocks), the blocks of a row -/
def sp_ones_table (K : PySem.W.Frag) : Sp := fun vs H Q _ => ∃ (a : Addr) (bs : List Int), vs = [.ref a] ∧ H a = some (.lst ((blks bs).map V.int)) ∧ bs.length ≤ 5000 ∧ Bits bs ∧ ∀ p H', H p = none → Same H H' → H' p = some (.tup ((aheadT bs).map V.int)) → Q (.ref p) H'
theorem len_ones_table (K : PySem.W.Frag) : ∀ vs H Q E, sp_ones_table K vs H Q E → vs.length = 1 := by
  rintro vs H Q E ⟨a, bs, rfl, _⟩; rfl
def t_ones_table (K : PySem.W.Frag) : TS :=
  (tSeq (tAsg (tLst (tCons (tC (.int 0)) tNil)) (gName 1))
  (tSeq (tFor (iList K (tVar 0)) (gName 2)
  (tDrop (tBM K "list" rAppend (tVar 1) (tCons (tOp rPlus (tOp (rIxL K) (tVar 1) (tUn rNeg (tC (.int 1)))) (tCall (sp_ones_in K) [] E0 (tCons (tVar 2) (tCons (tC (.int 32)) tNil)))) tNil))))
  (tRet (tCB (rTupOf K) (tCons (tVar 1) tNil)))))
abbrev n_ones_table : List Str := ["blocks", "ahead", "block"]

theorem rd_ones_table (K : PySem.W.Frag) (vs : List V) (H : Hp) (Q : VK) (E : XK) (h : sp_ones_table K vs H Q E) : t_ones_table K { nx := fun _ H' => Q .non H', rt := Q } (start n_ones_table vs) H := by
  obtain ⟨a, bs, rfl, hS, hl, hB, q⟩ := h
  unfold t_ones_table
  walk_at "st"
  intro p hp
  walk_at "st"
  refine m_iLe (.of ((same_new hp).get hS)) ?_
  refine loop_ints (ns := blks bs) (fun i σ H' => ∃ y, σ = [some (.ref a), some (.ref p), y] ∧ i ≤ (blks bs).length ∧ Same H H' ∧ H' p = some (.lst ((aheadN bs (i + 1)).map V.int))) ⟨none, rfl, Nat.zero_le _, same_new hp, by rw [upd_same]; rfl⟩ (fun i σ H' ⟨_, _, _, s, _⟩ => .of (s.get hS)) ?_ ?_
  · rintro i x σ H' hx ⟨y, rfl, hi, s, e⟩
    have hlt : i < (blks bs).length := (List.getElem?_eq_some_iff.mp hx).1
    have hlt2 := hlt
    rw [blks_len] at hlt2
    walk_at "st"
    refine k_tyL (.of e) ?_
    walk_at "st"
    refine k_ixL (.of e) (x := .int (sumTo bs (32 * i))) (by rw [aheadN_succ, List.map_append]; exact atI_last _ _) ?_
    walk_at "st"
    refine ⟨x, 32, rfl, by decide, fun H2 s2 => ?_⟩
    walk_at "st"
    refine k_app (s2.get e) (by rw [List.length_map, aheadN_len]; omega) ?_
    walk_at "st"
    have e2 := s2.get e
    refine ⟨_, rfl, hlt, Same.mut (s.trans s2) hp, ?_⟩
    rw [upd_same, aheadN_succ bs (i + 1), List.map_append, onesIn_blks hB hx 32 (Nat.le_refl _), show 32 * i + 32 = 32 * (i + 1) by omega, show sumTo bs (32 * i) + (sumTo bs (32 * (i + 1)) - sumTo bs (32 * i)) = sumTo bs (32 * (i + 1)) by omega]; rfl
  · rintro σ H' ⟨y, rfl, hi, s, e⟩
    walk_at "st"
    refine k_tupL (.of e) fun t ht => ?_
    walk_at "st"
    refine q t _ (s.gone _ ht) (s.trans (same_new ht)) ?_
    rw [upd_same, blks_len]; rfl
/-- kept_row(bits) -/
def sp_kept_row (K : PySem.W.Frag) : Sp := fun vs H Q E => ∃ (a : Addr) (bs : List Int), vs = [.ref a] ∧ SqL K H a (bs.map V.int) ∧ bs.length ≤ 100000 ∧
  (bs.length > 4096 → E (.ref (He.ga K "TooMany")) none H) ∧
  (bs.length ≤ 4096 → ¬ Bits bs → ∀ H', Same H H' → E (.ref (He.ga K "NoBit")) none H') ∧
  (bs.length ≤ 4096 → Bits bs → ∀ p t pa pb H', H p = none → H t = none → H pa = none → H pb = none → Same H H' → H' p = some (.tup [.ref t, .ref pb]) → H' t = some (.tup [.int (bs.length : Int), .ref pa]) → H' pa = some (.tup ((aheadT bs).map V.int)) → H' pb = some (.lst ((blks bs).map V.int)) → Q (.ref p) H')
theorem len_kept_row (K : PySem.W.Frag) : ∀ vs H Q E, sp_kept_row K vs H Q E → vs.length = 1 := by
  rintro vs H Q E ⟨a, bs, rfl, _⟩; rfl
def t_kept_row (K : PySem.W.Frag) (E : XK) : TS :=
  (tSeq (tAsg (tCall (sp_packed K) [] E (tCons (tVar 0) tNil)) (gName 1))
  (tRet (tTup (tCons (tTup (tCons (tCB (rLen K) (tCons (tVar 0) tNil)) (tCons (tCall (sp_ones_table K) [] E0 (tCons (tVar 1) tNil)) tNil))) (tCons (tVar 1) tNil)))))
abbrev n_kept_row : List Str := ["bits", "blocks"]

theorem rd_kept_row (K : PySem.W.Frag) (vs : List V) (H : Hp) (Q : VK) (E : XK) (h : sp_kept_row K vs H Q E) : t_kept_row K E { nx := fun _ H' => Q .non H', rt := Q } (start n_kept_row vs) H := by
  obtain ⟨a, bs, rfl, hS, hl, q1, q2, q3⟩ := h
  unfold t_kept_row
  walk_at "st"
  refine ⟨a, bs, rfl, hS, hl, q1, q2, fun hm hB pb H1 hpb s1 e1 => ?_⟩
  walk_at "st"
  refine k_lenL (s1.seq hS) ?_
  walk_at "st"
  rw [List.length_map]
  refine ⟨pb, bs, rfl, e1, by omega, hB, fun pa H2 hpa s2 e2 => ?_⟩
  walk_at "st"
  intro t ht
  walk_at "st"
  intro p hp
  walk_at "st"
  have s3 := same_new (o := .tup [.int (bs.length : Int), .ref pa]) ht
  have s4 := same_new (o := .tup [.ref t, .ref pb]) hp
  exact q3 hm hB p t pa pb _ ((s1.trans (s2.trans s3)).gone _ hp) ((s1.trans s2).gone _ ht) (s1.gone _ hpa) hpb (s1.trans (s2.trans (s3.trans s4))) upd_same (s4.get upd_same) (s4.get (s3.get e2)) (s4.get (s3.get (s2.get e1)))

/-! ### octets -/
/-- the octets of n, so many -/
def octs (n : Int) (m : Nat) : List Int := (List.range m).map fun i => n / 256 ^ i % 256
/-- the number that octets write -/
def num : List Int → Int
  | [] => 0
  | o :: os => o + 256 * num os
def Octs (ns : List Int) : Prop := ∀ n ∈ ns, 0 ≤ n ∧ n < 256
theorem octs_len (n : Int) (m : Nat) : (octs n m).length = m := by unfold octs; rw [List.length_map, List.length_range]
theorem octs_oct (n : Int) (m : Nat) : Octs (octs n m) := by
  intro x hx
  obtain ⟨i, _, rfl⟩ := List.mem_map.mp hx
  omega
theorem octs_cons (n : Int) (m : Nat) : octs n (m + 1) = n % 256 :: octs (n / 256) m := by
  unfold octs
  rw [List.range_succ_eq_map, List.map_cons, List.map_map]
  congr 1
  · simp
  · apply List.map_congr_left
    intro i _
    show n / 256 ^ (i + 1) % 256 = n / 256 / 256 ^ i % 256
    rw [Int.ediv_ediv_of_nonneg (by decide), Int.pow_succ, Int.mul_comm]
theorem pow256 (m : Nat) : (256 : Int) ^ m = 2 ^ (8 * m) := by rw [Int.pow_mul]; rfl
theorem num_octs : ∀ (m : Nat) (n : Int), 0 ≤ n → n < 256 ^ m → num (octs n m) = n
  | 0, n, h0, h1 => by
    have : n = 0 := by simp at h1; omega
    subst this; rfl
  | m + 1, n, h0, h1 => by
    rw [octs_cons]
    show n % 256 + 256 * num (octs (n / 256) m) = n
    have e : (256 : Int) ^ (m + 1) = 256 ^ m * 256 := Int.pow_succ ..
    rw [num_octs m (n / 256) (by omega) (by rw [e] at h1; exact Int.ediv_lt_of_lt_mul (by decide) h1)]
    omega
theorem num_range : ∀ ns : List Int, Octs ns → 0 ≤ num ns ∧ num ns < 256 ^ ns.length
  | [], _ => ⟨Int.le_refl _, by show (0 : Int) < 256 ^ 0; decide⟩
  | o :: os, h => by
    obtain ⟨h1, h2⟩ := num_range os fun x hx => h x (List.mem_cons_of_mem _ hx)
    obtain ⟨h3, h4⟩ := h o List.mem_cons_self
    have e : (256 : Int) ^ (os.length + 1) = 256 ^ os.length * 256 := Int.pow_succ ..
    show 0 ≤ o + 256 * num os ∧ o + 256 * num os < 256 ^ (os.length + 1)
    omega
theorem num_snoc : ∀ (ns : List Int) (o : Int), num (ns ++ [o]) = num ns + o * 256 ^ ns.length
  | [], o => by show o + 256 * 0 = 0 + o * 256 ^ 0; simp
  | n :: ns, o => by
    show n + 256 * num (ns ++ [o]) = n + 256 * num ns + o * 256 ^ (ns.length + 1)
    rw [num_snoc ns o, Int.pow_succ, Int.mul_add, ← Int.mul_assoc 256 o, Int.mul_comm 256 o, Int.mul_assoc o, Int.mul_comm 256 (256 ^ ns.length), Int.add_assoc]
theorem octs_snoc (n : Int) (m : Nat) : octs n (m + 1) = octs n m ++ [n / 256 ^ m % 256] := by
  unfold octs; rw [List.range_succ, List.map_append]; rfl
theorem natAbs_lt_of {n : Int} {k : Nat} (h0 : 0 ≤ n) (h : n < 2 ^ k) : n.natAbs < 2 ^ k := by
  have e : ((n.natAbs : Nat) : Int) = n := Int.natAbs_of_nonneg h0
  have : ((n.natAbs : Nat) : Int) < ((2 ^ k : Nat) : Int) := by rw [e]; push_cast; exact h
  exact_mod_cast this

/-- octets_of(n, m): a new list -/
def sp_octets_of (_ : PySem.W.Frag) : Sp := fun vs H Q _ => ∃ (n : Int) (m : Nat), vs = [.int n, .int (m : Int)] ∧ m ≤ 1000 ∧ 0 ≤ n ∧ n < 2 ^ 4000 ∧
  ∀ p H', H p = none → Same H H' → H' p = some (.lst ((octs n m).map V.int)) → Q (.ref p) H'
theorem len_octets_of (K : PySem.W.Frag) : ∀ vs H Q E, sp_octets_of K vs H Q E → vs.length = 2 := by
  rintro vs H Q E ⟨x, y, rfl, _⟩; rfl
theorem divp256 {n : Int} (h0 : 0 ≤ n) (h : n < 2 ^ 4000) : CDivP n 256 := by
  refine divp_ok (by decide) ?_
  have e : Builtin.Int.intBits 256 = 9 := by decide
  rw [e]
  have := intBits_le (natAbs_lt_of h0 h)
  omega
def t_octets_of (K : PySem.W.Frag) : TS :=
  (tSeq (tAsg (tLst tNil) (gName 2))
  (tSeq (tWhile (tTest (tOp rLt (tCB (rLen K) (tCons (tVar 2) tNil)) (tVar 1)))
  (tSeq (tAsg (tCB rDivmod (tCons (tVar 0) (tCons (tC (.int 256)) tNil))) (gTup K 2 (gCons (gName 0) (gCons (gName 3) gNil))))
  (tDrop (tBM K "list" rAppend (tVar 2) (tCons (tVar 3) tNil)))))
  (tRet (tVar 2))))
abbrev n_octets_of : List Str := ["number", "many", "octets", "octet"]

theorem rd_octets_of (K : PySem.W.Frag) (vs : List V) (H : Hp) (Q : VK) (E : XK) (h : sp_octets_of K vs H Q E) : t_octets_of K { nx := fun _ H' => Q .non H', rt := Q } (start n_octets_of vs) H := by
  obtain ⟨n, m, rfl, hm, h0, h1, q⟩ := h
  unfold t_octets_of
  walk_at "st"
  intro p hp
  walk_at "st"
  refine loop_while (fun k σ H' => ∃ (i : Nat) (x : Option V), i + k = m ∧ σ = [some (.int (n / 256 ^ i)), some (.int (m : Int)), some (.ref p), x] ∧ Same H H' ∧ H' p = some (.lst ((octs n i).map V.int))) m ⟨0, none, by omega, ?_, same_new hp, ?_⟩ ?_
  · rw [show n / 256 ^ 0 = n by simp]; rfl
  · rw [upd_same]; rfl
  · rintro k σ H' ⟨i, x, ek, rfl, s, e⟩
    walk_at "st"
    refine k_lenL (.of e) ?_
    walk_at "st"
    rw [List.length_map, octs_len]
    walk_at "if" <;> intro c
    · have hi : i < m := by omega
      walk_at "st"
      have g0 : 0 ≤ n / 256 ^ i := Int.ediv_nonneg h0 (Int.pow_nonneg (by decide))
      have g1 : n / 256 ^ i < 2 ^ 4000 := Int.lt_of_le_of_lt (Int.ediv_le_self _ h0) h1
      refine k_divmod (divp256 g0 g1) fun t ht => ?_
      walk_at "st"
      refine m_gTup (.of upd_same) rfl ?_
      walk_at "st"
      have npt : p ≠ t := ne_of_none e ht
      have ep : (upd H' t (.tup [.int (n / 256 ^ i / 256), .int (n / 256 ^ i % 256)])) p = some (.lst ((octs n i).map V.int)) := by rw [upd_ne npt]; exact e
      refine k_tyL (.of ep) ?_
      walk_at "st"
      refine k_app ep ?_ ?_
      · rw [List.length_map, octs_len]; omega
      · walk_at "st"
        refine ⟨k - 1, by omega, i + 1, some (.int (n / 256 ^ i % 256)), by omega, ?_, Same.mut (s.trans (same_new ht)) hp, ?_⟩
        · rw [show n / 256 ^ (i + 1) = n / 256 ^ i / 256 by rw [Int.pow_succ, Int.ediv_ediv_of_nonneg (Int.pow_nonneg (by decide))]]; rfl
        · rw [upd_same, octs_snoc, List.map_append]; rfl
    · have hi : i = m := by omega
      subst hi
      walk_at "st"
      exact q p H' hp s e

/-- numbers as octets, so many each -/
def fldO (ns : List Int) (w : Nat) : List Int := (ns.map fun n => octs n w).flatten
theorem fldO_snoc (ns : List Int) (n : Int) (w : Nat) : fldO (ns ++ [n]) w = fldO ns w ++ octs n w := by
  unfold fldO; rw [List.map_append, List.flatten_append]; simp
theorem fldO_len (ns : List Int) (w : Nat) : (fldO ns w).length = ns.length * w := by
  induction ns with
  | nil => simp [fldO]
  | cons n ns ih =>
    show (octs n w ++ fldO ns w).length = (ns.length + 1) * w
    rw [List.length_append, ih, octs_len, Nat.succ_mul]; omega
/-- fields_of(numbers, wide) -/
def sp_fields_of (K : PySem.W.Frag) : Sp := fun vs H Q _ => ∃ (a : Addr) (ns : List Int) (w : Nat), vs = [.ref a, .int (w : Int)] ∧ (SqL K H a (ns.map V.int) ∨ SqT K H a (ns.map V.int)) ∧ w ≤ 30 ∧ ns.length ≤ 5000 ∧ (∀ n ∈ ns, 0 ≤ n ∧ n < 2 ^ 4000) ∧ ∀ p H', H p = none → Same H H' → H' p = some (.lst ((fldO ns w).map V.int)) → Q (.ref p) H'
theorem len_fields_of (K : PySem.W.Frag) : ∀ vs H Q E, sp_fields_of K vs H Q E → vs.length = 2 := by
  rintro vs H Q E ⟨x, y, z, rfl, _⟩; rfl
def t_fields_of (K : PySem.W.Frag) : TS :=
  (tSeq (tAsg (tLst tNil) (gName 2))
  (tSeq (tFor (iSeq K (tVar 0)) (gName 3)
  (tDrop (tBM K "list" rExtend (tVar 2) (tCons (tCall (sp_octets_of K) [] E0 (tCons (tVar 3) (tCons (tVar 1) tNil))) tNil))))
  (tRet (tVar 2))))
abbrev n_fields_of : List Str := ["numbers", "wide", "octets", "number"]

theorem rd_fields_of (K : PySem.W.Frag) (vs : List V) (H : Hp) (Q : VK) (E : XK) (h : sp_fields_of K vs H Q E) : t_fields_of K { nx := fun _ H' => Q .non H', rt := Q } (start n_fields_of vs) H := by
  obtain ⟨a, ns, w, rfl, hS, hw, hl, hr, q⟩ := h
  unfold t_fields_of
  walk_at "st"
  intro p hp
  have s0 := same_new (o := .lst []) hp
  have e0 := upd_same (H := H) (a := p) (o := .lst [])
  generalize upd H p (.lst []) = H1 at s0 e0 ⊢
  have step : ∀ (i : Nat) (x : V) (σ' : L2.St) (H2 : Hp), (ns.map V.int)[i]? = some x → (∃ y, Same H H2 ∧ H2 p = some (.lst ((fldO (ns.take i) w).map V.int)) ∧ σ' = [some (.ref a), some (.int (w : Int)), some (.ref p), y]) → ∃ n, x = V.int n ∧ ns[i]? = some n ∧ i < ns.length ∧ 0 ≤ n ∧ n < 2 ^ 4000 := fun i x σ' H2 hx _ => by
    obtain ⟨n, hn, rfl⟩ := of_mapint hx
    exact ⟨n, rfl, hn, (List.getElem?_eq_some_iff.mp hn).1, hr n (List.mem_of_getElem? hn)⟩
  walk_at "st"
  rcases hS with hS | hS
  · refine m_seqL ?_
    walk_at "st"
    refine m_iLe (s0.seq hS) ?_
    refine loop_list (xs := ns.map V.int) (fun i σ' H2 => ∃ y, Same H H2 ∧ H2 p = some (.lst ((fldO (ns.take i) w).map V.int)) ∧ σ' = [some (.ref a), some (.int (w : Int)), some (.ref p), y]) ⟨none, s0, e0, rfl⟩ (fun i σ' H2 _ ⟨_, s, _⟩ => s.seq hS) (fun i x σ' H2 hx hP => ?_) (fun σ' H2 ⟨_, s, e, es⟩ => ?_)
    · obtain ⟨n, rfl, hn, hi, n0, n1⟩ := step i x σ' H2 hx hP
      obtain ⟨y, s, e, rfl⟩ := hP
      walk_at "st"
      refine k_tyL (.of e) ?_
      walk_at "st"
      refine ⟨n, w, rfl, by omega, n0, n1, fun p3 H3 hp3 s3 e3 => ?_⟩
      walk_at "st"
      refine k_extend (s3.get e) e3 (by rw [List.length_map, List.length_map, fldO_len, octs_len, List.length_take]; have := Nat.mul_le_mul (show min i ns.length ≤ 5000 by omega) hw; omega) ?_
      walk_at "st"
      exact ⟨_, Same.mut (s.trans s3) hp ⟨_, s3.get e⟩, by rw [upd_same, List.take_add_one, hn]; show _ = some (HO.lst ((fldO (ns.take i ++ [n]) w).map V.int)); rw [fldO_snoc, List.map_append], rfl⟩
    · subst es
      walk_at "st"
      rw [List.length_map, List.take_length] at e
      exact q p H2 hp s e
  · refine m_seqT ?_
    walk_at "st"
    refine m_iTe (s0.seqT hS) ?_
    refine loop_tup (xs := ns.map V.int) (fun i σ' H2 => ∃ y, Same H H2 ∧ H2 p = some (.lst ((fldO (ns.take i) w).map V.int)) ∧ σ' = [some (.ref a), some (.int (w : Int)), some (.ref p), y]) ⟨none, s0, e0, rfl⟩ (fun i σ' H2 _ ⟨_, s, _⟩ => s.seqT hS) (fun i x σ' H2 hx hP => ?_) (fun σ' H2 ⟨_, s, e, es⟩ => ?_)
    · obtain ⟨n, rfl, hn, hi, n0, n1⟩ := step i x σ' H2 hx hP
      obtain ⟨y, s, e, rfl⟩ := hP
      walk_at "st"
      refine k_tyL (.of e) ?_
      walk_at "st"
      refine ⟨n, w, rfl, by omega, n0, n1, fun p3 H3 hp3 s3 e3 => ?_⟩
      walk_at "st"
      refine k_extend (s3.get e) e3 (by rw [List.length_map, List.length_map, fldO_len, octs_len, List.length_take]; have := Nat.mul_le_mul (show min i ns.length ≤ 5000 by omega) hw; omega) ?_
      walk_at "st"
      exact ⟨_, Same.mut (s.trans s3) hp ⟨_, s3.get e⟩, by rw [upd_same, List.take_add_one, hn]; show _ = some (HO.lst ((fldO (ns.take i ++ [n]) w).map V.int)); rw [fldO_snoc, List.map_append], rfl⟩
    · subst es
      walk_at "st"
      rw [List.length_map, List.take_length] at e
      exact q p H2 hp s e

theorem big_of {n m : Int} (h0 : 0 ≤ n) (h : n < 4294967296) : 0 ≤ n ∧ n < 2 ^ 4000 := ⟨h0, Int.lt_of_lt_of_le h (by decide +kernel)⟩
theorem blks_big {bs : List Int} (h : Bits bs) : ∀ n ∈ blks bs, 0 ≤ n ∧ n < 2 ^ 4000 := fun n hn => by
  obtain ⟨j, hj⟩ := List.mem_iff_getElem?.mp hn
  obtain ⟨h1, h2⟩ := blks_range h hj
  exact big_of (m := 0) h1 h2
theorem ahead_big {bs : List Int} (h : Bits bs) (hl : bs.length ≤ 4096) : ∀ n ∈ aheadT bs, 0 ≤ n ∧ n < 2 ^ 4000 := fun n hn => by
  obtain ⟨j, hj⟩ := List.mem_iff_getElem?.mp hn
  have hlt := (List.getElem?_eq_some_iff.mp hj).1
  rw [aheadT_len] at hlt
  rw [aheadT_get bs (by omega)] at hj
  have e : sumTo bs (32 * j) = n := Option.some.inj hj
  obtain ⟨h1, h2⟩ := sumTo_range h (32 * j)
  exact big_of (m := 0) (by omega) (by omega)

/-- a row as octets -/
def rowO (bs : List Int) : List Int := 1 :: (fldO [(bs.length : Int)] 2 ++ fldO (blks bs) 4 ++ fldO (aheadT bs) 2)
/-- row_laid(tables, blocks), of a row -/
def sp_row_laid (K : PySem.W.Frag) : Sp := fun vs H Q _ => ∃ (t pa pb : Addr) (bs : List Int), vs = [.ref t, .ref pb] ∧ H t = some (.tup [.int (bs.length : Int), .ref pa]) ∧ H pa = some (.tup ((aheadT bs).map V.int)) ∧ H pb = some (.lst ((blks bs).map V.int)) ∧ Bits bs ∧ bs.length ≤ 4096 ∧ ∀ p H', H p = none → Same H H' → H' p = some (.lst ((fldO [(bs.length : Int)] 2 ++ fldO (blks bs) 4 ++ fldO (aheadT bs) 2).map V.int)) → Q (.ref p) H'
theorem len_row_laid (K : PySem.W.Frag) : ∀ vs H Q E, sp_row_laid K vs H Q E → vs.length = 2 := by
  rintro vs H Q E ⟨x, y, z, _, rfl, _⟩; rfl
def t_row_laid (K : PySem.W.Frag) : TS :=
  (tRet (tOp rCat (tOp rCat (tCall (sp_fields_of K) [] E0 (tCons (tSl (rSlT K) (tVar 0) tNoPart (tPart (tC (.int 1)))) (tCons (tC (.int 2)) tNil))) (tCall (sp_fields_of K) [] E0 (tCons (tVar 1) (tCons (tC (.int 4)) tNil)))) (tCall (sp_fields_of K) [] E0 (tCons (tOp (rIxT K) (tVar 0) (tC (.int 1))) (tCons (tC (.int 2)) tNil)))))
abbrev n_row_laid : List Str := ["tables", "blocks"]

theorem rd_row_laid (K : PySem.W.Frag) (vs : List V) (H : Hp) (Q : VK) (E : XK) (h : sp_row_laid K vs H Q E) : t_row_laid K { nx := fun _ H' => Q .non H', rt := Q } (start n_row_laid vs) H := by
  obtain ⟨t, pa, pb, bs, rfl, ht, ha, hb, hB, hl, q⟩ := h
  unfold t_row_laid
  walk_at "st"
  refine ⟨t, _, rfl, .of ht, (show ¬ (HT.sIx 2 0 none = 0 ∧ HT.sIx 2 2 (some 1) = 2) by decide), fun t2 ht2 => ?_⟩
  rw [show cutV [V.int (bs.length : Int), V.ref pa] none (some 1) = [V.int (bs.length : Int)] from rfl]
  have s1 := same_new (o := .tup [.int (bs.length : Int)]) ht2
  have e1 := upd_same (H := H) (a := t2) (o := .tup [.int (bs.length : Int)])
  generalize upd H t2 (.tup [.int (bs.length : Int)]) = H1 at s1 e1 ⊢
  walk_at "st"
  refine ⟨t2, [(bs.length : Int)], 2, rfl, .inr (.of e1), by decide, by simp, fun n hn => by rw [List.mem_singleton.mp hn]; exact big_of (m := 0) (by omega) (by omega), fun p2 H2 hp2 s2 e2 => ?_⟩
  walk_at "st"
  refine ⟨pb, blks bs, 4, rfl, .inl (.of ((s1.trans s2).get hb)), by decide, by rw [blks_len]; omega, blks_big hB, fun p3 H3 hp3 s3 e3 => ?_⟩
  have hl1 := fldO_len [(bs.length : Int)] 2
  have hl2 := fldO_len (blks bs) 4
  have hl3 := fldO_len (aheadT bs) 2
  rw [blks_len] at hl2
  rw [aheadT_len] at hl3
  rw [List.length_singleton] at hl1
  refine k_cat (s3.get e2) e3 (by rw [List.length_map, List.length_map]; omega) fun p4 hp4 => ?_
  have s4 := same_new (o := .lst ((fldO [(bs.length : Int)] 2).map V.int ++ (fldO (blks bs) 4).map V.int)) hp4
  have e4 := upd_same (H := H3) (a := p4) (o := .lst ((fldO [(bs.length : Int)] 2).map V.int ++ (fldO (blks bs) 4).map V.int))
  generalize upd H3 p4 (.lst ((fldO [(bs.length : Int)] 2).map V.int ++ (fldO (blks bs) 4).map V.int)) = H4 at s4 e4 ⊢
  have s14 := ((s1.trans s2).trans s3).trans s4
  walk_at "st"
  refine k_ixT (.of (s14.get ht)) (at_int (by decide) rfl) ?_
  walk_at "st"
  refine ⟨pa, aheadT bs, 2, rfl, .inr (.of (s14.get ha)), by decide, by rw [aheadT_len]; omega, ahead_big hB hl, fun p5 H5 hp5 s5 e5 => ?_⟩
  refine k_cat (s5.get e4) e5 (by rw [List.length_append, List.length_map, List.length_map, List.length_map]; omega) fun p6 hp6 => ?_
  exact q p6 _ ((s14.trans s5).gone _ hp6) ((s14.trans s5).trans (same_new hp6)) (by rw [upd_same, List.map_append, List.map_append])
/-- row_octets(bits) -/
def sp_row_octets (K : PySem.W.Frag) : Sp := fun vs H Q E => ∃ (a : Addr) (bs : List Int), vs = [.ref a] ∧ SqL K H a (bs.map V.int) ∧ bs.length ≤ 100000 ∧
  (bs.length > 4096 → E (.ref (He.ga K "TooMany")) none H) ∧
  (bs.length ≤ 4096 → ¬ Bits bs → ∀ H', Same H H' → E (.ref (He.ga K "NoBit")) none H') ∧
  (bs.length ≤ 4096 → Bits bs → ∀ p H', H p = none → Same H H' → H' p = some (.lst ((rowO bs).map V.int)) → Q (.ref p) H')
theorem len_row_octets (K : PySem.W.Frag) : ∀ vs H Q E, sp_row_octets K vs H Q E → vs.length = 1 := by
  rintro vs H Q E ⟨x, y, rfl, _⟩; rfl
def t_row_octets (K : PySem.W.Frag) (E : XK) : TS :=
  (tSeq (tAsg (tCall (sp_kept_row K) [] E (tCons (tVar 0) tNil)) (gTup K 2 (gCons (gName 1) (gCons (gName 2) gNil))))
  (tRet (tOp rCat (tLst (tCons (tC (.int 1)) tNil)) (tCall (sp_row_laid K) [] E0 (tCons (tVar 1) (tCons (tVar 2) tNil))))))
abbrev n_row_octets : List Str := ["bits", "tables", "blocks"]

theorem rd_row_octets (K : PySem.W.Frag) (vs : List V) (H : Hp) (Q : VK) (E : XK) (h : sp_row_octets K vs H Q E) : t_row_octets K E { nx := fun _ H' => Q .non H', rt := Q } (start n_row_octets vs) H := by
  obtain ⟨a, bs, rfl, hS, hl, q1, q2, q3⟩ := h
  unfold t_row_octets
  walk_at "st"
  refine ⟨a, bs, rfl, hS, hl, q1, q2, fun hm hB p t pa pb H1 hp ht hpa hpb s1 ep et ea eb => ?_⟩
  walk_at "st"
  refine m_gTup (.of ep) rfl ?_
  walk_at "st"
  intro p1 hp1
  have s2 := same_new (o := .lst [.int 1]) hp1
  have e2 := upd_same (H := H1) (a := p1) (o := .lst [.int 1])
  generalize upd H1 p1 (.lst [.int 1]) = H2 at s2 e2 ⊢
  walk_at "st"
  refine ⟨t, pa, pb, bs, rfl, s2.get et, s2.get ea, s2.get eb, hB, hm, fun p3 H3 hp3 s3 e3 => ?_⟩
  have hl1 := fldO_len [(bs.length : Int)] 2
  have hl2 := fldO_len (blks bs) 4
  have hl3 := fldO_len (aheadT bs) 2
  rw [blks_len] at hl2
  rw [aheadT_len] at hl3
  rw [List.length_singleton] at hl1
  refine k_cat (s3.get e2) e3 (by rw [List.length_map, List.length_append, List.length_append]; simp only [List.length_cons, List.length_nil]; omega) fun p4 hp4 => ?_
  have s13 := (s1.trans s2).trans s3
  exact q3 hm hB p4 _ (s13.gone _ hp4) (s13.trans (same_new hp4)) (by rw [upd_same]; rfl)

/-- the first m bits of blocks -/
def unp (bl : List Int) (m : Nat) : List Int := (List.range m).map fun i => bit (bl.getD (i / 32) 0) (i % 32)
theorem unp_len (bl : List Int) (m : Nat) : (unp bl m).length = m := by unfold unp; simp
theorem unp_get (bl : List Int) {m i : Nat} (h : i < m) : (unp bl m)[i]? = some (bit (bl.getD (i / 32) 0) (i % 32)) := by unfold unp; simp [h]
theorem unp_bits (bl : List Int) (m : Nat) : Bits (unp bl m) := by
  intro x hx
  obtain ⟨i, _, rfl⟩ := List.mem_map.mp hx
  exact bit_cases _ _
/-- unpacked(blocks, many) -/
def sp_unpacked (K : PySem.W.Frag) : Sp := fun vs H Q E => ∃ (a : Addr) (bl : List Int) (m : Int), vs = [.ref a, .int m] ∧ SqL K H a (bl.map V.int) ∧ bl.length ≤ 3000 ∧
  ((m < 0 ∨ m > 32 * bl.length) → E (.ref (He.ga K "NoPlace")) none H) ∧
  (0 ≤ m → m ≤ 32 * bl.length → ∀ p H', H p = none → Same H H' → H' p = some (.lst ((unp bl m.toNat).map V.int)) → Q (.ref p) H')
theorem len_unpacked (K : PySem.W.Frag) : ∀ vs H Q E, sp_unpacked K vs H Q E → vs.length = 2 := by
  rintro vs H Q E ⟨x, y, z, rfl, _⟩; rfl
def t_unpacked (K : PySem.W.Frag) (E : XK) : TS :=
  (tSeq (tIfS (tOr (tTest (tOp rLt (tVar 1) (tC (.int 0)))) (tTest (tOp rGtI (tVar 1) (tOp rTimes (tC (.int 32)) (tCB (rLen K) (tCons (tVar 0) tNil))))))
  (tRz (fun cls d _ H => E cls d H) (He.ga K "NoPlace"))
  tNext)
  (tRet (tLc (iRng1 (tCons (tVar 1) tNil)) (gName 2) tYes (tOp rAnd1 (tOp rShr (tOp (rIxL K) (tVar 0) (tOp rDiv (tVar 2) (tC (.int 32)))) (tOp rMod (tVar 2) (tC (.int 32)))) (tC (.int 1))) [2])))
abbrev n_unpacked : List Str := ["blocks", "many", "at"]

theorem rd_unpacked (K : PySem.W.Frag) (vs : List V) (H : Hp) (Q : VK) (E : XK) (h : sp_unpacked K vs H Q E) : t_unpacked K E { nx := fun _ H' => Q .non H', rt := Q } (start n_unpacked vs) H := by
  obtain ⟨a, bl, m, rfl, hS, hl, q1, q2⟩ := h
  unfold t_unpacked
  walk_at "st"
  walk_at "if" <;> intro c1
  · walk_at "st"
    walk_at "st"
    exact q1 (.inl c1)
  · walk_at "st"
    refine k_lenL hS ?_
    walk_at "st"
    rw [List.length_map]
    walk_at "if" <;> intro c2
    · walk_at "st"
      exact q1 (.inr c2)
    · walk_at "st"
      have hm : 0 ≤ m := by omega
      have hm2 : m ≤ 32 * bl.length := by omega
      refine comp_rangeV (n := m.toNat) (f := fun i => .int (bit (bl.getD (i / 32) 0) (i % 32))) (by omega) (fun k H2 Q2 hk s2 qq => ?_) (fun p H' hp s e => ?_)
      · walk_at "st"
        have hlt : k / 32 < bl.length := by omega
        refine k_ixL (s2.seq hS) (at_int (by omega) (i := (k : Int) / 32) (x := .int (bl.getD (k / 32) 0)) ?_) ?_
        · rw [show ((k : Int) / 32).toNat = k / 32 by omega, List.getD_eq_getElem?_getD, List.getElem?_eq_getElem hlt]
          exact mapint (List.getElem?_eq_getElem hlt)
        walk_at "st"
        have e : (k : Int) % 32 = ((k % 32 : Nat) : Int) := by omega
        rw [e]
        exact qq _ (Same.refl _)
      · walk_at "st"
        refine q2 hm hm2 p H' hp s ?_
        rw [e]; unfold unp; rw [List.map_map]; rfl

theorem unp_blks {bs : List Int} (hB : Bits bs) : unp (blks bs) bs.length = bs := by
  apply List.ext_getElem?
  intro i
  rcases Nat.lt_or_ge i bs.length with hi | hi
  · have hj : i / 32 < (bs.length + 31) / 32 := by omega
    rw [unp_get _ hi, List.getD_eq_getElem?_getD, blks_get _ _ hj, List.getElem?_eq_getElem hi]
    have := bit_blks hB (blks_get bs _ hj) (show i % 32 < 32 by omega)
    rw [show 32 * (i / 32) + i % 32 = i by omega, List.getD_eq_getElem?_getD, List.getElem?_eq_getElem hi] at this
    rw [Option.getD_some, this]; rfl
  · rw [List.getElem?_eq_none (by rw [unp_len]; exact hi), List.getElem?_eq_none hi]

theorem fm_some {α β : Type} (f : α → β) : ∀ l : List α, l.filterMap (fun x => some (f x)) = l.map f
  | [] => rfl
  | x :: l => by
    show f x :: l.filterMap (fun x => some (f x)) = f x :: l.map f
    rw [fm_some f l]
theorem cut_two {α : Type} {L : List α} {n : Nat} {x y : α} (h1 : L[n]? = some x) (h2 : L[n + 1]? = some y) : (L.take (n + 2)).drop n = [x, y] := by
  obtain ⟨l1, e1⟩ := List.getElem?_eq_some_iff.mp h1
  obtain ⟨l2, e2⟩ := List.getElem?_eq_some_iff.mp h2
  rw [List.drop_take, show n + 2 - n = 2 by omega, List.drop_eq_getElem_cons l1, List.drop_eq_getElem_cons l2, e1, e2]; rfl

/-- number_of(octets) -/
def sp_number_of (K : PySem.W.Frag) : Sp := fun vs H Q _ => ∃ (a : Addr) (ns : List Int), vs = [.ref a] ∧ SqL K H a (ns.map V.int) ∧ ns.length ≤ 100000 ∧ Octs ns ∧ Q (.int (num ns)) H
theorem len_number_of (K : PySem.W.Frag) : ∀ vs H Q E, sp_number_of K vs H Q E → vs.length = 1 := by
  rintro vs H Q E ⟨x, y, rfl, _⟩; rfl
def t_number_of (K : PySem.W.Frag) : TS :=
  (tSeq (tAsg (tC (.int 0)) (gName 1))
  (tSeq (tFor (iRev K (tCons (tVar 0) tNil)) (gName 2)
  (tAsg (tOp rBitOr (tOp rShlW (tVar 1) (tC (.int 8))) (tVar 2)) (gName 1)))
  (tRet (tVar 1))))
abbrev n_number_of : List Str := ["octets", "number", "octet"]

theorem rd_number_of (K : PySem.W.Frag) (vs : List V) (H : Hp) (Q : VK) (E : XK) (h : sp_number_of K vs H Q E) : t_number_of K { nx := fun _ H' => Q .non H', rt := Q } (start n_number_of vs) H := by
  obtain ⟨a, ns, rfl, hS, hl, ho, q⟩ := h
  unfold t_number_of
  walk_at "st"
  refine m_revE hS ?_
  refine loop_walk walk_rev (fun i σ H' => ∃ y, σ = [some (.ref a), some (.int (num (ns.drop (ns.length - i)))), y] ∧ H' = H) ⟨none, ?_, rfl⟩ (fun i σ H' ⟨_, _, e⟩ => e ▸ hS) ?_ ?_
  · rw [Nat.sub_zero, List.drop_length]; rfl
  · rintro i x σ H' H'' hi ⟨y, rfl, rfl⟩ ⟨rfl, hx⟩
    rw [List.length_map] at hi hx
    obtain ⟨n, hn, rfl⟩ := of_mapint hx
    have hlt : ns.length - 1 - i < ns.length := by omega
    have hdrop : ns.drop (ns.length - (i + 1)) = n :: ns.drop (ns.length - i) := by
      rw [show ns.length - (i + 1) = ns.length - 1 - i by omega, List.drop_eq_getElem_cons hlt, show ns.length - 1 - i + 1 = ns.length - i by omega]
      rw [List.getElem?_eq_getElem hlt] at hn
      rw [Option.some.inj hn]
    have hsub : Octs (ns.drop (ns.length - i)) := fun z hz => ho z (List.mem_of_mem_drop hz)
    obtain ⟨r0, r1⟩ := num_range _ hsub
    have hb : 0 ≤ n ∧ n < 256 := ho n (List.mem_of_getElem? hn)
    have hc : CShl (num (ns.drop (ns.length - i))) 8 := by
      refine shl_ok (j := 8) (n := 8 * (ns.drop (ns.length - i)).length) (natAbs_lt_of r0 ?_) ?_
      · rw [← pow256]; exact r1
      · rw [List.length_drop]; omega
    walk_at "st"
    refine ⟨some (.int n), ?_, rfl⟩
    rw [hdrop]
    have e : Builtin.bitOr (num (ns.drop (ns.length - i)) * 2 ^ (8 : Int).toNat) n = num (n :: ns.drop (ns.length - i)) := by
      rw [show (8 : Int).toNat = 8 from rfl, or_low r0 hb.1 (by omega)]
      show _ = n + 256 * num (ns.drop (ns.length - i))
      omega
    rw [← e]; rfl
  · rintro σ H' ⟨y, rfl, rfl⟩
    rw [List.length_map, Nat.sub_self, List.drop_zero]
    walk_at "st"
    exact q

/-- the numbers that octets write, so many octets each -/
def numsO (os : List Int) (w n : Nat) : List Int := (List.range n).map fun i => num ((os.drop (w * i)).take w)
theorem numsO_len (os : List Int) (w n : Nat) : (numsO os w n).length = n := by unfold numsO; rw [List.length_map, List.length_range]
theorem numsO_succ (os : List Int) (w n : Nat) : numsO os w (n + 1) = num (os.take w) :: numsO (os.drop w) w n := by
  unfold numsO
  rw [List.range_succ_eq_map, List.map_cons, List.map_map]
  congr 1
  refine List.map_congr_left fun i _ => ?_
  show num ((os.drop (w * (i + 1))).take w) = _
  rw [List.drop_drop, Nat.mul_succ, Nat.add_comm]
theorem rgC_w {w n : Nat} (hw : w = 2 ∨ w = 4 ∨ w = 26) (hn : n ≤ 10000) : RgC 0 ((w * n : Nat) : Int) w n := by
  have e : Builtin.Range.rangeSize 0 ((w * n : Nat) : Int) w = (n : Int) := by
    rw [PyProof.Rows.rangeSize_pos (by omega) (by omega)]
    rcases hw with rfl | rfl | rfl <;> omega
  have hp : ((w * n : Nat) : Int) < 1000000 := by rcases hw with rfl | rfl | rfl <;> omega
  refine ⟨by omega, by omega, ?_, e⟩
  unfold Builtin.Range.small
  rw [e]
  have f : ∀ i : Int, 0 ≤ i → i < 1000000 → Builtin.Range.rangeFitsLong i = true := fun i h0 h1 => by
    unfold Builtin.Range.rangeFitsLong
    rw [Bool.and_eq_true]
    exact ⟨decide_eq_true (by omega), decide_eq_true (by omega)⟩
  have hw0 : (0 : Int) < w := by omega
  rw [f 0 (by decide) (by decide), f _ (by omega) hp, f w (by omega) (by omega), f _ (by omega) (by omega), if_pos hw0, f _ (by omega) (by rcases hw with rfl | rfl | rfl <;> omega)]
  simp
/-- numbers_of(octets, wide) -/
def sp_numbers_of (K : PySem.W.Frag) : Sp := fun vs H Q _ => ∃ (a : Addr) (os : List Int) (w n : Nat), vs = [.ref a, .int (w : Int)] ∧ SqL K H a (os.map V.int) ∧ (w = 2 ∨ w = 4 ∨ w = 26) ∧ os.length = w * n ∧ n ≤ 5000 ∧ Octs os ∧ ∀ p H', H p = none → Same H H' → H' p = some (.lst ((numsO os w n).map V.int)) → Q (.ref p) H'
theorem len_numbers_of (K : PySem.W.Frag) : ∀ vs H Q E, sp_numbers_of K vs H Q E → vs.length = 2 := by
  rintro vs H Q E ⟨x, y, z, _, rfl, _⟩; rfl
def t_numbers_of (K : PySem.W.Frag) : TS :=
  (tRet (tLc (iRng3 (tCons (tC (.int 0)) (tCons (tCB (rLen K) (tCons (tVar 0) tNil)) (tCons (tVar 1) tNil)))) (gName 2) tYes (tCall (sp_number_of K) [] E0 (tCons (tSl (rSlL K) (tVar 0) (tPart (tVar 2)) (tPart (tOp rPlus (tVar 2) (tVar 1)))) tNil)) [2]))
abbrev n_numbers_of : List Str := ["octets", "wide", "at"]

theorem rd_numbers_of (K : PySem.W.Frag) (vs : List V) (H : Hp) (Q : VK) (E : XK) (h : sp_numbers_of K vs H Q E) : t_numbers_of K { nx := fun _ H' => Q .non H', rt := Q } (start n_numbers_of vs) H := by
  obtain ⟨a, os, w, n, rfl, hS, hw, hl, hn, ho, q⟩ := h
  unfold t_numbers_of
  walk_at "st"
  refine k_lenL hS ?_
  walk_at "st"
  rw [List.length_map, hl]
  refine m_rng3e (rgC_w hw (by omega)) ?_
  refine comp_walkV (f := fun k => some (V.int (num ((os.drop (w * k)).take w)))) walk_rangeC (by omega) (fun _ _ => trivial) (fun k x H2 H3 Qb hk s2 hy qb => ?_) (fun pl H2 hpl s2 e2 => ?_)
  · obtain ⟨rfl, rfl⟩ := hy
    refine k_yes ?_
    refine qb true _ (Same.refl _) (fun _ Q2 H4 s4 => ⟨_, rfl, fun q2 => ?_⟩) (fun z => nomatch z)
    dsimp only
    rw [show (0 : Int) + (k : Int) * (w : Int) = ((w * k : Nat) : Int) by rw [Int.zero_add, Int.mul_comm, Int.natCast_mul]]
    walk_at "st"
    refine k_slL ((s2.trans s4).seq hS) fun p1 hp1 => ?_
    rw [show ((w * k : Nat) : Int) + (w : Int) = ((w * k + w : Nat) : Int) from rfl, cutPart, ← List.map_take, ← List.map_drop, show (os.take (w * k + w)).drop (w * k) = (os.drop (w * k)).take w by rw [List.drop_take]; congr 1; omega]
    have hsub : Octs ((os.drop (w * k)).take w) := fun z hz => ho z (List.mem_of_mem_drop (List.mem_of_mem_take hz))
    have hll : ((os.drop (w * k)).take w).length ≤ 26 := by rw [List.length_take]; omega
    refine ⟨p1, _, rfl, .of upd_same, by omega, hsub, ?_⟩
    exact q2 _ (same_new hp1)
  rw [fm_some] at e2
  refine q pl H2 hpl s2 ?_
  rw [e2]; unfold numsO; rw [List.map_map]; rfl

/-- blocks_for(many) -/
def sp_blocks_for (_ : PySem.W.Frag) : Sp := fun vs H Q _ => ∃ m : Int, vs = [.int m] ∧ Q (.int ((m + 31) / 32)) H
theorem len_blocks_for (K : PySem.W.Frag) : ∀ vs H Q E, sp_blocks_for K vs H Q E → vs.length = 1 := by
  rintro vs H Q E ⟨x, rfl, _⟩; rfl
def t_blocks_for (K : PySem.W.Frag) : TS :=
  (tRet (tOp rDiv (tOp rMinus (tOp rPlus (tVar 0) (tC (.int 32))) (tC (.int 1))) (tC (.int 32))))
abbrev n_blocks_for : List Str := ["many"]

theorem rd_blocks_for (K : PySem.W.Frag) (vs : List V) (H : Hp) (Q : VK) (E : XK) (h : sp_blocks_for K vs H Q E) : t_blocks_for K { nx := fun _ H' => Q .non H', rt := Q } (start n_blocks_for vs) H := by
  obtain ⟨m, rfl, q⟩ := h
  unfold t_blocks_for
  walk_at "st"
  rw [show m + 32 - 1 = m + 31 by omega]
  walk_at "st"
  exact q

/-- row_long(many) -/
def sp_row_long (_ : PySem.W.Frag) : Sp := fun vs H Q _ => ∃ m : Int, vs = [.int m] ∧ Q (.int (6 * ((m + 31) / 32) + 2)) H
theorem len_row_long (K : PySem.W.Frag) : ∀ vs H Q E, sp_row_long K vs H Q E → vs.length = 1 := by
  rintro vs H Q E ⟨x, rfl, _⟩; rfl
def t_row_long (K : PySem.W.Frag) : TS :=
  (tRet (tOp rPlus (tOp rTimes (tC (.int 6)) (tCall (sp_blocks_for K) [] E0 (tCons (tVar 0) tNil))) (tC (.int 2))))
abbrev n_row_long : List Str := ["many"]

theorem rd_row_long (K : PySem.W.Frag) (vs : List V) (H : Hp) (Q : VK) (E : XK) (h : sp_row_long K vs H Q E) : t_row_long K { nx := fun _ H' => Q .non H', rt := Q } (start n_row_long vs) H := by
  obtain ⟨m, rfl, q⟩ := h
  unfold t_row_long
  walk_at "st"
  refine ⟨m, rfl, ?_⟩
  walk_at "st"
  exact q

/-- same_again(octets, again) -/
def sp_same_again (K : PySem.W.Frag) : Sp := fun vs H Q E => ∃ (a b : Addr) (os rs : List Int), vs = [.ref a, .ref b] ∧ SqL K H a (os.map V.int) ∧ SqL K H b (rs.map V.int) ∧
  (os ≠ rs → E (.ref (He.ga K "NoOctets")) none H) ∧ (os = rs → Q .non H)
theorem len_same_again (K : PySem.W.Frag) : ∀ vs H Q E, sp_same_again K vs H Q E → vs.length = 2 := by
  rintro vs H Q E ⟨x, y, z, _, rfl, _⟩; rfl
def t_same_again (K : PySem.W.Frag) (E : XK) : TS :=
  (tIfS (tTest (tOp (rNeD K) (tVar 0) (tVar 1)))
  (tRz (fun cls d _ H => E cls d H) (He.ga K "NoOctets"))
  tNext)
abbrev n_same_again : List Str := ["octets", "again"]

theorem rd_same_again (K : PySem.W.Frag) (vs : List V) (H : Hp) (Q : VK) (E : XK) (h : sp_same_again K vs H Q E) : t_same_again K E { nx := fun _ H' => Q .non H', rt := Q } (start n_same_again vs) H := by
  obtain ⟨a, b, os, rs, rfl, hS, hR, q1, q2⟩ := h
  unfold t_same_again
  walk_at "st"
  refine k_neL hS hR ?_
  by_cases c : os = rs
  · rw [decide_eq_true c]
    walk_at "st"
    exact q2 c
  · rw [decide_eq_false c]
    walk_at "st"
    exact q1 c

theorem fm_con {α β : Type} {f : α → Option β} {g : α → β} : ∀ {l : List α}, (∀ i ∈ l, f i = some (g i)) → l.filterMap f = l.map g
  | [], _ => rfl
  | x :: l, h => by
    rw [List.filterMap_cons_some (h x List.mem_cons_self), List.map_cons, fm_con fun i hi => h i (List.mem_cons_of_mem _ hi)]
theorem fm_opt {α : Type} (os : List Int) (g : Int → α) : (List.range os.length).filterMap (fun i => os[i]?.map g) = os.map g := by
  rw [fm_con (g := fun i => g (os.getD i 0)) fun i hi => by
    rw [List.getD_eq_getElem?_getD, List.getElem?_eq_getElem (List.mem_range.mp hi)]; rfl]
  refine List.ext_getElem? fun i => ?_
  rcases Nat.lt_or_ge i os.length with hi | hi
  · rw [List.getElem?_map, List.getElem?_range hi, List.getElem?_map, List.getElem?_eq_getElem hi, Option.map_some, Option.map_some, List.getD_eq_getElem?_getD, List.getElem?_eq_getElem hi]; rfl
  · rw [List.getElem?_eq_none (by rw [List.length_map, List.length_range]; exact hi), List.getElem?_eq_none (by rw [List.length_map]; exact hi)]
/-- head_of(octets, kind, wide) -/
def sp_head_of (K : PySem.W.Frag) : Sp := fun vs H Q E => ∃ (a : Addr) (os : List Int) (k : Int) (w : Nat), vs = [.ref a, .int k, .int (w : Int)] ∧ SqL K H a (os.map V.int) ∧ 3 ≤ w ∧ w ≤ 100 ∧ os.length ≤ 100000 ∧
  (∀ H', Same H H' → (os.length < w ∨ ¬ Octs os ∨ os.getD 0 0 ≠ k ∨ 4096 < num ((os.take 3).drop 1)) → E (.ref (He.ga K "NoOctets")) none H') ∧
  (w ≤ os.length → Octs os → os.getD 0 0 = k → num ((os.take 3).drop 1) ≤ 4096 → ∀ p H', H p = none → Same H H' → H' p = some (.tup [.int (num ((os.take 3).drop 1)), .int (num ((os.take w).drop 3))]) → Q (.ref p) H')
theorem len_head_of (K : PySem.W.Frag) : ∀ vs H Q E, sp_head_of K vs H Q E → vs.length = 3 := by
  rintro vs H Q E ⟨x, y, z, _, rfl, _⟩; rfl
def t_head_of (K : PySem.W.Frag) (E : XK) : TS :=
  (tSeq (tIfS (tOr (tTest (tOp rLt (tCB (rLen K) (tCons (tVar 0) tNil)) (tVar 2))) (tOr (tNot (tB (tCB (rAll K) (tCons (tLc (iList K (tVar 0)) (gName 3) tYes (tChain rLe rLt (tC (.int 0)) (tVar 3) (tC (.int 256))) [3]) tNil)))) (tTest (tOp rNe (tOp (rIxL K) (tVar 0) (tC (.int 0))) (tVar 1)))))
  (tRz (fun cls d _ H => E cls d H) (He.ga K "NoOctets"))
  tNext)
  (tSeq (tAsg (tCall (sp_number_of K) [] E0 (tCons (tSl (rSlL K) (tVar 0) (tPart (tC (.int 1))) (tPart (tC (.int 3)))) tNil)) (gName 4))
  (tSeq (tIfS (tTest (tOp rGtI (tVar 4) (tC (.int 4096))))
  (tRz (fun cls d _ H => E cls d H) (He.ga K "NoOctets"))
  tNext)
  (tRet (tTup (tCons (tVar 4) (tCons (tCall (sp_number_of K) [] E0 (tCons (tSl (rSlL K) (tVar 0) (tPart (tC (.int 3))) (tPart (tVar 2))) tNil)) tNil)))))))
abbrev n_head_of : List Str := ["octets", "kind", "wide", "octet", "many"]

theorem rd_head_of (K : PySem.W.Frag) (vs : List V) (H : Hp) (Q : VK) (E : XK) (h : sp_head_of K vs H Q E) : t_head_of K E { nx := fun _ H' => Q .non H', rt := Q } (start n_head_of vs) H := by
  obtain ⟨a, os, k, w, rfl, hS, hw, hw2, hl, q1, q2⟩ := h
  unfold t_head_of
  walk_at "st"
  refine k_lenL hS ?_
  walk_at "st"
  rw [List.length_map]
  walk_at "if" <;> intro c1
  · walk_at "st"
    exact q1 H (Same.refl _) (.inl (by omega))
  walk_at "st"
  refine m_iLe hS ?_
  refine comp_walkV (f := fun i => os[i]?.map fun o => V.bl (decide (0 ≤ o ∧ o < 256))) (walk_list (K := K) (xs := os.map V.int)) (by rw [List.length_map]; omega) (fun H' s' => s'.seq hS) (fun i v Hb Hc Qb hk sk hy qb => ?_) (fun pm Hb hpm sb eb => ?_)
  · obtain ⟨rfl, ev⟩ := hy
    obtain ⟨o, ho, rfl⟩ := of_mapint ev
    refine k_yes ?_
    refine qb true _ (Same.refl _) (fun _ Q2 H4 s4 => ⟨_, by rw [ho]; rfl, fun q2 => ?_⟩) (fun z => nomatch z)
    walk_at "st"
    by_cases z0 : 0 ≤ o
    · rw [if_pos (decide_eq_true z0)]
      walk_at "st"
      by_cases z1 : o < 256
      · rw [decide_eq_true z1]
        have := q2 _ (Same.refl _)
        dsimp only at this
        rw [decide_eq_true (show 0 ≤ o ∧ o < 256 from ⟨z0, z1⟩)] at this
        exact this
      · rw [decide_eq_false z1]
        have := q2 _ (Same.refl _)
        dsimp only at this
        rw [decide_eq_false (show ¬ (0 ≤ o ∧ o < 256) from fun z => z1 z.2)] at this
        exact this
    · rw [if_neg (by simpa using z0)]
      have := q2 _ (Same.refl _)
      dsimp only at this
      rw [decide_eq_false (show ¬ (0 ≤ o ∧ o < 256) from fun z => z0 z.1)] at this
      exact this
  rw [List.length_map, fm_opt] at eb
  have eb : Hb pm = some (.lst ((os.map fun o => decide (0 ≤ o ∧ o < 256)).map V.bl)) := by rw [eb, List.map_map]; rfl
  have hall : (os.map fun o => decide (0 ≤ o ∧ o < 256)).all id = true ↔ Octs os := by
    rw [List.all_map, List.all_eq_true]
    exact ⟨fun h x hx => of_decide_eq_true (h x hx), fun h x hx => decide_eq_true (h x hx)⟩
  refine ⟨pm, _, rfl, .of eb, ?_⟩
  generalize (os.map fun o => decide (0 ≤ o ∧ o < 256)).all id = bb at hall ⊢
  cases bb with
  | false =>
    walk_at "st"
    exact q1 Hb sb (.inr (.inl fun z => by have := hall.mpr z; cases this))
  | true =>
    have ho : Octs os := hall.mp rfl
    walk_at "st"
    have h0 : 0 < os.length := by omega
    refine k_ixL (sb.seq hS) (at_int (i := 0) (by decide) (mapint (List.getElem?_eq_getElem h0))) ?_
    walk_at "st"
    have e0 : os.getD 0 0 = os[0] := by rw [List.getD_eq_getElem?_getD, List.getElem?_eq_getElem h0]; rfl
    walk_at "if" <;> intro c2
    · walk_at "st"
      exact q1 Hb sb (.inr (.inr (.inl (by rw [e0]; exact c2))))
    walk_at "st"
    refine k_slL (sb.seq hS) fun l1 hl1 => ?_
    rw [show (1 : Int) = ((1 : Nat) : Int) from rfl, show (3 : Int) = ((3 : Nat) : Int) from rfl, cutPart, ← List.map_take, ← List.map_drop]
    have o1 : Octs ((os.take 3).drop 1) := fun z hz => ho z (List.mem_of_mem_take (List.mem_of_mem_drop hz))
    have o2 : Octs ((os.take w).drop 3) := fun z hz => ho z (List.mem_of_mem_take (List.mem_of_mem_drop hz))
    have s1 := sb.trans (same_new (o := .lst (((os.take 3).drop 1).map V.int)) hl1)
    refine ⟨l1, _, rfl, .of upd_same, by rw [List.length_drop, List.length_take]; omega, o1, ?_⟩
    generalize upd Hb l1 (.lst (((os.take 3).drop 1).map V.int)) = H1 at s1 ⊢
    walk_at "st"
    walk_at "if" <;> intro c3
    · walk_at "st"
      exact q1 H1 s1 (.inr (.inr (.inr (by omega))))
    walk_at "st"
    refine k_slL (s1.seq hS) fun l2 hl2 => ?_
    rw [cutPart, ← List.map_take, ← List.map_drop]
    have s2 := s1.trans (same_new (o := .lst (((os.take w).drop 3).map V.int)) hl2)
    refine ⟨l2, _, rfl, .of upd_same, by rw [List.length_drop, List.length_take]; omega, o2, ?_⟩
    generalize upd H1 l2 (.lst (((os.take w).drop 3).map V.int)) = H2 at s2 ⊢
    walk_at "st"
    intro p hp
    exact q2 (by omega) ho (by rw [e0]; exact c2) (by omega) p _ (s2.gone _ hp) (s2.trans (same_new hp)) upd_same

theorem octs_append {a b : List Int} (h1 : Octs a) (h2 : Octs b) : Octs (a ++ b) := fun x hx => (List.mem_append.mp hx).elim (h1 x) (h2 x)
theorem fldO_oct (ns : List Int) (w : Nat) : Octs (fldO ns w) := fun x hx => by
  obtain ⟨l, hl, hx⟩ := List.mem_flatten.mp hx
  obtain ⟨n, _, rfl⟩ := List.mem_map.mp hl
  exact octs_oct n w x hx
theorem fldO_one (n : Int) (w : Nat) : fldO [n] w = octs n w := by unfold fldO; simp
theorem rowO_oct (bs : List Int) : Octs (rowO bs) := fun x hx => by
  unfold rowO at hx
  rcases List.mem_cons.mp hx with rfl | hx
  · omega
  · exact octs_append (octs_append (fldO_oct _ _) (fldO_oct _ _)) (fldO_oct _ _) x hx
theorem rowO_len (bs : List Int) : (rowO bs).length = 5 + 6 * ((bs.length + 31) / 32) := by
  unfold rowO
  rw [List.length_cons, List.length_append, List.length_append, fldO_len, fldO_len, fldO_len, blks_len, aheadT_len, List.length_singleton]; omega
/-- a row's octets behind its head -/
theorem rowO_cut (bs : List Int) : rowO bs = 1 :: (octs (bs.length : Int) 2 ++ (fldO (blks bs) 4 ++ fldO (aheadT bs) 2)) := by
  unfold rowO; rw [fldO_one, List.append_assoc]
theorem rowO_many {bs : List Int} (h : bs.length ≤ 4096) : num (((rowO bs).take 3).drop 1) = (bs.length : Int) := by
  rw [rowO_cut, List.take_succ_cons, List.drop_succ_cons, List.drop_zero, List.take_append_of_le_length (by rw [octs_len]; exact Nat.le_refl _), List.take_of_length_le (by rw [octs_len]; exact Nat.le_refl _)]
  exact num_octs 2 _ (by omega) (by show ((bs.length : Nat) : Int) < 256 ^ 2; omega)
theorem rowO_mid (bs : List Int) : ((rowO bs).take (3 + 4 * ((bs.length + 31) / 32))).drop 3 = fldO (blks bs) 4 := by
  have l1 : (1 :: octs (bs.length : Int) 2).length = 3 := by rw [List.length_cons, octs_len]
  have l2 : (fldO (blks bs) 4).length = 4 * ((bs.length + 31) / 32) := by rw [fldO_len, blks_len, Nat.mul_comm]
  rw [rowO_cut, show (1 :: (octs (bs.length : Int) 2 ++ (fldO (blks bs) 4 ++ fldO (aheadT bs) 2))) = (1 :: octs (bs.length : Int) 2) ++ (fldO (blks bs) 4 ++ fldO (aheadT bs) 2) from rfl]
  rw [← l1, List.take_length_add_append, List.drop_left, ← l2, List.take_left]
theorem numsO_fldO (w : Nat) : ∀ ns : List Int, (∀ n ∈ ns, 0 ≤ n ∧ n < 256 ^ w) → numsO (fldO ns w) w ns.length = ns
  | [], _ => rfl
  | n :: ns, h => by
    obtain ⟨h1, h2⟩ := h n List.mem_cons_self
    have e : fldO (n :: ns) w = octs n w ++ fldO ns w := by unfold fldO; rw [List.map_cons, List.flatten_cons]
    have el := octs_len n w
    rw [List.length_cons, numsO_succ, e]
    have e1 : (octs n w ++ fldO ns w).take w = octs n w := by
      rw [List.take_append_of_le_length (by rw [el]; exact Nat.le_refl _), List.take_of_length_le (by rw [el]; exact Nat.le_refl _)]
    have e2 : (octs n w ++ fldO ns w).drop w = fldO ns w := by
      rw [List.drop_append_of_le_length (by rw [el]; exact Nat.le_refl _), List.drop_of_length_le (by rw [el]; exact Nat.le_refl _), List.nil_append]
    rw [e1, e2, num_octs w n h1 h2, numsO_fldO w ns fun x hx => h x (List.mem_cons_of_mem _ hx)]
theorem blks_lt {bs : List Int} (hB : Bits bs) : ∀ n ∈ blks bs, 0 ≤ n ∧ n < 256 ^ 4 := fun n hn => by
  obtain ⟨j, hj⟩ := List.mem_iff_getElem?.mp hn
  obtain ⟨h1, h2⟩ := blks_range hB hj
  exact ⟨h1, h2⟩
/-- a row's octets tell its bits -/
theorem rowO_bits {bs : List Int} (hB : Bits bs) : unp (numsO (((rowO bs).take (3 + 4 * ((bs.length + 31) / 32))).drop 3) 4 ((bs.length + 31) / 32)) bs.length = bs := by
  have e := numsO_fldO 4 (blks bs) (blks_lt hB)
  rw [blks_len] at e
  rw [rowO_mid, e, unp_blks hB]
theorem rowO_inj {bs cs : List Int} (hB : Bits bs) (hC : Bits cs) (lb : bs.length ≤ 4096) (lc : cs.length ≤ 4096) (e : rowO bs = rowO cs) : bs = cs := by
  have e1 := rowO_many lb
  have e2 := rowO_many lc
  have e3 := rowO_bits hB
  rw [e] at e1 e3
  have el : bs.length = cs.length := by omega
  rw [el] at e3
  exact e3.symm.trans (rowO_bits hC)
/-- os are the octets of some row -/
def IsRow (os bs : List Int) : Prop := Bits bs ∧ bs.length ≤ 4096 ∧ os = rowO bs
theorem IsRow.inj {os bs cs : List Int} (h : IsRow os bs) (g : IsRow os cs) : bs = cs := rowO_inj h.1 g.1 h.2.1 g.2.1 (h.2.2.symm.trans g.2.2)

/-- read_row(octets) -/
def sp_read_row (K : PySem.W.Frag) : Sp := fun vs H Q E => ∃ (a : Addr) (os : List Int), vs = [.ref a] ∧ SqL K H a (os.map V.int) ∧ os.length ≤ 100000 ∧
  (∀ H', Same H H' → (∀ bs, ¬ IsRow os bs) → E (.ref (He.ga K "NoOctets")) none H') ∧
  (∀ bs, IsRow os bs → ∀ p H', H p = none → Same H H' → H' p = some (.lst (bs.map V.int)) → Q (.ref p) H')
theorem len_read_row (K : PySem.W.Frag) : ∀ vs H Q E, sp_read_row K vs H Q E → vs.length = 1 := by
  rintro vs H Q E ⟨x, y, rfl, _⟩; rfl
def t_read_row (K : PySem.W.Frag) (E : XK) : TS :=
  (tSeq (tAsg (tOp (rIxT K) (tCall (sp_head_of K) [] E (tCons (tVar 0) (tCons (tC (.int 1)) (tCons (tC (.int 3)) tNil)))) (tC (.int 0))) (gName 1))
  (tSeq (tIfS (tTest (tOp rNe (tCB (rLen K) (tCons (tVar 0) tNil)) (tOp rPlus (tC (.int 3)) (tCall (sp_row_long K) [] E0 (tCons (tVar 1) tNil)))))
  (tRz (fun cls d _ H => E cls d H) (He.ga K "NoOctets"))
  tNext)
  (tSeq (tAsg (tCall (sp_unpacked K) [] E (tCons (tCall (sp_numbers_of K) [] E0 (tCons (tSl (rSlL K) (tVar 0) (tPart (tC (.int 3))) (tPart (tOp rPlus (tC (.int 3)) (tOp rTimes (tC (.int 4)) (tCall (sp_blocks_for K) [] E0 (tCons (tVar 1) tNil)))))) (tCons (tC (.int 4)) tNil))) (tCons (tVar 1) tNil))) (gName 2))
  (tSeq (tDrop (tCall (sp_same_again K) [] E (tCons (tVar 0) (tCons (tCall (sp_row_octets K) [] E (tCons (tVar 2) tNil)) tNil))))
  (tRet (tVar 2))))))
abbrev n_read_row : List Str := ["octets", "many", "bits"]

theorem rd_read_row (K : PySem.W.Frag) (vs : List V) (H : Hp) (Q : VK) (E : XK) (h : sp_read_row K vs H Q E) : t_read_row K E { nx := fun _ H' => Q .non H', rt := Q } (start n_read_row vs) H := by
  obtain ⟨a, os, rfl, hS, hl, q1, q2⟩ := h
  unfold t_read_row
  walk_at "st"
  refine ⟨a, os, 1, 3, rfl, hS, by decide, by decide, hl, fun H' s' c => q1 H' s' ?_, fun h1 h2 h3 h4 pt H1 hpt s1 e1 => ?_⟩
  · rintro bs ⟨hB, hb, rfl⟩
    rcases c with c | c | c | c
    · rw [rowO_len] at c; omega
    · exact c (rowO_oct bs)
    · exact c rfl
    · rw [rowO_many hb] at c; omega
  walk_at "st"
  refine k_ixT (.of e1) (at_int (by decide) rfl) ?_
  have o1 : Octs ((os.take 3).drop 1) := fun z hz => h2 z (List.mem_of_mem_take (List.mem_of_mem_drop hz))
  obtain ⟨r0, _⟩ := num_range _ o1
  obtain ⟨m, hm⟩ := Int.eq_ofNat_of_zero_le r0
  have hmany : ∀ bs, IsRow os bs → bs.length = m := by
    rintro bs ⟨hB, hb, rfl⟩
    rw [rowO_many hb] at hm; omega
  rw [hm] at h4
  rw [hm]
  clear r0 o1
  walk_at "st"
  refine k_lenL (s1.seq hS) ?_
  walk_at "st"
  refine ⟨_, rfl, ?_⟩
  walk_at "st"
  rw [List.length_map]
  walk_at "if" <;> intro c1
  · walk_at "st"
    refine q1 H1 s1 ?_
    intro bs hR
    have := hmany bs hR
    have e := congrArg List.length hR.2.2
    rw [rowO_len, this] at e
    omega
  have hlen : os.length = 5 + 6 * ((m + 31) / 32) := by omega
  walk_at "st"
  refine ⟨_, rfl, ?_⟩
  walk_at "st"
  refine k_slL (s1.seq hS) fun l1 hl1 => ?_
  rw [show (3 : Int) + 4 * ((((m : Nat) : Int) + 31) / 32) = ((3 + 4 * ((m + 31) / 32) : Nat) : Int) by omega, show (3 : Int) = ((3 : Nat) : Int) from rfl, cutPart, ← List.map_take, ← List.map_drop]
  have oB : Octs ((os.take (3 + 4 * ((m + 31) / 32))).drop 3) := fun z hz => h2 z (List.mem_of_mem_take (List.mem_of_mem_drop hz))
  have lB : ((os.take (3 + 4 * ((m + 31) / 32))).drop 3).length = 4 * ((m + 31) / 32) := by rw [List.length_drop, List.length_take]; omega
  have hbits : ∀ bs, IsRow os bs → unp (numsO ((os.take (3 + 4 * ((m + 31) / 32))).drop 3) 4 ((m + 31) / 32)) m = bs := fun bs hR => by
    have e := hmany bs hR
    obtain ⟨hB, hb, rfl⟩ := hR
    rw [← e]; exact rowO_bits hB
  generalize (os.take (3 + 4 * ((m + 31) / 32))).drop 3 = mid at oB lB hbits ⊢
  have s2 := s1.trans (same_new (o := .lst (mid.map V.int)) hl1)
  have e2 := upd_same (H := H1) (a := l1) (o := .lst (mid.map V.int))
  generalize upd H1 l1 (.lst (mid.map V.int)) = H2 at s2 e2 ⊢
  walk_at "st"
  refine ⟨l1, mid, 4, (m + 31) / 32, rfl, .of e2, .inr (.inl rfl), lB, by omega, oB, fun p3 H3 hp3 s3 e3 => ?_⟩
  walk_at "st"
  refine ⟨p3, _, m, rfl, .of e3, by rw [numsO_len]; omega, fun c => ?_, fun _ _ p4 H4 hp4 s4 e4 => ?_⟩
  · rw [numsO_len] at c; omega
  rw [Int.toNat_natCast] at e4
  have hub := unp_bits (numsO mid 4 ((m + 31) / 32)) m
  have hul := unp_len (numsO mid 4 ((m + 31) / 32)) m
  generalize unp (numsO mid 4 ((m + 31) / 32)) m = bs at e4 hub hul hbits
  have s14 := (s2.trans s3).trans s4
  walk_at "st"
  refine ⟨p4, bs, rfl, .of e4, by omega, fun c => by omega, fun _ c => absurd hub c, fun _ _ p5 H5 hp5 s5 e5 => ?_⟩
  walk_at "st"
  refine ⟨a, p5, os, rowO bs, rfl, (s14.trans s5).seq hS, .of e5, fun c => q1 H5 (s14.trans s5) fun cs hR => c ?_, fun c => ?_⟩
  · rw [hbits cs hR]; exact hR.2.2
  walk_at "st"
  exact q2 bs ⟨hub, by omega, c⟩ p4 H5 ((s2.trans s3).gone _ hp4) (s14.trans s5) (s5.get e4)

/-- _law_bits(script): some bits, twenty at most for each number -/
def sp_law_bits (K : PySem.W.Frag) : Sp := fun vs H Q _ => ∃ (a : Addr) (ns : List Int), vs = [.ref a] ∧ SqL K H a (ns.map V.int) ∧
  ∀ (bs : List Int) p H', bs.length ≤ 1260 → Bits bs → (bs = [] ↔ ns = []) → H p = none → Same H H' → H' p = some (.lst (bs.map V.int)) → Q (.ref p) H'
theorem len_law_bits (K : PySem.W.Frag) : ∀ vs H Q E, sp_law_bits K vs H Q E → vs.length = 1 := by
  rintro vs H Q E ⟨x, y, rfl, _⟩; rfl
def t_law_bits (K : PySem.W.Frag) : TS :=
  (tSeq (tAsg (tLst tNil) (gName 1))
  (tSeq (tFor (iList K (tSl (rSlL K) (tVar 0) tNoPart (tPart (tC (.int 63))))) (gName 2)
  (tSeq (tAsg (tOp rMod (tOp rTimes (tVar 2) (tC (.int 48271))) (tC (.int 2147483647))) (gName 3))
  (tSeq (tAsg (tOp rDiv (tVar 3) (tC (.int 40))) (gName 4))
  (tFor (iRng1 (tCons (tOp rPlus (tC (.int 1)) (tOp rMod (tOp rDiv (tVar 3) (tC (.int 2))) (tC (.int 20)))) tNil)) (gName 5)
  (tSeq (tDrop (tBM K "list" rAppend (tVar 1) (tCons (tOp rMod (tVar 4) (tC (.int 2))) tNil)))
  (tIfS (tTest (tOp rEq (tOp rMod (tVar 3) (tC (.int 2))) (tC (.int 1))))
  (tAsg (tOp rDiv (tVar 4) (tC (.int 2))) (gName 4))
  tNext))))))
  (tRet (tVar 1))))
abbrev n_law_bits : List Str := ["_law_script", "_law_bits_here", "_law_cell", "_law_number", "_law_piece", "_law_k"]

theorem rd_law_bits (K : PySem.W.Frag) (vs : List V) (H : Hp) (Q : VK) (E : XK) (h : sp_law_bits K vs H Q E) : t_law_bits K { nx := fun _ H' => Q .non H', rt := Q } (start n_law_bits vs) H := by
  obtain ⟨a, ns, rfl, hS, q⟩ := h
  unfold t_law_bits
  walk_at "st"
  intro p hp
  walk_at "st"
  refine k_slL ((same_new hp).seq hS) fun l hl => ?_
  rw [show (63 : Int) = ((63 : Nat) : Int) from rfl, cutTake, ← List.map_take]
  have npl : p ≠ l := ne_of_none upd_same hl
  refine m_iLe (.of upd_same) ?_
  refine loop_ints (ns := ns.take 63) (fun i σ H' => ∃ y1 y2 y3 y4, σ = [some (.ref a), some (.ref p), y1, y2, y3, y4] ∧ Same H H' ∧ H' l = some (.lst ((ns.take 63).map V.int)) ∧ ∃ bs : List Int, i ≤ bs.length ∧ bs.length ≤ 20 * i ∧ i ≤ (ns.take 63).length ∧ Bits bs ∧ H' p = some (.lst (bs.map V.int))) ⟨none, none, none, none, rfl, (same_new hp).trans (same_new hl), upd_same, [], by simp, by simp, Nat.zero_le _, (fun x hx => by simp at hx), by rw [upd_ne npl, upd_same]; rfl⟩ (fun i σ H' ⟨_, _, _, _, _, _, e, _⟩ => .of e) ?_ ?_
  · rintro i n σ H' hn ⟨y1, y2, y3, y4, rfl, s, el, bs, hb0, hb1, hle, hB, ep⟩
    have hlt : i < (ns.take 63).length := (List.getElem?_eq_some_iff.mp hn).1
    have h63 : (ns.take 63).length ≤ 63 := by rw [List.length_take]; omega
    walk_at "st"
    obtain ⟨w, hw, hw1, hw2⟩ : ∃ w : Nat, (w : Int) = 1 + n * 48271 % 2147483647 / 2 % 20 ∧ 1 ≤ w ∧ w ≤ 20 := ⟨(1 + n * 48271 % 2147483647 / 2 % 20).toNat, by omega, by omega, by omega⟩
    rw [show (1 + n * 48271 % 2147483647 / 2 % 20).toNat = w by omega]
    refine loop_range0 (fun k σ H'' => ∃ pc y4, σ = [some (.ref a), some (.ref p), some (.int n), some (.int (n * 48271 % 2147483647)), some (.int pc), y4] ∧ Same H H'' ∧ H'' l = some (.lst ((ns.take 63).map V.int)) ∧ ∃ cs : List Int, cs.length = bs.length + k ∧ k ≤ 20 ∧ Bits cs ∧ H'' p = some (.lst (cs.map V.int))) ⟨_, _, rfl, s, el, bs, rfl, by omega, hB, ep⟩ ?_ ?_
    · rintro k σ H'' hk ⟨pc, y4, rfl, s, el, cs, hc, _, hC, ep⟩
      walk_at "st"
      refine k_tyL (.of ep) ?_
      walk_at "st"
      refine k_app ep (by rw [List.length_map]; omega) ?_
      walk_at "st"
      have hC' : Bits (cs ++ [pc % 2]) := by
        intro x hx
        rcases List.mem_append.mp hx with h | h
        · exact hC x h
        · have : x = pc % 2 := by simpa using h
          omega
      walk_at "if" <;> intro _
      · walk_at "st"
        exact ⟨_, _, rfl, Same.mut s hp, by rw [upd_ne npl.symm]; exact el, cs ++ [pc % 2], by rw [List.length_append, hc]; simp; omega, by omega, hC', by rw [upd_same, List.map_append]; rfl⟩
      · walk_at "st"
        exact ⟨_, _, rfl, Same.mut s hp, by rw [upd_ne npl.symm]; exact el, cs ++ [pc % 2], by rw [List.length_append, hc]; simp; omega, by omega, hC', by rw [upd_same, List.map_append]; rfl⟩
    · rintro σ H'' ⟨pc, y4, rfl, s, el, cs, hc, _, hC, ep⟩
      exact ⟨_, _, _, _, rfl, s, el, cs, by omega, by omega, hlt, hC, ep⟩
  · rintro σ H' ⟨y1, y2, y3, y4, rfl, s, el, bs, hb0, hb1, _, hB, ep⟩
    have h63 : (ns.take 63).length ≤ 63 := by rw [List.length_take]; omega
    walk_at "st"
    refine q bs p H' (by omega) hB ⟨fun e => ?_, fun e => ?_⟩ hp s ep
    rotate_left
    · subst e
      exact List.eq_nil_of_length_eq_zero (by simp at hb1; simpa using hb1)
    subst e
    have : (ns.take 63).length = 0 := by simpa using hb0
    rw [List.length_take] at this
    exact List.eq_nil_of_length_eq_zero (by omega)

/-! a block as octets -/
theorem blk_split : ∀ {bs : List Int} (k : Nat), Bits bs → blk bs / 2 ^ k = blk (bs.drop k) ∧ blk bs % 2 ^ k = blk (bs.take k)
  | bs, 0, _ => ⟨by rw [List.drop_zero]; simp, by rw [List.take_zero]; simp [blk]⟩
  | [], k + 1, _ => ⟨by rw [List.drop_nil]; simp [blk], by rw [List.take_nil]; simp [blk]⟩
  | b :: bs, k + 1, h => by
    have hb := h b List.mem_cons_self
    obtain ⟨h1, h2⟩ := blk_split (bs := bs) k fun x hx => h x (List.mem_cons_of_mem _ hx)
    have e : blk (b :: bs) = b + 2 * blk bs := rfl
    have p : (0 : Int) < 2 ^ k := Int.pow_pos (by decide)
    have d := Int.emod_add_mul_ediv (blk bs) (2 ^ k)
    have l := Int.emod_lt_of_pos (blk bs) p
    have n := Int.emod_nonneg (blk bs) (show (2 : Int) ^ k ≠ 0 by omega)
    rw [List.drop_succ_cons, List.take_succ_cons, ← h1, show blk (b :: bs.take k) = b + 2 * blk (bs.take k) from rfl, ← h2, e]
    generalize blk bs = x at d l n ⊢
    generalize x / 2 ^ k = u at d ⊢
    generalize x % 2 ^ k = v at d l n ⊢
    have hp : (2 : Int) ^ (k + 1) = 2 * 2 ^ k := by rw [Int.pow_succ, Int.mul_comm]
    rw [hp]
    generalize (2 : Int) ^ k = m at *
    have e2 : b + 2 * x = (b + 2 * v) + (2 * m) * u := by rw [← d, Int.mul_assoc]; omega
    rw [e2]
    constructor
    · rw [Int.add_mul_ediv_left _ _ (by omega), Int.ediv_eq_zero_of_lt (by omega) (by omega)]; omega
    · rw [Int.add_mul_emod_self_left, Int.emod_eq_of_lt (by omega) (by omega)]
/-- the octet i of a row's bits -/
def octAt (bs : List Int) (i : Nat) : Int := blk ((bs.drop (8 * i)).take 8)
theorem octs_blk {bs : List Int} (h : Bits bs) (m : Nat) : octs (blk bs) m = (List.range m).map (octAt bs) := by
  unfold octs
  refine List.map_congr_left fun i _ => ?_
  rw [pow256, (blk_split (8 * i) h).1, show (256 : Int) = 2 ^ 8 by decide, (blk_split 8 (h.drop _)).2]; rfl
theorem octAt_drop (bs : List Int) (n i : Nat) : octAt (bs.drop (8 * n)) i = octAt bs (n + i) := by
  unfold octAt
  rw [List.drop_drop]; congr 3; omega
theorem octAt_take32 (bs : List Int) {i : Nat} (hi : i < 4) : octAt (bs.take 32) i = octAt bs i := by
  unfold octAt
  rw [List.drop_take, List.take_take]; congr 2; omega
theorem octAt_nil {bs : List Int} {i : Nat} (h : bs.length ≤ 8 * i) : octAt bs i = 0 := by
  unfold octAt; rw [List.drop_of_length_le h]; rfl
/-- the blocks' octets are the row's bits, by eight -/
theorem fldO_blks {bs : List Int} (h : Bits bs) : ∀ n : Nat, fldO (blksN bs n) 4 = (List.range (4 * n)).map (octAt bs) := by
  intro n
  induction n generalizing bs with
  | zero => rfl
  | succ n ih =>
    show octs (blk (bs.take 32)) 4 ++ fldO (blksN (bs.drop 32) n) 4 = _
    rw [octs_blk (h.take 32), ih (h.drop 32), show 4 * (n + 1) = 4 + 4 * n by omega, List.range_add, List.map_append]
    congr 1
    · refine List.map_congr_left fun i hi => ?_
      exact octAt_take32 bs (List.mem_range.mp hi)
    · rw [List.map_map]
      refine List.map_congr_left fun i _ => ?_
      rw [show (32 : Nat) = 8 * 4 from rfl, octAt_drop]; rfl
theorem fldO_two (ns : List Int) : fldO ns 2 = (ns.map fun n => ([n % 256, n / 256 % 256] : List Int)).flatten := by
  unfold fldO
  congr 1
  refine List.map_congr_left fun n _ => ?_
  show [n / 256 ^ 0 % 256, n / 256 ^ 1 % 256] = _
  simp

theorem rgC_32 {n : Nat} (hn : n ≤ 100000) : RgC 0 (n : Int) 32 ((n + 31) / 32) := by
  have e : Builtin.Range.rangeSize 0 (n : Int) 32 = (((n + 31) / 32 : Nat) : Int) := by
    rw [PyProof.Rows.rangeSize_pos (by decide) (by omega)]; omega
  refine ⟨by decide, by decide, ?_, e⟩
  unfold Builtin.Range.small
  rw [e]
  have f : ∀ i : Int, 0 ≤ i → i < 1000000 → Builtin.Range.rangeFitsLong i = true := fun i h0 h1 => by
    unfold Builtin.Range.rangeFitsLong
    rw [Bool.and_eq_true]
    exact ⟨decide_eq_true (by omega), decide_eq_true (by omega)⟩
  rw [f 0 (by decide) (by decide), f n (by omega) (by omega), f 32 (by decide) (by decide), f _ (by omega) (by omega), if_pos (by decide), f _ (by omega) (by omega)]
  simp

/-- _law_two(number) -/
def sp_law_two (_ : PySem.W.Frag) : Sp := fun vs H Q _ => ∃ n : Int, vs = [.int n] ∧ 0 ≤ n ∧ n < 65536 ∧ ∀ p H', H p = none → Same H H' → H' p = some (.lst ((octs n 2).map V.int)) → Q (.ref p) H'
theorem len_law_two (K : PySem.W.Frag) : ∀ vs H Q E, sp_law_two K vs H Q E → vs.length = 1 := by
  rintro vs H Q E ⟨x, rfl, _⟩; rfl
def t_law_two (K : PySem.W.Frag) : TS :=
  (tRet (tLst (tCons (tOp rMod (tVar 0) (tC (.int 256))) (tCons (tOp rDiv (tVar 0) (tC (.int 256))) tNil))))
abbrev n_law_two : List Str := ["_law_number"]

theorem rd_law_two (K : PySem.W.Frag) (vs : List V) (H : Hp) (Q : VK) (E : XK) (h : sp_law_two K vs H Q E) : t_law_two K { nx := fun _ H' => Q .non H', rt := Q } (start n_law_two vs) H := by
  obtain ⟨n, rfl, h0, h1, q⟩ := h
  unfold t_law_two
  walk_at "st"
  intro p hp
  refine q p _ hp (same_new hp) ?_
  rw [upd_same]
  show _ = some (HO.lst (([n / 256 ^ 0 % 256, n / 256 ^ 1 % 256] : List Int).map V.int))
  rw [show n / 256 ^ 0 % 256 = n % 256 by simp, show n / 256 ^ 1 % 256 = n / 256 by rw [Int.pow_succ, Int.pow_zero, Int.one_mul]; omega]; rfl
theorem rgC_8 {n : Nat} (hn : n ≤ 100000) : RgC 0 (n : Int) 8 ((n + 7) / 8) := by
  have e : Builtin.Range.rangeSize 0 (n : Int) 8 = (((n + 7) / 8 : Nat) : Int) := by
    rw [PyProof.Rows.rangeSize_pos (by decide) (by omega)]; omega
  refine ⟨by decide, by decide, ?_, e⟩
  unfold Builtin.Range.small
  rw [e]
  have f : ∀ i : Int, 0 ≤ i → i < 1000000 → Builtin.Range.rangeFitsLong i = true := fun i h0 h1 => by
    unfold Builtin.Range.rangeFitsLong
    rw [Bool.and_eq_true]
    exact ⟨decide_eq_true (by omega), decide_eq_true (by omega)⟩
  rw [f 0 (by decide) (by decide), f n (by omega) (by omega), f 8 (by decide) (by decide), f _ (by omega) (by omega), if_pos (by decide), f _ (by omega) (by omega)]
  simp

/-- _law_written(bits) -/
def sp_law_written (K : PySem.W.Frag) : Sp := fun vs H Q _ => ∃ (a : Addr) (bs : List Int), vs = [.ref a] ∧ H a = some (.lst (bs.map V.int)) ∧ Bits bs ∧ bs.length ≤ 5000 ∧ ∀ p H', H p = none → Same H H' → H' p = some (.lst ((rowO bs).map V.int)) → Q (.ref p) H'
theorem len_law_written (K : PySem.W.Frag) : ∀ vs H Q E, sp_law_written K vs H Q E → vs.length = 1 := by
  rintro vs H Q E ⟨x, y, rfl, _⟩; rfl
def t_law_written (K : PySem.W.Frag) : TS :=
  (tSeq (tAsg (tLst tNil) (gName 1))
  (tSeq (tFor (iRng3 (tCons (tC (.int 0)) (tCons (tCB (rLen K) (tCons (tVar 0) tNil)) (tCons (tC (.int 8)) tNil)))) (gName 2)
  (tSeq (tAsg (tC (.int 0)) (gName 3))
  (tSeq (tFor (iRev K (tCons (tSl (rSlL K) (tVar 0) (tPart (tVar 2)) (tPart (tOp rPlus (tVar 2) (tC (.int 8))))) tNil)) (gName 4)
  (tAsg (tOp rPlus (tOp rTimes (tC (.int 2)) (tVar 3)) (tVar 4)) (gName 3)))
  (tDrop (tBM K "list" rAppend (tVar 1) (tCons (tVar 3) tNil))))))
  (tSeq (tWhile (tTest (tOp rNe (tOp rMod (tCB (rLen K) (tCons (tVar 1) tNil)) (tC (.int 4))) (tC (.int 0))))
  (tDrop (tBM K "list" rAppend (tVar 1) (tCons (tC (.int 0)) tNil))))
  (tSeq (tAsg (tC (.int 0)) (gName 5))
  (tSeq (tDrop (tBM K "list" rExtend (tVar 1) (tCons (tLst (tCons (tC (.int 0)) (tCons (tC (.int 0)) tNil))) tNil)))
  (tSeq (tFor (iRng3 (tCons (tC (.int 0)) (tCons (tCB (rLen K) (tCons (tVar 0) tNil)) (tCons (tC (.int 32)) tNil)))) (gName 2)
  (tSeq (tAsg (tOp rPlus (tVar 5) (tCB (rSum K) (tCons (tSl (rSlL K) (tVar 0) (tPart (tVar 2)) (tPart (tOp rPlus (tVar 2) (tC (.int 32))))) tNil))) (gName 5))
  (tDrop (tBM K "list" rExtend (tVar 1) (tCons (tCall (sp_law_two K) [] E0 (tCons (tVar 5) tNil)) tNil)))))
  (tRet (tOp rCat (tOp rCat (tLst (tCons (tC (.int 1)) tNil)) (tCall (sp_law_two K) [] E0 (tCons (tCB (rLen K) (tCons (tVar 0) tNil)) tNil))) (tVar 1)))))))))
abbrev n_law_written : List Str := ["_law_bits_here", "_law_octets_here", "_law_start", "_law_octet", "_law_bit", "_law_ones"]

theorem rd_law_written (K : PySem.W.Frag) (vs : List V) (H : Hp) (Q : VK) (E : XK) (h : sp_law_written K vs H Q E) : t_law_written K { nx := fun _ H' => Q .non H', rt := Q } (start n_law_written vs) H := by
  obtain ⟨a, bs, rfl, ha, hB, hl, q⟩ := h
  unfold t_law_written
  walk_at "st"
  intro p hp
  have s0 := same_new (o := .lst []) hp
  have e0 := upd_same (H := H) (a := p) (o := .lst [])
  generalize upd H p (.lst []) = H1 at s0 e0 ⊢
  walk_at "st"
  refine k_lenL (.of (s0.get ha)) ?_
  walk_at "st"
  rw [List.length_map]
  refine m_rng3e (rgC_8 (by omega)) ?_
  refine loop_walk walk_rangeC (fun i σ H2 => ∃ v2 v3 v4, i ≤ (bs.length + 7) / 8 ∧ Same H H2 ∧ H2 p = some (.lst (((List.range i).map (octAt bs)).map V.int)) ∧ σ = [some (.ref a), some (.ref p), v2, v3, v4, none]) ⟨none, none, none, Nat.zero_le _, s0, e0, rfl⟩ (fun _ _ _ _ => trivial) ?_ ?_
  · rintro i x σ H2 H3 hi ⟨v2, v3, v4, _, s, e, rfl⟩ ⟨hH, rfl⟩
    subst hH
    dsimp only
    rw [show (0 : Int) + ((i : Nat) : Int) * 8 = ((8 * i : Nat) : Int) by omega]
    walk_at "st"
    refine k_slL (.of (s.get ha)) fun p1 hp1 => ?_
    rw [show ((8 * i : Nat) : Int) + 8 = ((8 * i + 8 : Nat) : Int) by omega, cutPart, ← List.map_take, ← List.map_drop, show (bs.take (8 * i + 8)).drop (8 * i) = (bs.drop (8 * i)).take 8 by rw [List.drop_take]; congr 1; omega]
    obtain ⟨cs, ecs⟩ : ∃ cs, cs = (bs.drop (8 * i)).take 8 := ⟨_, rfl⟩
    have eo : octAt bs i = blk cs := by rw [ecs]; rfl
    rw [← ecs]
    have s1 := same_new (o := .lst (cs.map V.int)) hp1
    have e1 := upd_same (H := H3) (a := p1) (o := .lst (cs.map V.int))
    have ex := s1.get e
    generalize upd H3 p1 (.lst (cs.map V.int)) = H4 at s1 e1 ex ⊢
    walk_at "st"
    refine m_revE (.of e1) ?_
    rw [List.length_map]
    refine loop_walk (n := cs.length) (by have := walk_rev (K := K) (a := p1) (xs := cs.map V.int); rw [List.length_map] at this; exact this) (fun k σ H5 => ∃ y, H4 = H5 ∧ k ≤ cs.length ∧ σ = [some (.ref a), some (.ref p), some (.int ((8 * i : Nat) : Int)), some (.int (blk (cs.drop (cs.length - k)))), y, none]) ⟨_, rfl, Nat.zero_le _, by rw [Nat.sub_zero, List.drop_length]; rfl⟩ (fun k σ H5 ⟨_, e, _⟩ => by rw [← e]; exact SqL.of e1) ?_ ?_
    · rintro k v σ H5 H6 hlt ⟨y, rfl, hk, rfl⟩ ⟨rfl, hv⟩
      obtain ⟨b, hb, rfl⟩ := of_mapint hv
      have hk2 : cs.length - 1 - k < cs.length := by omega
      have ed : cs.drop (cs.length - (k + 1)) = b :: cs.drop (cs.length - k) := by
        rw [show cs.length - (k + 1) = cs.length - 1 - k by omega, List.drop_eq_getElem_cons hk2, show cs.length - 1 - k + 1 = cs.length - k by omega]
        congr 1
        exact (List.getElem?_eq_some_iff.mp hb).2
      walk_at "st"
      refine ⟨some (.int b), rfl, by omega, ?_⟩
      rw [ed, show blk (b :: cs.drop (cs.length - k)) = 2 * blk (cs.drop (cs.length - k)) + b by show b + 2 * _ = _; omega]; rfl
    · rintro σ H5 ⟨y, rfl, _, rfl⟩
      rw [Nat.sub_self, List.drop_zero]
      walk_at "st"
      refine k_tyL (.of ex) ?_
      walk_at "st"
      refine k_app ex (by rw [List.length_map, List.length_map, List.length_range]; omega) ?_
      refine ⟨_, _, _, hi, Same.mut (s.trans s1) hp ⟨_, ex⟩, ?_, rfl⟩
      rw [upd_same, ← eo, List.range_succ, List.map_append, List.map_append]; rfl
  rintro σ H2 ⟨v2, v3, v4, _, s, e, rfl⟩
  walk_at "st"
  refine loop_while (fun m σ H3 => ∃ k : Nat, m = 4 * ((bs.length + 31) / 32) - k ∧ (bs.length + 7) / 8 ≤ k ∧ k ≤ 4 * ((bs.length + 31) / 32) ∧ Same H H3 ∧ H3 p = some (.lst (((List.range k).map (octAt bs)).map V.int)) ∧ σ = [some (.ref a), some (.ref p), v2, v3, v4, none]) (4 * ((bs.length + 31) / 32) - (bs.length + 7) / 8) ⟨(bs.length + 7) / 8, rfl, Nat.le_refl _, by omega, s, e, rfl⟩ ?_
  rintro m σ H3 ⟨k, rfl, hk1, hk2, s, e, rfl⟩
  walk_at "st"
  refine k_lenL (.of e) ?_
  walk_at "st"
  rw [List.length_map, List.length_map, List.length_range]
  walk_at "if" <;> intro c
  · refine m_wbody ?_
    walk_at "st"
    refine k_tyL (.of e) ?_
    walk_at "st"
    refine k_app e (by rw [List.length_map, List.length_map, List.length_range]; omega) ?_
    refine ⟨4 * ((bs.length + 31) / 32) - (k + 1), by omega, k + 1, rfl, by omega, by omega, Same.mut s hp ⟨_, e⟩, ?_, rfl⟩
    rw [upd_same, List.range_succ, List.map_append, List.map_append]
    show _ = some (HO.lst (_ ++ [V.int (octAt bs k)]))
    rw [octAt_nil (show bs.length ≤ 8 * k by omega)]
  obtain rfl : k = 4 * ((bs.length + 31) / 32) := by omega
  obtain ⟨E, eE⟩ : ∃ E, E = (List.range (4 * ((bs.length + 31) / 32))).map (octAt bs) := ⟨_, rfl⟩
  have eEl : E.length = 4 * ((bs.length + 31) / 32) := by rw [eE, List.length_map, List.length_range]
  have eEb : fldO (blks bs) 4 = E := by rw [eE]; exact fldO_blks hB _
  rw [← eE] at e
  walk_at "st"
  refine k_tyL (.of e) ?_
  walk_at "st"
  intro p4 hp4
  have s4 := same_new (o := .lst [.int 0, .int 0]) hp4
  have e4 := upd_same (H := H3) (a := p4) (o := .lst [.int 0, .int 0])
  have ex := s4.get e
  generalize upd H3 p4 (.lst [.int 0, .int 0]) = H4 at s4 e4 ex ⊢
  walk_at "st"
  refine k_extend ex e4 (by rw [List.length_map]; simp only [List.length_cons, List.length_nil]; omega) ?_
  have s5 : Same H (upd H4 p (.lst (E.map V.int ++ [V.int 0, V.int 0]))) := Same.mut (s.trans s4) hp ⟨_, ex⟩
  have e5 := upd_same (H := H4) (a := p) (o := .lst (E.map V.int ++ [V.int 0, V.int 0]))
  rw [show E.map V.int ++ [V.int 0, V.int 0] = (E ++ fldO (aheadN bs 1) 2).map V.int by rw [List.map_append]; rfl] at s5 e5 ⊢
  generalize upd H4 p (.lst ((E ++ fldO (aheadN bs 1) 2).map V.int)) = H5 at s5 e5 ⊢
  walk_at "st"
  refine k_lenL (.of (s5.get ha)) ?_
  walk_at "st"
  rw [List.length_map]
  refine m_rng3e (rgC_32 (by omega)) ?_
  refine loop_walk walk_rangeC (fun i σ H6 => ∃ v2, i ≤ (bs.length + 31) / 32 ∧ Same H H6 ∧ H6 p = some (.lst ((E ++ fldO (aheadN bs (i + 1)) 2).map V.int)) ∧ σ = [some (.ref a), some (.ref p), v2, v3, v4, some (.int (sumTo bs (32 * i)))]) ⟨_, Nat.zero_le _, s5, e5, rfl⟩ (fun _ _ _ _ => trivial) ?_ ?_
  · rintro i x σ H6 H7 hi ⟨v2, _, s, e, rfl⟩ ⟨hH, rfl⟩
    subst hH
    dsimp only
    rw [show (0 : Int) + ((i : Nat) : Int) * 32 = ((32 * i : Nat) : Int) by omega]
    walk_at "st"
    refine k_slL (.of (s.get ha)) fun p1 hp1 => ?_
    rw [show ((32 * i : Nat) : Int) + 32 = ((32 * i + 32 : Nat) : Int) by omega, cutPart, ← List.map_take, ← List.map_drop, show (bs.take (32 * i + 32)).drop (32 * i) = (bs.drop (32 * i)).take 32 by rw [List.drop_take]; congr 1; omega]
    have s1 := same_new (o := .lst (((bs.drop (32 * i)).take 32).map V.int)) hp1
    have ex := s1.get e
    walk_at "st"
    refine k_sum (.of upd_same) ?_
    generalize upd H7 p1 (.lst (((bs.drop (32 * i)).take 32).map V.int)) = H8 at s1 ex ⊢
    walk_at "st"
    rw [← sumTo_add, show 32 * i + 32 = 32 * (i + 1) by omega]
    walk_at "st"
    refine k_tyL (.of ex) ?_
    walk_at "st"
    obtain ⟨r1, r2⟩ := sumTo_range hB (32 * (i + 1))
    refine ⟨_, rfl, r1, by omega, fun p9 H9 hp9 s9 e9 => ?_⟩
    walk_at "st"
    have hal := fldO_len (aheadN bs (i + 1)) 2
    rw [aheadN_len] at hal
    refine k_extend (s9.get ex) e9 (by rw [List.length_map, List.length_map, List.length_append, octs_len]; omega) ?_
    refine ⟨_, hi, Same.mut (s.trans (s1.trans s9)) hp ⟨_, s9.get ex⟩, ?_, rfl⟩
    rw [upd_same, aheadN_succ bs (i + 1), fldO_snoc]
    simp only [List.map_append, List.append_assoc]
  rintro σ H6 ⟨v2, _, s, e, rfl⟩
  have hal := fldO_len (aheadN bs ((bs.length + 31) / 32 + 1)) 2
  rw [aheadN_len] at hal
  walk_at "st"
  intro p7 hp7
  have s7 := same_new (o := .lst [.int 1]) hp7
  have e7 := upd_same (H := H6) (a := p7) (o := .lst [.int 1])
  generalize upd H6 p7 (.lst [.int 1]) = H7 at s7 e7 ⊢
  walk_at "st"
  refine k_lenL (.of ((s.trans s7).get ha)) ?_
  walk_at "st"
  rw [List.length_map]
  refine ⟨_, rfl, by omega, by omega, fun p8 H8 hp8 s8 e8 => ?_⟩
  walk_at "st"
  refine k_cat (s8.get e7) e8 (by rw [List.length_map, octs_len]; simp only [List.length_cons, List.length_nil]; omega) fun p9 hp9 => ?_
  have s9 := same_new (o := .lst ([V.int 1] ++ (octs (bs.length : Int) 2).map V.int)) hp9
  have e9 := upd_same (H := H8) (a := p9) (o := .lst ([V.int 1] ++ (octs (bs.length : Int) 2).map V.int))
  have exx := ((s7.trans s8).trans s9).get e
  have sx := s.trans ((s7.trans s8).trans s9)
  generalize upd H8 p9 (.lst ([V.int 1] ++ (octs (bs.length : Int) 2).map V.int)) = H9 at s9 e9 exx sx ⊢
  walk_at "st"
  refine k_cat e9 exx (by rw [List.length_append, List.length_map, List.length_map, List.length_append, octs_len]; simp only [List.length_cons, List.length_nil]; omega) fun pz hpz => ?_
  refine q pz _ (sx.gone _ hpz) (sx.trans (same_new hpz)) ?_
  rw [upd_same]
  unfold rowO
  rw [eEb, show fldO [(bs.length : Int)] 2 = octs (bs.length : Int) 2 by unfold fldO; simp]
  simp only [List.map_append, List.map_cons, List.append_assoc, List.cons_append, List.nil_append]
  rfl

--#base
/-- an octet's bits -/
def b8 (o : Int) : List Int := (List.range 8).map (bit o)
def dec8 (L : List Int) : List Int := (L.map b8).flatten
theorem b8_len (o : Int) : (b8 o).length = 8 := by unfold b8; simp
theorem b8_bits (o : Int) : Bits (b8 o) := fun x hx => by
  obtain ⟨k, _, rfl⟩ := List.mem_map.mp hx
  exact bit_cases o k
theorem dec8_bits (L : List Int) : Bits (dec8 L) := fun x hx => by
  obtain ⟨l, hl, hx⟩ := List.mem_flatten.mp hx
  obtain ⟨o, _, rfl⟩ := List.mem_map.mp hl
  exact b8_bits o x hx
theorem dec8_len (L : List Int) : (dec8 L).length = 8 * L.length := by
  induction L with
  | nil => rfl
  | cons o L ih =>
    show (b8 o ++ dec8 L).length = 8 * (L.length + 1)
    rw [List.length_append, b8_len, ih]; omega
theorem dec8_snoc (L : List Int) (o : Int) : dec8 (L ++ [o]) = dec8 L ++ b8 o := by
  unfold dec8; rw [List.map_append, List.flatten_append]; simp
theorem b8_blk {bs : List Int} (hB : Bits bs) (h : bs.length ≤ 8) : (b8 (blk bs)).take bs.length = bs := by
  refine List.ext_getElem? fun i => ?_
  rcases Nat.lt_or_ge i bs.length with hi | hi
  · rw [List.getElem?_take_of_lt hi]
    unfold b8
    rw [List.getElem?_map, List.getElem?_range (by omega), Option.map_some, bit_blk bs i hB, List.getD_eq_getElem?_getD, List.getElem?_eq_getElem hi]; rfl
  · rw [List.getElem?_eq_none (by rw [List.length_take]; omega), List.getElem?_eq_none hi]
theorem dec8_octs : ∀ (k : Nat) (bs : List Int), Bits bs → bs.length ≤ 8 * k → (dec8 ((List.range k).map (octAt bs))).take bs.length = bs
  | 0, bs, _, h => by
    have : bs = [] := List.length_eq_zero_iff.mp (by omega)
    subst this; rfl
  | k + 1, bs, hB, h => by
    have e : dec8 ((List.range (k + 1)).map (octAt bs)) = b8 (blk (bs.take 8)) ++ dec8 ((List.range k).map (octAt (bs.drop 8))) := by
      rw [List.range_succ_eq_map, List.map_cons, List.map_map]
      show b8 (octAt bs 0) ++ dec8 ((List.range k).map (octAt bs ∘ Nat.succ)) = _
      congr 2
      refine List.map_congr_left fun i _ => ?_
      show octAt bs (i + 1) = octAt (bs.drop 8) i
      rw [show bs.drop 8 = bs.drop (8 * 1) from rfl, octAt_drop, Nat.add_comm]
    rw [e]
    rcases Nat.lt_or_ge bs.length 9 with hb | hb
    · rw [List.take_append_of_le_length (by rw [b8_len]; omega), List.take_of_length_le (show bs.length ≤ 8 by omega)]
      exact b8_blk hB (by omega)
    · have e8 : b8 (blk (bs.take 8)) = bs.take 8 := by
        have := b8_blk (hB.take 8) (by rw [List.length_take]; omega)
        rw [show (bs.take 8).length = 8 by rw [List.length_take]; omega, List.take_of_length_le (by rw [b8_len]; exact Nat.le_refl _)] at this
        exact this
      have ih := dec8_octs k (bs.drop 8) (hB.drop 8) (by rw [List.length_drop]; omega)
      rw [e8, List.take_append, List.take_of_length_le (show (bs.take 8).length ≤ bs.length by rw [List.length_take]; omega), show bs.length - (bs.take 8).length = (bs.drop 8).length by rw [List.length_take, List.length_drop]; omega, ih, List.take_append_drop]
/-- a row's octets tell its bits, eight by eight -/
theorem rowO_dec {bs : List Int} (hB : Bits bs) : (dec8 (((rowO bs).take (3 + (bs.length + 7) / 8)).drop 3)).take bs.length = bs := by
  have e : ((rowO bs).take (3 + (bs.length + 7) / 8)).drop 3 = (List.range ((bs.length + 7) / 8)).map (octAt bs) := by
    have h := rowO_mid bs
    have h2 : ((rowO bs).take (3 + (bs.length + 7) / 8)).drop 3 = (((rowO bs).take (3 + 4 * ((bs.length + 31) / 32))).drop 3).take ((bs.length + 7) / 8) := by
      rw [List.take_drop, List.take_take]
      congr 2; omega
    rw [h2, h, show fldO (blks bs) 4 = (List.range (4 * ((bs.length + 31) / 32))).map (octAt bs) from fldO_blks hB _, ← List.map_take, List.take_range]
    congr 2; omega
  rw [e]
  exact dec8_octs _ bs hB (by omega)


/-- a refusal told -/
def tk1 : List V := [.int 1, .bl true, .bl true, .bl false]
/-- what is told of octets: the row, or a refusal -/
def ResR (H : Hp) (p : Addr) (os : List Int) : Prop := ((∀ bs, ¬ IsRow os bs) ∧ H p = some (.tup tk1)) ∨ (∃ bs, IsRow os bs ∧ H p = some (.lst (bs.map V.int)))
theorem ResR.same {H H' : Hp} {p : Addr} {os : List Int} (h : ResR H p os) (s : Same H H') : ResR H' p os := by
  rcases h with ⟨h1, h2⟩ | ⟨bs, h1, h2⟩
  · exact .inl ⟨h1, s.get h2⟩
  · exact .inr ⟨bs, h1, s.get h2⟩
/-- _law_due(octets) -/
def sp_law_due (K : PySem.W.Frag) : Sp := fun vs H Q _ => ∃ (a : Addr) (os : List Int), vs = [.ref a] ∧ H a = some (.lst (os.map V.int)) ∧ os.length ≤ 50000 ∧ ∀ p H', H p = none → Same H H' → ResR H' p os → Q (.ref p) H'
theorem len_law_due (K : PySem.W.Frag) : ∀ vs H Q E, sp_law_due K vs H Q E → vs.length = 1 := by
  rintro vs H Q E ⟨a, bs, rfl, _⟩; rfl
def t_law_due (K : PySem.W.Frag) : TS :=
  (tSeq (tIfS (tOr (tTest (tOp rLt (tCB (rLen K) (tCons (tVar 0) tNil)) (tC (.int 3)))) (tTest (tOp (rNeD K) (tLc (iList K (tVar 0)) (gName 1) (tOr (tTest (tOp rLt (tVar 1) (tC (.int 0)))) (tTest (tOp rGtI (tVar 1) (tC (.int 255))))) (tVar 1) [1]) (tLst tNil))))
  (tRet (tTup (tCons (tC (.int 1)) (tCons (tC (.bl true)) (tCons (tC (.bl true)) (tCons (tC (.bl false)) tNil))))))
  tNext)
  (tSeq (tAsg (tOp rPlus (tOp (rIxL K) (tVar 0) (tC (.int 1))) (tOp rTimes (tC (.int 256)) (tOp (rIxL K) (tVar 0) (tC (.int 2))))) (gName 2))
  (tSeq (tAsg (tLst tNil) (gName 3))
  (tSeq (tFor (iList K (tSl (rSlL K) (tVar 0) (tPart (tC (.int 3))) (tPart (tOp rPlus (tC (.int 3)) (tOp rDiv (tOp rPlus (tCB rMin2 (tCons (tVar 2) (tCons (tC (.int 4096)) tNil))) (tC (.int 7))) (tC (.int 8))))))) (gName 1)
  (tFor (iRng1 (tCons (tC (.int 8)) tNil)) (gName 4)
  (tSeq (tDrop (tBM K "list" rAppend (tVar 3) (tCons (tOp rMod (tVar 1) (tC (.int 2))) tNil)))
  (tAsg (tOp rDiv (tVar 1) (tC (.int 2))) (gName 1)))))
  (tSeq (tAsg (tSl (rSlL K) (tVar 3) tNoPart (tPart (tVar 2))) (gName 3))
  (tSeq (tIfS (tTest (tOp (rNeD K) (tCall (sp_law_written K) [] E0 (tCons (tVar 3) tNil)) (tVar 0)))
  (tRet (tTup (tCons (tC (.int 1)) (tCons (tC (.bl true)) (tCons (tC (.bl true)) (tCons (tC (.bl false)) tNil))))))
  tNext)
  (tRet (tVar 3))))))))
abbrev n_law_due : List Str := ["_law_octets_here", "_law_octet", "_law_many", "_law_bits_here", "_law_k"]

theorem rd_law_due (K : PySem.W.Frag) (vs : List V) (H : Hp) (Q : VK) (E : XK) (h : sp_law_due K vs H Q E) : t_law_due K { nx := fun _ H' => Q .non H', rt := Q } (start n_law_due vs) H := by
  obtain ⟨a, os, rfl, hS, hl, q⟩ := h
  unfold t_law_due
  walk_at "st"
  refine k_lenL (.of hS) ?_
  walk_at "st"
  rw [List.length_map]
  walk_at "if" <;> intro c0
  · walk_at "st"
    intro p hp
    refine q p _ hp (same_new hp) (.inl ⟨?_, upd_same⟩)
    rintro bs ⟨_, _, rfl⟩
    rw [rowO_len] at c0; omega
  walk_at "st"
  refine m_iLe (.of hS) ?_
  refine comp_walkV (f := fun k => (os[k]?).bind fun b => if b < 0 ∨ 255 < b then some (V.int b) else none) (walk_list (K := K) (xs := os.map V.int)) (by rw [List.length_map]; omega) (fun H' s' => .of (s'.get hS)) (fun k v Hb Hc Qb hk sk hy qb => ?_) (fun pm Hb hpm sb eb => ?_)
  · obtain ⟨rfl, ev⟩ := hy
    obtain ⟨b, hb, rfl⟩ := of_mapint ev
    have go : ∀ cc : Bool, (cc = true ↔ (b < 0 ∨ 255 < b)) → Qb cc Hc := fun cc hcc => by
      refine qb _ _ (Same.refl _) (fun hc Q2 H4 s4 => ⟨V.int b, ?_, fun q2 => ?_⟩) (fun hc => ?_)
      · show (os[k]?).bind _ = _
        rw [hb]
        exact if_pos (hcc.mp hc)
      · walk_at "st"
        exact q2 _ (Same.refl _)
      · show (os[k]?).bind _ = _
        rw [hb]
        exact if_neg fun z => by rw [hcc.mpr z] at hc; cases hc
    walk_at "st"
    by_cases d1 : b < 0
    · rw [if_pos (decide_eq_true d1)]
      exact go true ⟨fun _ => .inl d1, fun _ => rfl⟩
    · rw [if_neg (by simpa using d1)]
      walk_at "st"
      refine go _ ⟨fun z => .inr (of_decide_eq_true z), fun z => decide_eq_true (by omega)⟩
  rw [List.length_map] at eb
  obtain ⟨L, eL, hLB⟩ : ∃ L : List Int, (List.range os.length).filterMap (fun k => (os[k]?).bind fun b => if b < 0 ∨ 255 < b then some (V.int b) else none) = L.map V.int ∧ (L = [] ↔ Octs os) := by
    refine ⟨(List.range os.length).filterMap (fun k => (os[k]?).bind fun b => if b < 0 ∨ 255 < b then some b else none), ?_, fun z b hb => ?_, fun z => ?_⟩
    · rw [List.map_filterMap]
      congr 1
      funext k
      cases os[k]? with
      | none => rfl
      | some b =>
        show (if b < 0 ∨ 255 < b then some (V.int b) else none) = Option.map V.int (if b < 0 ∨ 255 < b then some b else none)
        split <;> rfl
    · obtain ⟨k, hk⟩ := List.mem_iff_getElem?.mp hb
      have := List.filterMap_eq_nil_iff.mp z k (List.mem_range.mpr (List.getElem?_eq_some_iff.mp hk).1)
      rw [hk] at this
      have this : (if b < 0 ∨ 255 < b then some b else none) = none := this
      by_cases c1 : b < 0 ∨ 255 < b
      · rw [if_pos c1] at this; cases this
      · omega
    · refine List.filterMap_eq_nil_iff.mpr fun k hk => ?_
      cases e : os[k]? with
      | none => rfl
      | some b =>
        show (if b < 0 ∨ 255 < b then some b else none) = none
        exact if_neg fun w => by have := z b (List.mem_of_getElem? e); omega
  rw [eL] at eb
  walk_at "st"
  intro pz hpz
  have s1 := sb.trans (same_new (o := .lst []) hpz)
  refine k_neL (ns := L) (ms := []) (.of ((same_new (o := .lst []) hpz).get eb)) (.of upd_same) ?_
  generalize upd Hb pz (.lst []) = H1 at s1 ⊢
  walk_at "st"
  by_cases cB : Octs os
  case neg =>
    rw [@decide_eq_false _ _ (fun z => cB (hLB.mp z))]
    walk_at "st"
    intro p hp
    refine q p _ (s1.gone _ hp) (s1.trans (same_new hp)) (.inl ⟨?_, upd_same⟩)
    rintro bs ⟨_, _, rfl⟩
    exact cB (rowO_oct bs)
  rw [@decide_eq_true _ _ (hLB.mpr cB)]
  walk_at "st"
  have l1 : 1 < os.length := by omega
  have l2 : 2 < os.length := by omega
  refine k_ixL (.of (s1.get hS)) (at_int (i := 1) (by decide) (mapint (List.getElem?_eq_getElem l1))) ?_
  walk_at "st"
  refine k_ixL (.of (s1.get hS)) (at_int (i := 2) (by decide) (mapint (List.getElem?_eq_getElem l2))) ?_
  walk_at "st"
  obtain ⟨m, hm⟩ : ∃ m : Nat, (os[1] + (256 : Int) * os[2] : Int) = (m : Int) := by
    have b1 := cB _ (List.getElem_mem l1)
    have b2 := cB _ (List.getElem_mem l2)
    exact ⟨(os[1] + (256 : Int) * os[2]).toNat, by omega⟩
  rw [hm]
  have hmany : ∀ cs, IsRow os cs → cs.length = m := fun cs hR => by
    have e := cut_two (L := os) (n := 1) (List.getElem?_eq_getElem l1) (List.getElem?_eq_getElem l2)
    have e2 : num ((os.take 3).drop 1) = (m : Int) := by
      rw [show os.take 3 = os.take (1 + 2) from rfl, e, ← hm]
      show os[1] + (256 : Int) * (os[2] + 256 * 0) = _
      omega
    obtain ⟨hB, hb, rfl⟩ := hR
    rw [rowO_many hb] at e2; omega
  intro p hp
  have s2 := s1.trans (same_new (o := .lst []) hp)
  have e2 := upd_same (H := H1) (a := p) (o := .lst [])
  have hpH : H p = none := s1.gone _ hp
  generalize upd H1 p (.lst []) = H2 at s2 e2 ⊢
  walk_at "st"
  obtain ⟨w, hw, hw2, hw3⟩ : ∃ w : Nat, ((w : Nat) : Int) = ((if (4096 : Int) < (m : Int) then 4096 else (m : Int)) + 7) / 8 ∧ w ≤ 512 ∧ (m ≤ 4096 → w = (m + 7) / 8) := by
    by_cases c : (4096 : Int) < (m : Int)
    · rw [if_pos c]; exact ⟨512, by decide, by decide, fun z => by omega⟩
    · rw [if_neg c]; exact ⟨(m + 7) / 8, by omega, by omega, fun _ => rfl⟩
  refine k_slL (.of (s2.get hS)) fun l hl0 => ?_
  rw [← hw, show (3 : Int) + ((w : Nat) : Int) = ((3 + w : Nat) : Int) by omega, show (3 : Int) = ((3 : Nat) : Int) from rfl, cutPart, ← List.map_take, ← List.map_drop]
  obtain ⟨M, eM⟩ : ∃ M, M = (os.take (3 + w)).drop 3 := ⟨_, rfl⟩
  have hMl : M.length ≤ 512 := by rw [eM, List.length_drop, List.length_take]; omega
  rw [← eM]
  have npl : p ≠ l := ne_of_none e2 hl0
  have s3 := s2.trans (same_new (o := .lst (M.map V.int)) hl0)
  have e3 := upd_same (H := H2) (a := l) (o := .lst (M.map V.int))
  have ex := (same_new (o := .lst (M.map V.int)) hl0).get e2
  generalize upd H2 l (.lst (M.map V.int)) = H3 at s3 e3 ex ⊢
  refine m_iLe (.of e3) ?_
  refine loop_ints (ns := M) (fun i σ H' => ∃ y1 y4, σ = [some (.ref a), y1, some (.int (m : Int)), some (.ref p), y4] ∧ Same H H' ∧ H' l = some (.lst (M.map V.int)) ∧ i ≤ M.length ∧ H' p = some (.lst ((dec8 (M.take i)).map V.int))) ⟨_, none, rfl, s3, e3, Nat.zero_le _, ex⟩ (fun i σ H' ⟨_, _, _, _, e, _⟩ => .of e) ?_ ?_
  · rintro i o σ H' hn ⟨y1, y4, rfl, s, el, hi, ep⟩
    have hlt : i < M.length := (List.getElem?_eq_some_iff.mp hn).1
    walk_at "st"
    refine loop_range0 (fun k σ H'' => ∃ y4, σ = [some (.ref a), some (.int (o / 2 ^ k)), some (.int (m : Int)), some (.ref p), y4] ∧ Same H H'' ∧ H'' l = some (.lst (M.map V.int)) ∧ k ≤ 8 ∧ H'' p = some (.lst ((dec8 (M.take i) ++ (List.range k).map (bit o)).map V.int))) ⟨_, by rw [Int.pow_zero, Int.ediv_one]; rfl, s, el, Nat.zero_le _, by rw [List.range_zero, List.map_nil, List.append_nil]; exact ep⟩ ?_ ?_
    · rintro k σ H'' hk ⟨y4, rfl, s, el, _, ep⟩
      walk_at "st"
      refine k_tyL (.of ep) ?_
      walk_at "st"
      refine k_app ep (by rw [List.length_map, List.length_append, dec8_len, List.length_map, List.length_range, List.length_take]; omega) ?_
      walk_at "st"
      refine ⟨some (.int (k : Int)), ?_, Same.mut s hpH ⟨_, ep⟩, by rw [upd_ne npl.symm]; exact el, by omega, ?_⟩
      · rw [show o / 2 ^ (k + 1) = o / 2 ^ k / 2 by rw [Int.pow_succ, Int.ediv_ediv_of_nonneg (Int.le_of_lt (Int.pow_pos (by decide)))]]; rfl
      · rw [upd_same, List.range_succ, List.map_append, List.map_append, List.map_append, List.map_append, List.append_assoc]; rfl
    · rintro σ H'' ⟨y4, rfl, s, el, _, ep⟩
      refine ⟨_, _, rfl, s, el, hlt, ?_⟩
      rw [ep, List.take_succ, hn, show (some o).toList = [o] from rfl, dec8_snoc]; rfl
  rintro σ H' ⟨y1, y4, rfl, s, el, _, ep⟩
  rw [List.take_length] at ep
  walk_at "st"
  refine k_slL (.of ep) fun p5 hp5 => ?_
  rw [cutTake, ← List.map_take]
  have hbl : ((dec8 M).take m).length ≤ 4096 := by rw [List.length_take, dec8_len]; omega
  have hbB : Bits ((dec8 M).take m) := (dec8_bits M).take m
  have hdec : ∀ cs, IsRow os cs → (dec8 M).take m = cs := fun cs hR => by
    have e := hmany cs hR
    obtain ⟨hB, hb, rfl⟩ := hR
    rw [eM, hw3 (by omega), ← e]; exact rowO_dec hB
  generalize (dec8 M).take m = bs at hbl hbB hdec ⊢
  have hp5H := s.gone _ hp5
  have s5 := s.trans (same_new (o := .lst (bs.map V.int)) hp5)
  have e5 := upd_same (H := H') (a := p5) (o := .lst (bs.map V.int))
  generalize upd H' p5 (.lst (bs.map V.int)) = H5 at s5 e5 ⊢
  walk_at "st"
  refine ⟨p5, bs, rfl, e5, hbB, by omega, fun p6 H6 hp6 s6 e6 => ?_⟩
  walk_at "st"
  refine k_neL (ns := rowO bs) (ms := os) (.of e6) (.of ((s5.trans s6).get hS)) ?_
  by_cases c : rowO bs = os
  · rw [decide_eq_true c]
    walk_at "st"
    exact q p5 H6 hp5H (s5.trans s6) (.inr ⟨bs, ⟨hbB, hbl, c.symm⟩, s6.get e5⟩)
  · rw [decide_eq_false c]
    walk_at "st"
    intro p7 hp7
    refine q p7 _ ((s5.trans s6).gone _ hp7) ((s5.trans s6).trans (same_new hp7)) (.inl ⟨fun cs hR => c ?_, upd_same⟩)
    rw [hdec cs hR]; exact hR.2.2.symm

/-- _law_told(octets) -/
def sp_law_told (K : PySem.W.Frag) : Sp := fun vs H Q _ => ∃ (a : Addr) (os : List Int), vs = [.ref a] ∧ H a = some (.lst (os.map V.int)) ∧ os.length ≤ 50000 ∧ ∀ p H', H p = none → Same H H' → ResR H' p os → Q (.ref p) H'
theorem len_law_told (K : PySem.W.Frag) : ∀ vs H Q E, sp_law_told K vs H Q E → vs.length = 1 := by
  rintro vs H Q E ⟨a, bs, rfl, _⟩; rfl
def t_law_told (K : PySem.W.Frag) : TS :=
  (tSeq (tAsg (tTup (tCons (tC (.int 0)) (tCons (tC (.bl false)) (tCons (tC (.bl false)) (tCons (tC (.bl false)) tNil))))) (gName 1))
  (tSeq (tAsg (tLst tNil) (gName 2))
  (tSeq (tTryAs K (.ref (He.ga K "NoOctets")) 3 (fun W => (tAsg (tCallS (sp_read_row K) (WE W) (tCons (tVar 0) tNil)) (gName 2))) (fun a cls d => (tSeq (tAsg (tCB (rIsXT K cls d a) (tCons (tVar 3) (tCons (tTup (tCons (tC (.ref (He.ga K "TooMany"))) (tCons (tC (.ref (He.ga K "NoBit"))) (tCons (tC (.ref (He.ga K "NoPlace"))) (tCons (tC (.ref (He.ga K "NoNode"))) (tCons (tC (.ref (He.ga K "NoTree"))) (tCons (tC (.ref (He.ga K "NoSign"))) (tCons (tC (.ref (He.ga K "NoWord"))) (tCons (tC (.ref (He.ga K "Twice"))) tNil))))))))) tNil))) (gName 4))
  (tAsg (tTup (tCons (tC (.int 1)) (tCons (tCB (rIsX K cls d a) (tCons (tVar 3) (tCons (tC (.ref (He.ga K "WoodError"))) tNil))) (tCons (tCB (rIsX K cls d a) (tCons (tVar 3) (tCons (tC (.ty "ValueError")) tNil))) (tCons (tVar 4) tNil))))) (gName 1)))) (fun _ _ _ _ => False))
  (tSeq (tIfS (tTest (tOp rGtI (tOp (rIxT K) (tVar 1) (tC (.int 0))) (tC (.int 0))))
  (tRet (tVar 1))
  tNext)
  (tSeq (tIfS (tOr (tNot (tB (tCB rIsB (tCons (tVar 2) (tCons (tC (.ty "list")) tNil))))) (tTest (tOp rGtI (tCB (rLen K) (tCons (tLc (iList K (tVar 2)) (gName 5) (tNot (tB (tCall (sp_law_whole K) [] E0 (tCons (tVar 5) tNil)))) (tVar 5) [5]) tNil)) (tC (.int 0)))))
  (tRet (tTup (tCons (tC (.int 0)) (tCons (tC (.bl false)) (tCons (tC (.bl false)) (tCons (tC (.bl true)) tNil))))))
  tNext)
  (tRet (tVar 2)))))))
abbrev n_law_told : List Str := ["_law_octets_here", "_law_told_here", "_law_found", "e", "_law_others", "_law_bit"]

theorem rd_law_told (K : PySem.W.Frag) (F : KFx K) (vs : List V) (H : Hp) (Q : VK) (E : XK) (h : sp_law_told K vs H Q E) : t_law_told K { nx := fun _ H' => Q .non H', rt := Q } (start n_law_told vs) H := by
  obtain ⟨a, os, rfl, hS, hl, q⟩ := h
  unfold t_law_told
  walk_at "st"
  intro p1 hp1
  have s1 := same_new (o := .tup [.int 0, .bl false, .bl false, .bl false]) hp1
  have e1 := upd_same (H := H) (a := p1) (o := .tup [.int 0, .bl false, .bl false, .bl false])
  generalize upd H p1 (.tup [.int 0, .bl false, .bl false, .bl false]) = H1 at s1 e1 ⊢
  walk_at "st"
  intro p2 hp2
  have s2 := s1.trans (same_new (o := .lst []) hp2)
  have e12 := (same_new (o := .lst []) hp2).get e1
  generalize upd H1 p2 (.lst []) = H2 at s2 e12 ⊢
  walk_at "st"
  refine ⟨a, os, rfl, .of (s2.get hS), by omega, fun H3 s3 nR => ?_, fun bs hR p3 H3 hp3 s3 e3 => ?_⟩
  · refine m_caught F.e_NoOctets_NoOctets fun x hx => ?_
    have s13 := s2.trans s3
    walk_at "st"
    intro pt hpt
    walk_at "st"
    refine k_isXT [He.ga K "TooMany", He.ga K "NoBit", He.ga K "NoPlace", He.ga K "NoNode", He.ga K "NoTree", He.ga K "NoSign", He.ga K "NoWord", He.ga K "Twice"] upd_same F.ec_NoOctets (kitAny_no _ fun u hu => ?_) ?_
    · simp only [List.map_cons, List.map_nil, List.mem_cons, List.not_mem_nil, or_false] at hu
      rcases hu with rfl | rfl | rfl | rfl | rfl | rfl | rfl | rfl
      · exact F.k_NoOctets_TooMany
      · exact F.k_NoOctets_NoBit
      · exact F.k_NoOctets_NoPlace
      · exact F.k_NoOctets_NoNode
      · exact F.k_NoOctets_NoTree
      · exact F.k_NoOctets_NoSign
      · exact F.k_NoOctets_NoWord
      · exact F.k_NoOctets_Twice
    walk_at "st"
    refine k_isX F.ec_NoOctets F.k_NoOctets_WoodError ?_
    walk_at "st"
    refine k_isXty F.ec_NoOctets F.kt_NoOctets ?_
    walk_at "st"
    have s4 := s13.trans (same_new (o := .tup ([He.ga K "TooMany", He.ga K "NoBit", He.ga K "NoPlace", He.ga K "NoNode", He.ga K "NoTree", He.ga K "NoSign", He.ga K "NoWord", He.ga K "Twice"].map V.ref)) hpt)
    intro p4 hp4
    walk_at "st"
    refine k_ixT (.of upd_same) (x := .int 1) (at_int (by decide) rfl) ?_
    walk_at "st"
    refine k_decT (by decide) ?_
    walk_at "st"
    exact q p4 _ (s4.gone _ hp4) (s4.trans (same_new hp4)) (.inl ⟨nR, upd_same⟩)
  · have s13 := s2.trans s3
    have hp3H : H p3 = none := s2.gone _ hp3
    walk_at "st"
    refine k_ixT (.of (s3.get e12)) (x := .int 0) (at_int (by decide) rfl) ?_
    walk_at "st"
    refine k_decF (by decide) ?_
    walk_at "st"
    refine k_isList e3 ?_
    walk_at "st"
    refine m_iLe (.of e3) ?_
    have hbl : bs.length ≤ 4096 := hR.2.1
    refine comp_walkV (f := fun _ => none) (walk_list (K := K) (xs := bs.map V.int)) (by rw [List.length_map]; omega) (fun H' s' => .of (s'.get e3)) (fun k v Hb Hc Qb hk sk hy qb => ?_) (fun pm Hb hpm sb eb => ?_)
    · obtain ⟨rfl, ev⟩ := hy
      obtain ⟨b, hb, rfl⟩ := of_mapint ev
      walk_at "st"
      refine whole_int ?_
      walk_at "st"
      exact qb _ _ (Same.refl _) (fun hc => by cases hc) (fun _ => rfl)
    have eb : Hb pm = some (.lst []) := by
      rw [eb]
      congr 2
      exact List.filterMap_eq_nil_iff.mpr fun _ _ => rfl
    walk_at "st"
    refine k_lenL (.of eb) ?_
    walk_at "st"
    refine k_decF (by simp) ?_
    walk_at "st"
    exact q p3 Hb hp3H (s13.trans sb) (.inr ⟨bs, hR, sb.get e3⟩)
/-- cuts, joins and repeats of lists of ints -/
theorem k_slTake {K : PySem.W.Frag} {H : Hp} {Q : VK} {p : Addr} {bs : List Int} {k : Nat} (h : SqL K H p (bs.map V.int)) (q : ∀ l H', H l = none → Same H H' → H' l = some (.lst ((bs.take k).map V.int)) → Q (.ref l) H') : rSlL K (.ref p) none (some (k : Int)) H Q := by
  refine k_slL h fun l hl => ?_
  rw [cutTake, ← List.map_take]
  exact q l _ hl (same_new hl) upd_same
theorem k_slDrop {K : PySem.W.Frag} {H : Hp} {Q : VK} {p : Addr} {bs : List Int} {k : Nat} (h : SqL K H p (bs.map V.int)) (q : ∀ l H', H l = none → Same H H' → H' l = some (.lst ((bs.drop k).map V.int)) → Q (.ref l) H') : rSlL K (.ref p) (some (k : Int)) none H Q := by
  refine k_slL h fun l hl => ?_
  rw [cutDrop, ← List.map_drop]
  exact q l _ hl (same_new hl) upd_same
theorem new_both {H : Hp} {p : Addr} {o : HO} (h : H p = none) : Same H (upd H p o) ∧ (upd H p o) p = some o := ⟨same_new h, upd_same⟩
theorem k_catI {H : Hp} {Q : VK} {a b : Addr} {xs ys : List Int} (h1 : H a = some (.lst (xs.map V.int))) (h2 : H b = some (.lst (ys.map V.int))) (hn : xs.length + ys.length ≤ 1000000) (q : ∀ l H', H l = none → Same H H' → H' l = some (.lst ((xs ++ ys).map V.int)) → Q (.ref l) H') : rCat (.ref a) (.ref b) H Q := by
  refine k_cat h1 h2 (by rw [List.length_map, List.length_map]; exact hn) fun p hp => ?_
  rw [← List.map_append]
  exact q p _ hp (same_new hp) upd_same
theorem k_catKI {K : PySem.W.Frag} {H : Hp} {Q : VK} {a b : Addr} {xs ys : List Int} (h1 : SqL K H a (xs.map V.int)) (h2 : SqL K H b (ys.map V.int)) (hn : xs.length + ys.length ≤ 1000000) (q : ∀ l H', H l = none → Same H H' → H' l = some (.lst ((xs ++ ys).map V.int)) → Q (.ref l) H') : rCatK K (.ref a) (.ref b) H Q := by
  refine k_catK h1 h2 (by rw [List.length_map, List.length_map]; exact hn) fun p hp => ?_
  rw [← List.map_append]
  exact q p _ hp (same_new hp) upd_same
theorem k_repI {H : Hp} {Q : VK} {a : Addr} {xs : List Int} {n : Int} (h : H a = some (.lst (xs.map V.int))) (h0 : 0 ≤ n ∧ n ≤ 1000000) (hn : xs.length * n.toNat ≤ 1000000) (q : ∀ l H' (cs : List Int), H l = none → Same H H' → cs = (List.replicate n.toNat xs).flatten → cs.length = n.toNat * xs.length → H' l = some (.lst (cs.map V.int)) → Q (.ref l) H') : rRep (.ref a) (.int n) H Q := by
  obtain ⟨m, rfl⟩ := Int.eq_ofNat_of_zero_le h0.1
  rw [Int.toNat_natCast] at hn q
  refine k_rep h (by rw [List.length_map]; exact hn) (by omega) fun p hp => ?_
  have e : (List.replicate m (xs.map V.int)).flatten = ((List.replicate m xs).flatten).map V.int := by
    rw [List.map_flatten, List.map_replicate]
  rw [e]
  refine q p _ _ hp (same_new hp) rfl ?_ upd_same
  rw [List.length_flatten, List.map_replicate, List.sum_replicate_nat]
/-- a number in a tuple of numbers -/
theorem k_inT {K : PySem.W.Frag} {H : Hp} {Q : VK} {p : Addr} {x : Int} {xs : List V} (h : H p = some (.tup xs)) (hf : xs.all flatV = true) (q : ∀ b, Q (.bl b) H) : rIn K false (.int x) (.ref p) H Q := ⟨p, xs, rfl, .inr (.of h), rfl, hf, q _⟩

/-- _law_changed(octets, cell): some other octets, or the same -/
def sp_law_changed (K : PySem.W.Frag) : Sp := fun vs H Q _ => ∃ (a : Addr) (os : List Int) (c : Int), vs = [.ref a, .int c] ∧ H a = some (.lst (os.map V.int)) ∧ os.length ≤ 10000 ∧ ∀ p (ns : List Int) H', Same H H' → H' p = some (.lst (ns.map V.int)) → ns.length ≤ 3 * os.length + 3 → Q (.ref p) H'
theorem len_law_changed (K : PySem.W.Frag) : ∀ vs H Q E, sp_law_changed K vs H Q E → vs.length = 2 := by
  rintro vs H Q E ⟨x, y, z, rfl, _⟩; rfl
theorem k_slI {K : PySem.W.Frag} {H : Hp} {Q : VK} {a : Addr} {ns : List Int} {lo hi : Option Int} (h : H a = some (.lst (ns.map V.int))) (q : ∀ (cs : List Int) l H', cs.length ≤ ns.length → H l = none → Same H H' → H' l = some (.lst (cs.map V.int)) → Q (.ref l) H') : rSlL K (.ref a) lo hi H Q := by
  obtain ⟨cs, e, _, hl⟩ := cut_ints ns lo hi
  refine k_slL (.of h) fun l hl0 => ?_
  rw [e]
  exact q cs l _ hl hl0 (same_new hl0) upd_same
def t_law_changed (K : PySem.W.Frag) : TS :=
  (tSeq (tAsg (tOp rMod (tVar 1) (tC (.int 1000000000000000000000000000000000000000000000000000000000000))) (gName 2))
  (tSeq (tAsg (tOp rMod (tOp rDiv (tVar 2) (tC (.int 7))) (tOp rPlus (tCB (rLen K) (tCons (tVar 0) tNil)) (tC (.int 1)))) (gName 3))
  (tSeq (tAsg (tOp rMod (tOp rMod (tOp rTimes (tVar 2) (tC (.int 69621))) (tC (.int 2147483629))) (tC (.int 256))) (gName 4))
  (tSeq (tIfS (tAnd (tTest (tOp rEq (tOp rMod (tVar 2) (tC (.int 7))) (tC (.int 0)))) (tTest (tOp rLt (tVar 3) (tCB (rLen K) (tCons (tVar 0) tNil)))))
  (tSeq (tAsg (tOp rShlW (tC (.int 1)) (tOp rMod (tVar 4) (tC (.int 8)))) (gName 5))
  (tRet (tOp rCat (tOp rCat (tSl (rSlL K) (tVar 0) tNoPart (tPart (tVar 3))) (tLst (tCons (tOp rBitXor (tOp (rIxL K) (tVar 0) (tVar 3)) (tVar 5)) tNil))) (tSl (rSlL K) (tVar 0) (tPart (tOp rPlus (tVar 3) (tC (.int 1)))) tNoPart))))
  tNext)
  (tSeq (tIfS (tAnd (tTest (tOp rEq (tOp rMod (tVar 2) (tC (.int 7))) (tC (.int 1)))) (tTest (tOp rLt (tVar 3) (tCB (rLen K) (tCons (tVar 0) tNil)))))
  (tRet (tOp rCat (tOp rCat (tSl (rSlL K) (tVar 0) tNoPart (tPart (tVar 3))) (tLst (tCons (tOp (rIxL K) (tLst (tCons (tVar 4) (tCons (tOp rPlus (tC (.int 256)) (tVar 2)) (tCons (tOp rMinus (tC (.int (-1))) (tVar 2)) tNil)))) (tOp rMod (tVar 4) (tC (.int 3)))) tNil))) (tSl (rSlL K) (tVar 0) (tPart (tOp rPlus (tVar 3) (tC (.int 1)))) tNoPart)))
  tNext)
  (tSeq (tIfS (tTest (tOp rEq (tOp rMod (tVar 2) (tC (.int 7))) (tC (.int 2))))
  (tRet (tOp rCat (tOp rCat (tSl (rSlL K) (tVar 0) tNoPart (tPart (tVar 3))) (tLst (tCons (tVar 4) tNil))) (tSl (rSlL K) (tVar 0) (tPart (tVar 3)) tNoPart)))
  tNext)
  (tSeq (tIfS (tTest (tOp rEq (tOp rMod (tVar 2) (tC (.int 7))) (tC (.int 3))))
  (tRet (tOp rCat (tSl (rSlL K) (tVar 0) tNoPart (tPart (tVar 3))) (tSl (rSlL K) (tVar 0) (tPart (tOp rPlus (tVar 3) (tC (.int 1)))) tNoPart)))
  tNext)
  (tSeq (tIfS (tAnd (tTest (tOp rEq (tOp rMod (tVar 2) (tC (.int 7))) (tC (.int 4)))) (tTest (tOp rLt (tVar 3) (tCB (rLen K) (tCons (tVar 0) tNil)))))
  (tRet (tOp rCat (tOp rCat (tSl (rSlL K) (tVar 0) tNoPart (tPart (tVar 3))) (tRevL K (tSl (rSlL K) (tVar 0) (tPart (tVar 3)) (tPart (tOp rPlus (tVar 3) (tC (.int 2))))))) (tSl (rSlL K) (tVar 0) (tPart (tOp rPlus (tVar 3) (tC (.int 2)))) tNoPart)))
  tNext)
  (tSeq (tIfS (tTest (tOp rEq (tOp rMod (tVar 2) (tC (.int 7))) (tC (.int 5))))
  (tRet (tOp (rCatK K) (tVar 0) (tLst (tCons (tC (.int 0)) tNil))))
  tNext)
  (tRet (tVar 0)))))))))))
abbrev n_law_changed : List Str := ["_law_octets_here", "_law_cell", "_law_number", "_law_at", "_law_drawn", "_law_bit"]

theorem rd_law_changed (K : PySem.W.Frag) (vs : List V) (H : Hp) (Q : VK) (E : XK) (h : sp_law_changed K vs H Q E) : t_law_changed K { nx := fun _ H' => Q .non H', rt := Q } (start n_law_changed vs) H := by
  obtain ⟨a, os, c, rfl, hS, hl, q⟩ := h
  unfold t_law_changed
  walk_at "st"
  refine k_lenL (.of hS) ?_
  walk_at "st"
  rw [List.length_map]
  generalize c % 1000000000000000000000000000000000000000000000000000000000000 = n
  obtain ⟨k, hk, hkl⟩ : ∃ k : Nat, (n / 7 % ((os.length : Int) + 1)) = (k : Int) ∧ k ≤ os.length := by
    have m0 := Int.emod_nonneg (n / 7) (show ((os.length : Int) + 1) ≠ 0 by omega)
    have m1 := Int.emod_lt_of_pos (n / 7) (show (0 : Int) < (os.length : Int) + 1 by omega)
    exact ⟨(n / 7 % ((os.length : Int) + 1)).toNat, by omega, by omega⟩
  rw [hk]
  obtain ⟨d, hd, hd0, hd1⟩ : ∃ d : Int, n * 69621 % 2147483629 % 256 = d ∧ 0 ≤ d ∧ d < 256 := ⟨_, rfl, by omega, by omega⟩
  rw [hd]
  clear hd hk
  by_cases c0 : n % 7 = 0
  · rw [if_pos (decide_eq_true c0)]
    walk_at "st"
    refine k_lenL (.of hS) ?_
    walk_at "st"
    rw [List.length_map]
    by_cases c0' : (k : Int) < (os.length : Int)
    · rw [if_pos (decide_eq_true c0')]
      have hlt : k < os.length := by omega
      walk_at "st"
      have hsh : CShl 1 (d % 8) := by
        obtain ⟨j, hj, hj2⟩ : ∃ j : Nat, d % 8 = (j : Int) ∧ j ≤ 8 := ⟨(d % 8).toNat, by omega, by omega⟩
        rw [hj]
        exact shl_ok (n := 1) (by decide) (by omega)
      refine k_I hsh ?_
      walk_at "st"
      generalize (1 * 2 ^ (d % 8).toNat : Int) = sh
      refine k_slI hS fun A a1 H1 hA h1 s1 e1 => ?_
      walk_at "st"
      refine k_ixL (.of (s1.get hS)) (at_int (by omega) (i := (k : Int)) (by rw [Int.toNat_natCast]; exact mapint (List.getElem?_eq_getElem hlt))) ?_
      walk_at "st"
      generalize Builtin.bitXor os[k] sh = x
      intro a2 h2
      have e2 := upd_same (H := H1) (a := a2) (o := .lst [.int (x)])
      have s2 := same_new (o := .lst [.int (x)]) h2
      generalize upd H1 a2 (.lst [.int (x)]) = H2 at e2 s2 ⊢
      walk_at "st"
      refine k_catI (xs := A) (ys := [x]) (s2.get e1) e2 (by simp only [List.length_cons, List.length_nil]; omega) fun a3 H3 h3 s3 e3 => ?_
      walk_at "st"
      refine k_slI (((s1.trans s2).trans s3).get hS) fun B a4 H4 hB h4 s4 e4 => ?_
      walk_at "st"
      refine k_catI (s4.get e3) e4 (by rw [List.length_append]; simp only [List.length_cons, List.length_nil]; omega) fun a5 H5 h5 s5 e5 => ?_
      exact q a5 _ H5 (((s1.trans s2).trans (s3.trans s4)).trans s5) e5 (by rw [List.length_append, List.length_append]; simp only [List.length_cons, List.length_nil]; omega)
    · rw [if_neg (by rw [decide_eq_true_eq]; exact c0')]
      walk_at "st"
      rw [if_neg (by rw [decide_eq_true_eq]; omega)]
      walk_at "st"
      rw [if_neg (by rw [decide_eq_true_eq]; omega)]
      walk_at "st"
      rw [if_neg (by rw [decide_eq_true_eq]; omega)]
      walk_at "st"
      rw [if_neg (by rw [decide_eq_true_eq]; omega)]
      walk_at "st"
      rw [if_neg (by rw [decide_eq_true_eq]; omega)]
      walk_at "st"
      exact q a os H (Same.refl _) hS (by omega)
  rw [if_neg (by rw [decide_eq_true_eq]; exact c0)]
  walk_at "st"
  by_cases c1 : n % 7 = 1
  · rw [if_pos (decide_eq_true c1)]
    walk_at "st"
    refine k_lenL (.of hS) ?_
    walk_at "st"
    rw [List.length_map]
    by_cases c1' : (k : Int) < (os.length : Int)
    · rw [if_pos (decide_eq_true c1')]
      have hlt : k < os.length := by omega
      walk_at "st"
      refine k_slI hS fun A a1 H1 hA h1 s1 e1 => ?_
      walk_at "st"
      intro b1 hb1
      have sb1 := same_new (o := .lst [.int d, .int (256 + n), .int (-1 - n)]) hb1
      have e1b := sb1.get e1
      have s1b := s1.trans sb1
      walk_at "st"
      obtain ⟨y, hy⟩ : ∃ y : Int, atI [V.int d, V.int (256 + n), V.int (-1 - n)] (d % 3) = some (V.int y) := by
        obtain ⟨j, hj, hj2⟩ : ∃ j : Nat, d % 3 = (j : Int) ∧ j < 3 := ⟨(d % 3).toNat, by omega, by omega⟩
        rw [hj]
        match j, hj2 with
        | 0, _ => exact ⟨_, at_int (by decide) rfl⟩
        | 1, _ => exact ⟨_, at_int (by decide) rfl⟩
        | 2, _ => exact ⟨_, at_int (by decide) rfl⟩
      refine k_ixL (.of upd_same) hy ?_
      generalize upd H1 b1 (.lst [.int d, .int (256 + n), .int (-1 - n)]) = H1c at e1b s1b ⊢
      walk_at "st"
      intro a2 h2
      have e2 := upd_same (H := H1c) (a := a2) (o := .lst [.int (y)])
      have s2 := same_new (o := .lst [.int (y)]) h2
      generalize upd H1c a2 (.lst [.int (y)]) = H2 at e2 s2 ⊢
      walk_at "st"
      refine k_catI (xs := A) (ys := [y]) (s2.get e1b) e2 (by simp only [List.length_cons, List.length_nil]; omega) fun a3 H3 h3 s3 e3 => ?_
      walk_at "st"
      refine k_slI (((s1b.trans s2).trans s3).get hS) fun B a4 H4 hB h4 s4 e4 => ?_
      walk_at "st"
      refine k_catI (s4.get e3) e4 (by rw [List.length_append]; simp only [List.length_cons, List.length_nil]; omega) fun a5 H5 h5 s5 e5 => ?_
      exact q a5 _ H5 (((s1b.trans s2).trans (s3.trans s4)).trans s5) e5 (by rw [List.length_append, List.length_append]; simp only [List.length_cons, List.length_nil]; omega)
    · rw [if_neg (by rw [decide_eq_true_eq]; exact c1')]
      walk_at "st"
      rw [if_neg (by rw [decide_eq_true_eq]; omega)]
      walk_at "st"
      rw [if_neg (by rw [decide_eq_true_eq]; omega)]
      walk_at "st"
      rw [if_neg (by rw [decide_eq_true_eq]; omega)]
      walk_at "st"
      rw [if_neg (by rw [decide_eq_true_eq]; omega)]
      walk_at "st"
      exact q a os H (Same.refl _) hS (by omega)
  rw [if_neg (by rw [decide_eq_true_eq]; exact c1)]
  walk_at "st"
  by_cases c2 : n % 7 = 2
  · rw [if_pos (decide_eq_true c2)]
    walk_at "st"
    refine k_slI hS fun A a1 H1 hA h1 s1 e1 => ?_
    walk_at "st"
    intro a2 h2
    have e2 := upd_same (H := H1) (a := a2) (o := .lst [.int (d)])
    have s2 := same_new (o := .lst [.int (d)]) h2
    generalize upd H1 a2 (.lst [.int (d)]) = H2 at e2 s2 ⊢
    walk_at "st"
    refine k_catI (xs := A) (ys := [d]) (s2.get e1) e2 (by simp only [List.length_cons, List.length_nil]; omega) fun a3 H3 h3 s3 e3 => ?_
    walk_at "st"
    refine k_slI (((s1.trans s2).trans s3).get hS) fun B a4 H4 hB h4 s4 e4 => ?_
    walk_at "st"
    refine k_catI (s4.get e3) e4 (by rw [List.length_append]; simp only [List.length_cons, List.length_nil]; omega) fun a5 H5 h5 s5 e5 => ?_
    exact q a5 _ H5 (((s1.trans s2).trans (s3.trans s4)).trans s5) e5 (by rw [List.length_append, List.length_append]; simp only [List.length_cons, List.length_nil]; omega)
  rw [if_neg (by rw [decide_eq_true_eq]; exact c2)]
  walk_at "st"
  by_cases c3 : n % 7 = 3
  · rw [if_pos (decide_eq_true c3)]
    walk_at "st"
    refine k_slI hS fun A a1 H1 hA h1 s1 e1 => ?_
    walk_at "st"
    refine k_slI (s1.get hS) fun B a4 H4 hB h4 s4 e4 => ?_
    walk_at "st"
    refine k_catI (s4.get e1) e4 (by omega) fun a5 H5 h5 s5 e5 => ?_
    exact q a5 _ H5 ((s1.trans s4).trans s5) e5 (by rw [List.length_append]; omega)
  rw [if_neg (by rw [decide_eq_true_eq]; exact c3)]
  walk_at "st"
  by_cases c4 : n % 7 = 4
  · rw [if_pos (decide_eq_true c4)]
    walk_at "st"
    refine k_lenL (.of hS) ?_
    walk_at "st"
    rw [List.length_map]
    by_cases c4' : (k : Int) < (os.length : Int)
    · rw [if_pos (decide_eq_true c4')]
      have hlt : k < os.length := by omega
      walk_at "st"
      refine k_slI hS fun A a1 H1 hA h1 s1 e1 => ?_
      walk_at "st"
      refine k_slI (s1.get hS) fun M a2 H2 hM h2 s2 e2 => ?_
      refine ⟨a2, _, rfl, .of e2, fun a3 h3 => ?_⟩
      rw [← List.map_reverse]
      have s3 := same_new (o := .lst (M.reverse.map V.int)) h3
      have e3 := upd_same (H := H2) (a := a3) (o := .lst (M.reverse.map V.int))
      generalize upd H2 a3 (.lst (M.reverse.map V.int)) = H3 at s3 e3 ⊢
      refine k_catI ((s2.trans s3).get e1) e3 (by rw [List.length_reverse]; omega) fun a4 H4 h4 s4 e4 => ?_
      walk_at "st"
      refine k_slI (((s1.trans s2).trans (s3.trans s4)).get hS) fun B a5 H5 hB h5 s5 e5 => ?_
      walk_at "st"
      refine k_catI (s5.get e4) e5 (by rw [List.length_append, List.length_reverse]; omega) fun a6 H6 h6 s6 e6 => ?_
      exact q a6 _ H6 (((s1.trans s2).trans (s3.trans s4)).trans (s5.trans s6)) e6 (by rw [List.length_append, List.length_append, List.length_reverse]; omega)
    · rw [if_neg (by rw [decide_eq_true_eq]; exact c4')]
      walk_at "st"
      rw [if_neg (by rw [decide_eq_true_eq]; omega)]
      walk_at "st"
      exact q a os H (Same.refl _) hS (by omega)
  rw [if_neg (by rw [decide_eq_true_eq]; exact c4)]
  walk_at "st"
  by_cases c5 : n % 7 = 5
  · rw [if_pos (decide_eq_true c5)]
    walk_at "st"
    intro a1 h1
    have s1 := same_new (o := .lst [.int 0]) h1
    have e1 := upd_same (H := H) (a := a1) (o := .lst [.int 0])
    generalize upd H a1 (.lst [.int 0]) = H1 at s1 e1 ⊢
    refine k_catK (xs := os.map V.int) (zs := ([0] : List Int).map V.int) (.of (s1.get hS)) (.of e1) (by rw [List.length_map, List.length_map]; simp only [List.length_cons, List.length_nil]; omega) fun p hp => ?_
    exact q p (os ++ [0]) _ (s1.trans (same_new hp)) (by rw [upd_same, List.map_append]) (by rw [List.length_append]; simp only [List.length_cons, List.length_nil]; omega)
  rw [if_neg (by rw [decide_eq_true_eq]; exact c5)]
  walk_at "st"
  walk_at "st"
  exact q a os H (Same.refl _) hS (by omega)

/-- what stands while octets are made -/
def OcI (H : Hp) (a : Addr) (w : Int) (B : Nat) (σ' : L2.St) (H' : Hp) : Prop := ∃ (p : Addr) (os : List Int) (v3 v4 v5 v6 : Option V), σ' = [some (.ref a), some (.int w), some (.ref p), v3, v4, v5, v6] ∧ Same H H' ∧ H' p = some (.lst (os.map V.int)) ∧ os.length ≤ B ∧ (w = 6 → B ≤ 40000 → Octs os)
/-- _law_octets(script): some octets -/
def sp_law_octets (K : PySem.W.Frag) : Sp := fun vs H Q _ => ∃ (a : Addr) (ns : List Int), vs = [.ref a] ∧ SqL K H a (ns.map V.int) ∧
  ∀ (os : List Int) p H', os.length ≤ 50000 → Same H H' → H' p = some (.lst (os.map V.int)) → Q (.ref p) H'
theorem len_law_octets (K : PySem.W.Frag) : ∀ vs H Q E, sp_law_octets K vs H Q E → vs.length = 1 := by
  rintro vs H Q E ⟨x, y, rfl, _⟩; rfl
def t_law_octets (K : PySem.W.Frag) : TS :=
  (tSeq (tAsg (tOp rMod (tCall (sp_law_cell_at K) [] E0 (tCons (tVar 0) (tCons (tC (.int 0)) tNil))) (tC (.int 9))) (gName 1))
  (tSeq (tAsg (tOp rCat (tLst (tCons (tC (.int 1)) tNil)) (tLc (iList K (tSl (rSlL K) (tVar 0) tNoPart (tPart (tC (.int 63))))) (gName 3) tYes (tOp rMod (tVar 3) (tC (.int 256))) [3])) (gName 2))
  (tSeq (tAsg (tCall (sp_law_bits K) [] E0 (tCons (tVar 0) tNil)) (gName 4))
  (Evl.tCut (tIfS (tAnd (tTest (tOp rEq (tVar 1) (tC (.int 5)))) (tTest (tOp rGtI (tOp rMod (tCall (sp_law_cell_at K) [] E0 (tCons (tVar 0) (tCons (tC (.int 1)) tNil))) (tC (.int 3))) (tC (.int 0)))))
  (tAsg (tSl (rSlL K) (tOp rCat (tVar 4) (tOp rRep (tLst (tCons (tC (.int 0)) (tCons (tC (.int 1)) tNil))) (tC (.int 2049)))) tNoPart (tPart (tOp rPlus (tC (.int 4095)) (tOp rMod (tCall (sp_law_cell_at K) [] E0 (tCons (tVar 0) (tCons (tC (.int 1)) tNil))) (tC (.int 3)))))) (gName 4))
  tNext)
  (Evl.tCut (tIfS (tTest (tOp rLt (tVar 1) (tC (.int 6))))
  (tAsg (tCall (sp_law_written K) [] E0 (tCons (tVar 4) tNil)) (gName 2))
  tNext)
  (Evl.tCut (tIfS (tTest (tOp rLt (tVar 1) (tC (.int 3))))
  (tFor (iRng1 (tCons (tOp rPlus (tC (.int 1)) (tOp rMod (tCall (sp_law_cell_at K) [] E0 (tCons (tVar 0) (tCons (tC (.int 1)) tNil))) (tC (.int 3)))) tNil)) (gName 5)
  (tAsg (tCall (sp_law_changed K) [] E0 (tCons (tVar 2) (tCons (tCall (sp_law_cell_at K) [] E0 (tCons (tVar 0) (tCons (tOp rPlus (tC (.int 2)) (tVar 5)) tNil))) tNil))) (gName 2)))
  tNext)
  (Evl.tCut (tIfS (tAnd (tTest (tOp rEq (tVar 1) (tC (.int 6)))) (tTest (tOp rGtI (tCB (rLen K) (tCons (tVar 2) tNil)) (tC (.int 2)))))
  (tSeq (tAsg (tOp rPlus (tOp (rIxL K) (tVar 2) (tC (.int 1))) (tOp rTimes (tC (.int 256)) (tOp rMod (tOp (rIxL K) (tVar 2) (tC (.int 2))) (tC (.int 2))))) (gName 6))
  (tAsg (tOp rCat (tOp rCat (tLst (tCons (tC (.int 1)) tNil)) (tCall (sp_law_two K) [] E0 (tCons (tVar 6) tNil))) (tSl (rSlL K) (tOp rCat (tSl (rSlL K) (tVar 2) (tPart (tC (.int 3))) tNoPart) (tOp rRep (tLst (tCons (tC (.int 0)) tNil)) (tC (.int 200)))) tNoPart (tPart (tOp rPlus (tOp rTimes (tOp rDiv (tOp rPlus (tVar 6) (tC (.int 31))) (tC (.int 32))) (tC (.int 6))) (tC (.int 2)))))) (gName 2)))
  tNext)
  (Evl.tCut (tIfS (tTest (tOp rEq (tVar 1) (tC (.int 8))))
  (tAsg (tLst (tCons (tC (.int 1)) (tCons (tOp rMinus (tC (.int 255)) (tOp rMod (tCall (sp_law_cell_at K) [] E0 (tCons (tVar 0) (tCons (tC (.int 1)) tNil))) (tC (.int 256)))) (tCons (tOp rMinus (tC (.int 255)) (tOp rMod (tCall (sp_law_cell_at K) [] E0 (tCons (tVar 0) (tCons (tC (.int 2)) tNil))) (tC (.int 240)))) tNil)))) (gName 2))
  tNext)
  (Evl.tCut (tIfS (tTest (tOp rEq (tOp rMod (tCall (sp_law_cell_at K) [] E0 (tCons (tVar 0) (tCons (tC (.int 5)) tNil))) (tC (.int 9))) (tC (.int 4))))
  (tAsg (tLst tNil) (gName 2))
  tNext)
  (tRet (tVar 2)))))))))))
abbrev n_law_octets : List Str := ["_law_script", "_law_way", "_law_octets_here", "_law_cell", "_law_bits_here", "_law_k", "_law_many"]

theorem rd_law_octets (K : PySem.W.Frag) (vs : List V) (H : Hp) (Q : VK) (E : XK) (h : sp_law_octets K vs H Q E) : t_law_octets K { nx := fun _ H' => Q .non H', rt := Q } (start n_law_octets vs) H := by
  obtain ⟨a, ns, rfl, hS, q⟩ := h
  unfold t_law_octets
  walk_at "st"
  refine call_cell_at hS (by decide) fun c1 hc1 => ?_
  walk_at "st"
  intro p1 hp1
  have s1 := same_new (o := .lst [.int 1]) hp1
  have e1 := upd_same (H := H) (a := p1) (o := .lst [.int 1])
  generalize upd H p1 (.lst [.int 1]) = H1 at s1 e1 ⊢
  walk_at "st"
  refine k_slTake (k := 63) (s1.seq hS) fun l1 H2 hl1 s2 e2 => ?_
  refine m_iLe (.of e2) ?_
  have hl63 : (ns.take 63).length ≤ 63 := by rw [List.length_take]; omega
  generalize ns.take 63 = fs at e2 hl63 ⊢
  refine comp_walkV (f := fun i => fs[i]?.map fun n => V.int (n % 256)) (walk_list (K := K) (xs := fs.map V.int)) (by rw [List.length_map]; omega) (fun H' s' => .of (s'.get e2)) (fun i v Hb Hc Qb hk sk hy qb => ?_) (fun pm Hb hpm sb eb => ?_)
  · obtain ⟨rfl, ev⟩ := hy
    obtain ⟨n, hn, rfl⟩ := of_mapint ev
    refine k_yes ?_
    refine qb true _ (Same.refl _) (fun _ Q2 H4 s4 => ⟨_, by rw [hn]; rfl, fun q2 => ?_⟩) (fun z => nomatch z)
    walk_at "st"
    exact q2 _ (Same.refl _)
  rw [List.length_map, fm_opt] at eb
  have eb : Hb pm = some (.lst ((fs.map fun n => n % 256).map V.int)) := by rw [eb, List.map_map]; rfl
  have e1' : Hb p1 = some (.lst (([1] : List Int).map V.int)) := (s2.trans sb).get e1
  have s3 := s1.trans (s2.trans sb)
  refine k_catI e1' eb (by rw [List.length_map]; simp only [List.length_cons, List.length_nil]; omega) fun p3 H3 hp3 s3' e3 => ?_
  have s13 := s3.trans s3'
  have o3 : Octs ([1] ++ fs.map fun n => n % 256) := octs_append (fun x hx => by rw [List.mem_singleton.mp hx]; omega) fun x hx => by
    obtain ⟨n, _, rfl⟩ := List.mem_map.mp hx
    omega
  have l3 : ([1] ++ fs.map fun n => n % 256).length ≤ 64 := by rw [List.length_append, List.length_map]; simp only [List.length_cons, List.length_nil]; omega
  generalize ([1] ++ fs.map fun n => n % 256) = os at e3 o3 l3
  walk_at "st"
  refine ⟨a, ns, rfl, s13.seq hS, fun bs p4 H4 hbl hB _ hp4 s4 e4 => ?_⟩
  have s14 := s13.trans s4
  have e34 := s4.get e3
  walk_at "st"
  generalize c1 % 9 = w
  refine m_cut (fun σ' H' => ∃ (pb : Addr) (bs : List Int) (v3 v5 v6 : Option V), Same H H' ∧ H' pb = some (.lst (bs.map V.int)) ∧ Bits bs ∧ bs.length ≤ 5000 ∧ H' p3 = some (.lst (os.map V.int)) ∧ σ' = [some (.ref a), some (.int w), some (.ref p3), v3, some (.ref pb), v5, v6]) ?_ ?_
  · walk_at "st"
    walk_at "if" <;> intro z1
    · walk_at "st"
      refine call_cell_at (s14.seq hS) (by decide) fun c2 hc2 => ?_
      walk_at "st"
      walk_at "if" <;> intro z2
      · walk_at "st"
        intro q1 hq1
        have t1 := same_new (o := .lst [.int 0, .int 1]) hq1
        have f1 : upd H4 q1 (.lst [.int 0, .int 1]) q1 = some (.lst (([0, 1] : List Int).map V.int)) := upd_same
        generalize upd H4 q1 (.lst [.int 0, .int 1]) = H5 at t1 f1 ⊢
        walk_at "st"
        refine k_repI f1 (by decide) (by decide) fun q2 H6 rs hq2 t2 ers hrl f2 => ?_
        have hrl : rs.length = 4098 := by rw [hrl]; rfl
        have hrB : Bits rs := fun x hx => by
          rw [ers] at hx
          obtain ⟨l, hl, hx⟩ := List.mem_flatten.mp hx
          rw [List.eq_of_mem_replicate hl] at hx
          simpa using hx
        clear ers
        refine k_catI ((t1.trans t2).get e4) f2 (by omega) fun q3 H7 hq3 t3 f3 => ?_
        have s17 := s14.trans ((t1.trans t2).trans t3)
        walk_at "st"
        refine call_cell_at (s17.seq hS) (by decide) fun c3 hc3 => ?_
        walk_at "st"
        obtain ⟨k, hk, hkl⟩ : ∃ k : Nat, (4095 : Int) + c3 % 3 = (k : Int) ∧ k ≤ 4097 := ⟨(4095 + c3 % 3).toNat, by omega, by omega⟩
        rw [hk]
        refine k_slTake (k := k) (.of f3) fun q4 H8 hq4 t4 f4 => ?_
        refine ⟨q4, _, _, _, _, s17.trans t4, f4, fun x hx => ?_, by rw [List.length_take]; omega, (((t1.trans t2).trans t3).trans t4).get e34, rfl⟩
        exact (List.mem_append.mp (List.mem_of_mem_take hx)).elim (hB x) (hrB x)
      · walk_at "st"
        exact ⟨p4, bs, _, _, _, s14, e4, hB, by omega, e34, rfl⟩
    · walk_at "st"
      exact ⟨p4, bs, _, _, _, s14, e4, hB, by omega, e34, rfl⟩
  rintro σ' H' ⟨pb, bs, v3, v5, v6, s5, e5, hB, hbl, e35, rfl⟩
  clear e34 e4 e3 s4 s13 s14 s3 s3' e1' eb sb s2 e2 e1 s1
  refine m_cut (fun σ' H' => OcI H a w 1100 σ' H') ?_ ?_
  · walk_at "st"
    walk_at "if" <;> intro z1
    · walk_at "st"
      refine ⟨pb, bs, rfl, e5, hB, hbl, fun p6 H6 hp6 s6 e6 => ?_⟩
      exact ⟨p6, _, _, _, _, _, rfl, s5.trans s6, e6, by rw [rowO_len]; omega, fun z _ => by omega⟩
    · walk_at "st"
      exact ⟨p3, os, _, _, _, _, rfl, s5, e35, by omega, fun _ _ => o3⟩
  clear e35 e5 s5 o3 l3 hl63
  rintro σ' H' ⟨p, os, v3, v4, v5, v6, rfl, s1, e1, hl1, ho⟩
  refine m_cut (fun σ' H' => OcI H a w 31000 σ' H') ?_ ?_
  · walk_at "st"
    walk_at "if" <;> intro z1
    · walk_at "st"
      refine call_cell_at (s1.seq hS) (by decide) fun c2 hc2 => ?_
      walk_at "st"
      obtain ⟨m, hm, hm2⟩ : ∃ m : Nat, (1 + c2 % 3).toNat = m ∧ m ≤ 3 := ⟨_, rfl, by omega⟩
      rw [hm]
      refine loop_range0 (fun i σ H' => ∃ p os v3 v4 v5 v6, σ = [some (.ref a), some (.int w), some (.ref p), v3, v4, v5, v6] ∧ Same H H' ∧ H' p = some (.lst (os.map V.int)) ∧ i ≤ 3 ∧ (i = 0 → os.length ≤ 1100) ∧ (i = 1 → os.length ≤ 3303) ∧ (i = 2 → os.length ≤ 9912) ∧ (i = 3 → os.length ≤ 29739)) ⟨p, os, v3, v4, v5, v6, rfl, s1, e1, by omega, fun _ => hl1, fun z => by omega, fun z => by omega, fun z => by omega⟩ ?_ ?_
      · rintro i σ H' hi ⟨p, os, v3, v4, v5, v6, rfl, s1, e1, hi3, i0, i1, i2, i3⟩
        walk_at "st"
        refine call_cell_at (s1.seq hS) (by omega) fun c3 hc3 => ?_
        walk_at "st"
        refine ⟨p, os, c3, rfl, e1, by omega, fun p2 os2 H2 s2 e2 hl2 => ?_⟩
        exact ⟨p2, os2, _, _, _, _, rfl, s1.trans s2, e2, by omega, fun z => by omega, fun z => by omega, fun z => by omega, fun z => by omega⟩
      · rintro σ H' ⟨p, os, v3, v4, v5, v6, rfl, s1, e1, hi3, i0, i1, i2, i3⟩
        exact ⟨p, os, _, _, _, _, rfl, s1, e1, by omega, fun z _ => by omega⟩
    · walk_at "st"
      exact ⟨p, os, _, _, _, _, rfl, s1, e1, by omega, fun z _ => ho z (by decide)⟩
  rintro σ' H' ⟨p, os, v3, v4, v5, v6, rfl, s1, e1, hl1, ho⟩
  refine m_cut (fun σ' H' => OcI H a w 50000 σ' H') ?_ ?_
  · walk_at "st"
    walk_at "if" <;> intro z1
    · walk_at "st"
      refine k_lenL (.of e1) ?_
      walk_at "st"
      rw [List.length_map]
      walk_at "if" <;> intro z2
      · have ho := ho z1 (by decide)
        have g1 : 1 < os.length := by omega
        have g2 : 2 < os.length := by omega
        walk_at "st"
        refine k_ixL (.of e1) (at_int (i := 1) (by decide) (mapint (List.getElem?_eq_getElem g1))) ?_
        walk_at "st"
        refine k_ixL (.of e1) (at_int (i := 2) (by decide) (mapint (List.getElem?_eq_getElem g2))) ?_
        walk_at "st"
        have b1 := ho _ (List.getElem_mem g1)
        obtain ⟨m, hm, hm2⟩ : ∃ m : Nat, (os[1] + (256 : Int) * (os[2] % 2) : Int) = (m : Int) ∧ m ≤ 511 := ⟨(os[1] + (256 : Int) * (os[2] % 2)).toNat, by omega, by omega⟩
        rw [hm]
        intro q1 hq1
        have t1 := same_new (o := .lst [.int 1]) hq1
        have f1 : upd H' q1 (.lst [.int 1]) q1 = some (.lst (([1] : List Int).map V.int)) := upd_same
        generalize upd H' q1 (.lst [.int 1]) = H2 at t1 f1 ⊢
        walk_at "st"
        refine ⟨_, rfl, by omega, by omega, fun q2 H3 hq2 t2 f2 => ?_⟩
        refine k_catI (t2.get f1) f2 (by rw [octs_len]; decide) fun q3 H4 hq3 t3 f3 => ?_
        have s4 := ((s1.trans t1).trans t2).trans t3
        walk_at "st"
        refine k_slDrop (k := 3) (.of (((t1.trans t2).trans t3).get e1)) fun q4 H5 hq4 t4 f4 => ?_
        walk_at "st"
        intro q5 hq5
        have t5 := same_new (o := .lst [.int 0]) hq5
        have f5 : upd H5 q5 (.lst [.int 0]) q5 = some (.lst (([0] : List Int).map V.int)) := upd_same
        generalize upd H5 q5 (.lst [.int 0]) = H6 at t5 f5 ⊢
        walk_at "st"
        refine k_repI f5 (by decide) (by decide) fun q6 H7 rs hq6 t6 ers hrl f6 => ?_
        have hrl : rs.length = 200 := by rw [hrl]; rfl
        refine k_catI ((t5.trans t6).get f4) f6 (by rw [List.length_drop]; omega) fun q7 H8 hq7 t7 f7 => ?_
        walk_at "st"
        obtain ⟨k, hk⟩ : ∃ k : Nat, (((m : Int) + 31) / 32 * 6 + 2) = (k : Int) := ⟨(((m : Int) + 31) / 32 * 6 + 2).toNat, by omega⟩
        rw [hk]
        refine k_slTake (k := k) (.of f7) fun q8 H9 hq8 t8 f8 => ?_
        refine k_catI (((t4.trans t5).trans (t6.trans (t7.trans t8))).get f3) f8 (by rw [List.length_append, octs_len, List.length_take, List.length_append, List.length_drop]; simp only [List.length_cons, List.length_nil]; omega) fun q9 H10 hq9 t9 f9 => ?_
        exact ⟨q9, _, _, _, _, _, rfl, (s4.trans ((t4.trans t5).trans (t6.trans (t7.trans t8)))).trans t9, f9, by rw [List.length_append, List.length_append, octs_len, List.length_take, List.length_append, List.length_drop]; simp only [List.length_cons, List.length_nil]; omega, fun _ z => absurd z (by decide)⟩
      · walk_at "st"
        exact ⟨p, os, _, _, _, _, rfl, s1, e1, by omega, fun _ z => absurd z (by decide)⟩
    · walk_at "st"
      exact ⟨p, os, _, _, _, _, rfl, s1, e1, by omega, fun _ z => absurd z (by decide)⟩
  rintro σ' H' ⟨p, os, v3, v4, v5, v6, rfl, s1, e1, hl1, ho⟩
  refine m_cut (fun σ' H' => OcI H a w 50000 σ' H') ?_ ?_
  · walk_at "st"
    walk_at "if" <;> intro z1
    · walk_at "st"
      refine call_cell_at (s1.seq hS) (by decide) fun c2 hc2 => ?_
      walk_at "st"
      refine call_cell_at (s1.seq hS) (by decide) fun c3 hc3 => ?_
      walk_at "st"
      intro q1 hq1
      refine ⟨q1, [1, 255 - c2 % 256, 255 - c3 % 240], _, _, _, _, rfl, s1.trans (same_new hq1), upd_same, by simp only [List.length_cons, List.length_nil]; omega, fun _ z => absurd z (by decide)⟩
    · walk_at "st"
      exact ⟨p, os, _, _, _, _, rfl, s1, e1, by omega, fun _ z => absurd z (by decide)⟩
  rintro σ' H' ⟨p, os, v3, v4, v5, v6, rfl, s1, e1, hl1, ho⟩
  refine m_cut (fun σ' H' => OcI H a w 50000 σ' H') ?_ ?_
  · walk_at "st"
    refine call_cell_at (s1.seq hS) (by decide) fun c2 hc2 => ?_
    walk_at "st"
    walk_at "if" <;> intro z1
    · walk_at "st"
      intro q1 hq1
      exact ⟨q1, [], _, _, _, _, rfl, s1.trans (same_new hq1), upd_same, by simp, fun _ z => absurd z (by decide)⟩
    · walk_at "st"
      exact ⟨p, os, _, _, _, _, rfl, s1, e1, by omega, fun _ z => absurd z (by decide)⟩
  rintro σ' H' ⟨p, os, v3, v4, v5, v6, rfl, s1, e1, hl1, ho⟩
  walk_at "st"
  exact q os p H' hl1 s1 e1
--#base
theorem dp_tk1 {K : PySem.W.Frag} {H : Hp} {a : Addr} (h : H a = some (.tup tk1)) : Dp K H (.ref a) (.tuple [.int 1, .bool true, .bool true, .bool false]) := .tup (.of h) (.cons (.int 1) (.cons (.bl true) (.cons (.bl true) (.cons (.bl false) .nil))))
theorem laid_tk1 : laid 64 (.tuple [.int 1, .bool true, .bool true, .bool false]) := laid_tup (n := 63) fun d hd => by
  simp only [List.mem_cons, List.not_mem_nil, or_false] at hd
  rcases hd with rfl | rfl | rfl | rfl
  · exact laid_int _
  · exact laid_bool _
  · exact laid_bool _
  · exact laid_bool _
theorem eqv_tk1 : PyData.eqv (.tuple [.int 1, .bool true, .bool true, .bool false]) (.tuple [.int 1, .bool true, .bool true, .bool false]) = true := by
  simp [PyData.eqv, PyData.eqvAll]
theorem resR_dp {K : PySem.W.Frag} {H : Hp} {p r : Addr} {os : List Int} (h1 : ResR H p os) (h2 : ResR H r os) : ∃ d, Dp K H (.ref p) d ∧ Dp K H (.ref r) d ∧ laid 64 d ∧ PyData.eqv d d = true := by
  rcases h1 with ⟨a1, a2⟩ | ⟨bs, a1, a2⟩ <;> rcases h2 with ⟨b1, b2⟩ | ⟨cs, b1, b2⟩
  · exact ⟨_, dp_tk1 a2, dp_tk1 b2, laid_tk1, eqv_tk1⟩
  · exact absurd b1 (a1 cs)
  · exact absurd a1 (b1 bs)
  · obtain rfl := a1.inj b1
    exact ⟨_, dp_ints (.of a2), dp_ints (.of b2), laid_ints _, by rw [eqv_ints]; exact decide_eq_true rfl⟩
theorem k_neRes {K : PySem.W.Frag} {H : Hp} {Q : VK} {p r : Addr} {os : List Int} (h1 : ResR H p os) (h2 : ResR H r os) (q : Q (.bl false) H) : rNeD K (.ref p) (.ref r) H Q := by
  obtain ⟨d, d1, d2, l, e⟩ := resR_dp (K := K) h1 h2
  exact k_neD d1 d2 l l (by rw [e]; exact q)
theorem k_eqRes {K : PySem.W.Frag} {H : Hp} {Q : VK} {p r : Addr} {os : List Int} (h1 : ResR H p os) (h2 : ResR H r os) (q : Q (.bl true) H) : rEqD K (.ref p) (.ref r) H Q := by
  obtain ⟨d, d1, d2, l, e⟩ := resR_dp (K := K) h1 h2
  exact k_eqD d1 d2 l l (by rw [e]; exact q)
theorem k_isListT {H : Hp} {Q : VK} {a : Addr} {xs : List V} (h : H a = some (.tup xs)) (q : Q (.bl false) H) : rIsB [.ref a, .ty "list"] H Q := ⟨.ref a, "list", rfl, "tuple", false, fun _ => .base (.tup h), by decide +kernel, q⟩
theorem resR_put {H : Hp} {p r : Addr} {os : List Int} {o : HO} (h : ResR H p os) (n : p ≠ r) : ResR (upd H r o) p os := by
  rcases h with ⟨h1, h2⟩ | ⟨bs, h1, h2⟩
  · exact .inl ⟨h1, (upd_ne n).trans h2⟩
  · exact .inr ⟨bs, h1, (upd_ne n).trans h2⟩
theorem ResR.there {H : Hp} {p : Addr} {os : List Int} (h : ResR H p os) : H p ≠ none := by
  rcases h with ⟨_, w⟩ | ⟨_, _, w⟩ <;> rw [w] <;> exact fun z => nomatch z
/-- law(script) -/
def sp_law (K : PySem.W.Frag) : Sp := fun vs H Q _ => ∃ (a : Addr) (ns : List Int), vs = [.ref a] ∧ SqL K H a (ns.map V.int) ∧ ns.length ≤ 63 ∧ ∀ H', Q (.bl true) H'
theorem len_law (K : PySem.W.Frag) : ∀ vs H Q E, sp_law K vs H Q E → vs.length = 1 := by
  rintro vs H Q E ⟨x, y, rfl, _⟩; rfl

def t_law (K : PySem.W.Frag) : TS :=
  (tSeq (tAsg (tCall (sp_law_octets K) [] E0 (tCons (tVar 0) tNil)) (gName 1))
  (tSeq (tAsg (tCB (rListOf K) (tCons (tVar 1) tNil)) (gName 2))
  (tSeq (tAsg (tCall (sp_law_due K) [] E0 (tCons (tVar 1) tNil)) (gName 3))
  (tSeq (tAsg (tCall (sp_law_told K) [] E0 (tCons (tVar 2) tNil)) (gName 4))
  (tSeq (tIfS (tOr (tTest (tOp (rNeD K) (tVar 4) (tVar 3))) (tTest (tOp (rNeD K) (tVar 2) (tVar 1))))
  (tRet (tC (.bl false)))
  tNext)
  (Evl.tCut (tIfS (tB (tCB rIsB (tCons (tVar 4) (tCons (tC (.ty "list")) tNil))))
  (tSeq (tIfS (tTest (tOp (rNeD K) (tCall (sp_row_octets K) [] E0 (tCons (tCB (rListOf K) (tCons (tVar 4) tNil)) tNil)) (tVar 1)))
  (tRet (tC (.bl false)))
  tNext)
  (tDrop (tBM K "list" rAppend (tVar 4) (tCons (tC (.int 1)) tNil))))
  tNext)
  (tRet (tOp (rEqD K) (tCall (sp_law_told K) [] E0 (tCons (tVar 2) tNil)) (tVar 3)))))))))
abbrev n_law : List Str := ["_law_script", "_law_octets_here", "_law_handed", "_law_due_here", "_law_found"]

theorem rd_law (K : PySem.W.Frag) (F : KFx K) (vs : List V) (H : Hp) (Q : VK) (E : XK) (h : sp_law K vs H Q E) : t_law K { nx := fun _ H' => Q .non H', rt := Q } (start n_law vs) H := by
  obtain ⟨a, ns, rfl, hS, hl, q⟩ := h
  unfold t_law
  walk_at "st"
  refine ⟨a, ns, rfl, hS, fun os p H1 hol s1 e1 => ?_⟩
  walk_at "st"
  refine k_listL (.of e1) fun pc hpc => ?_
  have npc : p ≠ pc := ne_of_none e1 hpc
  have s2 := same_new (o := .lst (os.map V.int)) hpc
  have e2 := upd_same (H := H1) (a := pc) (o := .lst (os.map V.int))
  replace e1 := s2.get e1
  generalize upd H1 pc (.lst (os.map V.int)) = H2 at s2 e2 e1 ⊢
  walk_at "st"
  refine ⟨p, os, rfl, e1, hol, fun pd H3 hpd s3 r3 => ?_⟩
  walk_at "st"
  refine ⟨pc, os, rfl, s3.get e2, hol, fun pf H4 hpf s4 r4 => ?_⟩
  have npc2 : pf ≠ pc := fun z => by rw [z, s3.get e2] at hpf; cases hpf
  have r3 := r3.same s4
  replace e1 := (s3.trans s4).get e1
  replace e2 := (s3.trans s4).get e2
  have npf : pf ≠ pd := fun z => by rw [z] at hpf; exact (ResR.there (H := H3) (os := os) (by assumption)) hpf
  walk_at "st"
  refine k_neRes r4 r3 ?_
  walk_at "st"
  refine k_neL (ns := os) (ms := os) (.of e2) (.of e1) ?_
  rw [decide_eq_true rfl]
  walk_at "st"
  refine m_cut (fun σ' H' => H' pc = some (.lst (os.map V.int)) ∧ ResR H' pd os ∧ ∃ v, σ' = [some (.ref a), some (.ref p), some (.ref pc), some (.ref pd), v]) ?_ ?_
  · rcases r4 with ⟨nR, w⟩ | ⟨bs, hR, w⟩
    · walk_at "st"
      refine k_isListT w ?_
      walk_at "st"
      exact ⟨e2, r3, _, rfl⟩
    · have hb := hR.2.1
      walk_at "st"
      refine k_isList w ?_
      walk_at "st"
      refine k_listL (.of w) fun q1 hq1 => ?_
      have t1 := same_new (o := .lst (bs.map V.int)) hq1
      have f1 := upd_same (H := H4) (a := q1) (o := .lst (bs.map V.int))
      generalize upd H4 q1 (.lst (bs.map V.int)) = H5 at t1 f1 ⊢
      walk_at "st"
      refine ⟨q1, bs, rfl, .of f1, by omega, fun z => by omega, fun _ z => absurd hR.1 z, fun _ _ q2 H6 hq2 t2 f2 => ?_⟩
      have t12 := t1.trans t2
      walk_at "st"
      refine k_neL (ns := rowO bs) (ms := os) (.of f2) (.of (t12.get e1)) ?_
      rw [decide_eq_true hR.2.2.symm]
      walk_at "st"
      refine k_tyL (.of (t12.get w)) ?_
      walk_at "st"
      refine k_app (t12.get w) (by rw [List.length_map]; omega) ?_
      refine ⟨?_, resR_put (r3.same t12) npf.symm, _, rfl⟩
      rw [upd_ne npc2.symm]; exact t12.get e2
  rintro σ' H5 ⟨e5, r5, v, rfl⟩
  walk_at "st"
  refine ⟨pc, os, rfl, e5, hol, fun pg H6 hpg s6 r6 => ?_⟩
  walk_at "st"
  refine k_eqRes r6 (r5.same s6) ?_
  walk_at "st"
  exact q _

end Tw
namespace Tw
open PySem PySem.Spec PyProof.Rows L2
/-! the text -/
def topS (i : Nat) : Stmt := PySem.Challenge.pw_thinwood_k85_rows_read.main.body.getD i (.Pass ⟨0, 0, 0, 0⟩)
abbrev s_packed : Stmt := topS 14
theorem sc_packed : FnScope n_packed ["bits"] (defScope s_packed) := ⟨rfl, rfl, rfl, by decide +kernel, rfl, by decide +kernel, by decide +kernel⟩

abbrev s_unpacked : Stmt := topS 15
theorem sc_unpacked : FnScope n_unpacked ["blocks", "many"] (defScope s_unpacked) := ⟨rfl, rfl, rfl, by decide +kernel, rfl, by decide +kernel, by decide +kernel⟩

abbrev s_ones_in : Stmt := topS 16
theorem sc_ones_in : FnScope n_ones_in ["block", "upto"] (defScope s_ones_in) := ⟨rfl, rfl, rfl, by decide +kernel, rfl, by decide +kernel, by decide +kernel⟩

abbrev s_ones_table : Stmt := topS 18
theorem sc_ones_table : FnScope n_ones_table ["blocks"] (defScope s_ones_table) := ⟨rfl, rfl, rfl, by decide +kernel, rfl, by decide +kernel, by decide +kernel⟩

abbrev s_kept_row : Stmt := topS 19
theorem sc_kept_row : FnScope n_kept_row ["bits"] (defScope s_kept_row) := ⟨rfl, rfl, rfl, by decide +kernel, rfl, by decide +kernel, by decide +kernel⟩

abbrev s_octets_of : Stmt := topS 21
theorem sc_octets_of : FnScope n_octets_of ["number", "many"] (defScope s_octets_of) := ⟨rfl, rfl, rfl, by decide +kernel, rfl, by decide +kernel, by decide +kernel⟩

abbrev s_number_of : Stmt := topS 22
theorem sc_number_of : FnScope n_number_of ["octets"] (defScope s_number_of) := ⟨rfl, rfl, rfl, by decide +kernel, rfl, by decide +kernel, by decide +kernel⟩

abbrev s_fields_of : Stmt := topS 23
theorem sc_fields_of : FnScope n_fields_of ["numbers", "wide"] (defScope s_fields_of) := ⟨rfl, rfl, rfl, by decide +kernel, rfl, by decide +kernel, by decide +kernel⟩

abbrev s_numbers_of : Stmt := topS 24
theorem sc_numbers_of : FnScope n_numbers_of ["octets", "wide"] (defScope s_numbers_of) := ⟨rfl, rfl, rfl, by decide +kernel, rfl, by decide +kernel, by decide +kernel⟩

abbrev s_blocks_for : Stmt := topS 26
theorem sc_blocks_for : FnScope n_blocks_for ["many"] (defScope s_blocks_for) := ⟨rfl, rfl, rfl, by decide +kernel, rfl, by decide +kernel, by decide +kernel⟩

abbrev s_row_laid : Stmt := topS 28
theorem sc_row_laid : FnScope n_row_laid ["tables", "blocks"] (defScope s_row_laid) := ⟨rfl, rfl, rfl, by decide +kernel, rfl, by decide +kernel, by decide +kernel⟩

abbrev s_row_octets : Stmt := topS 29
theorem sc_row_octets : FnScope n_row_octets ["bits"] (defScope s_row_octets) := ⟨rfl, rfl, rfl, by decide +kernel, rfl, by decide +kernel, by decide +kernel⟩

abbrev s_head_of : Stmt := topS 30
theorem sc_head_of : FnScope n_head_of ["octets", "kind", "wide"] (defScope s_head_of) := ⟨rfl, rfl, rfl, by decide +kernel, rfl, by decide +kernel, by decide +kernel⟩

abbrev s_row_long : Stmt := topS 31
theorem sc_row_long : FnScope n_row_long ["many"] (defScope s_row_long) := ⟨rfl, rfl, rfl, by decide +kernel, rfl, by decide +kernel, by decide +kernel⟩

abbrev s_same_again : Stmt := topS 32
theorem sc_same_again : FnScope n_same_again ["octets", "again"] (defScope s_same_again) := ⟨rfl, rfl, rfl, by decide +kernel, rfl, by decide +kernel, by decide +kernel⟩

abbrev s_read_row : Stmt := topS 33
theorem sc_read_row : FnScope n_read_row ["octets"] (defScope s_read_row) := ⟨rfl, rfl, rfl, by decide +kernel, rfl, by decide +kernel, by decide +kernel⟩

abbrev s_law_cell_at : Stmt := topS 35
theorem sc_law_cell_at : FnScope n_law_cell_at ["_law_script", "_law_k"] (defScope s_law_cell_at) := ⟨rfl, rfl, rfl, by decide +kernel, rfl, by decide +kernel, by decide +kernel⟩

abbrev s_law_whole : Stmt := topS 36
theorem sc_law_whole : FnScope n_law_whole ["_law_found"] (defScope s_law_whole) := ⟨rfl, rfl, rfl, by decide +kernel, rfl, by decide +kernel, by decide +kernel⟩

abbrev s_law_bits : Stmt := topS 37
theorem sc_law_bits : FnScope n_law_bits ["_law_script"] (defScope s_law_bits) := ⟨rfl, rfl, rfl, by decide +kernel, rfl, by decide +kernel, by decide +kernel⟩

abbrev s_law_two : Stmt := topS 38
theorem sc_law_two : FnScope n_law_two ["_law_number"] (defScope s_law_two) := ⟨rfl, rfl, rfl, by decide +kernel, rfl, by decide +kernel, by decide +kernel⟩

abbrev s_law_written : Stmt := topS 39
theorem sc_law_written : FnScope n_law_written ["_law_bits_here"] (defScope s_law_written) := ⟨rfl, rfl, rfl, by decide +kernel, rfl, by decide +kernel, by decide +kernel⟩

abbrev s_law_due : Stmt := topS 40
theorem sc_law_due : FnScope n_law_due ["_law_octets_here"] (defScope s_law_due) := ⟨rfl, rfl, rfl, by decide +kernel, rfl, by decide +kernel, by decide +kernel⟩

abbrev s_law_told : Stmt := topS 41
theorem sc_law_told : FnScope n_law_told ["_law_octets_here"] (defScope s_law_told) := ⟨rfl, rfl, rfl, by decide +kernel, rfl, by decide +kernel, by decide +kernel⟩

abbrev s_law_changed : Stmt := topS 42
theorem sc_law_changed : FnScope n_law_changed ["_law_octets_here", "_law_cell"] (defScope s_law_changed) := ⟨rfl, rfl, rfl, by decide +kernel, rfl, by decide +kernel, by decide +kernel⟩

abbrev s_law_octets : Stmt := topS 43
theorem sc_law_octets : FnScope n_law_octets ["_law_script"] (defScope s_law_octets) := ⟨rfl, rfl, rfl, by decide +kernel, rfl, by decide +kernel, by decide +kernel⟩

abbrev s_law : Stmt := topS 44
theorem sc_law : FnScope n_law ["_law_script"] (defScope s_law) := ⟨rfl, rfl, rfl, by decide +kernel, rfl, by decide +kernel, by decide +kernel⟩

structure Tx (P : Program) (w : World) (K : PySem.W.Frag) (mg : Str → Option Value) (base : Heap) : Prop where
  d_packed : ∃ fd, FunD K "packed" "packed" (defArgs s_packed) (defBody s_packed) (defScope s_packed) [] [] (He.ga K "packed") fd
  g_packed : mg "packed" = some (.ref (He.ga K "packed"))
  d_unpacked : ∃ fd, FunD K "unpacked" "unpacked" (defArgs s_unpacked) (defBody s_unpacked) (defScope s_unpacked) [] [] (He.ga K "unpacked") fd
  g_unpacked : mg "unpacked" = some (.ref (He.ga K "unpacked"))
  d_ones_in : ∃ fd, FunD K "ones_in" "ones_in" (defArgs s_ones_in) (defBody s_ones_in) (defScope s_ones_in) [] [] (He.ga K "ones_in") fd
  g_ones_in : mg "ones_in" = some (.ref (He.ga K "ones_in"))
  d_ones_table : ∃ fd, FunD K "ones_table" "ones_table" (defArgs s_ones_table) (defBody s_ones_table) (defScope s_ones_table) [] [] (He.ga K "ones_table") fd
  g_ones_table : mg "ones_table" = some (.ref (He.ga K "ones_table"))
  d_kept_row : ∃ fd, FunD K "kept_row" "kept_row" (defArgs s_kept_row) (defBody s_kept_row) (defScope s_kept_row) [] [] (He.ga K "kept_row") fd
  g_kept_row : mg "kept_row" = some (.ref (He.ga K "kept_row"))
  d_octets_of : ∃ fd, FunD K "octets_of" "octets_of" (defArgs s_octets_of) (defBody s_octets_of) (defScope s_octets_of) [] [] (He.ga K "octets_of") fd
  g_octets_of : mg "octets_of" = some (.ref (He.ga K "octets_of"))
  d_number_of : ∃ fd, FunD K "number_of" "number_of" (defArgs s_number_of) (defBody s_number_of) (defScope s_number_of) [] [] (He.ga K "number_of") fd
  g_number_of : mg "number_of" = some (.ref (He.ga K "number_of"))
  d_fields_of : ∃ fd, FunD K "fields_of" "fields_of" (defArgs s_fields_of) (defBody s_fields_of) (defScope s_fields_of) [] [] (He.ga K "fields_of") fd
  g_fields_of : mg "fields_of" = some (.ref (He.ga K "fields_of"))
  d_numbers_of : ∃ fd, FunD K "numbers_of" "numbers_of" (defArgs s_numbers_of) (defBody s_numbers_of) (defScope s_numbers_of) [] [] (He.ga K "numbers_of") fd
  g_numbers_of : mg "numbers_of" = some (.ref (He.ga K "numbers_of"))
  d_blocks_for : ∃ fd, FunD K "blocks_for" "blocks_for" (defArgs s_blocks_for) (defBody s_blocks_for) (defScope s_blocks_for) [] [] (He.ga K "blocks_for") fd
  g_blocks_for : mg "blocks_for" = some (.ref (He.ga K "blocks_for"))
  d_row_laid : ∃ fd, FunD K "row_laid" "row_laid" (defArgs s_row_laid) (defBody s_row_laid) (defScope s_row_laid) [] [] (He.ga K "row_laid") fd
  g_row_laid : mg "row_laid" = some (.ref (He.ga K "row_laid"))
  d_row_octets : ∃ fd, FunD K "row_octets" "row_octets" (defArgs s_row_octets) (defBody s_row_octets) (defScope s_row_octets) [] [] (He.ga K "row_octets") fd
  g_row_octets : mg "row_octets" = some (.ref (He.ga K "row_octets"))
  d_head_of : ∃ fd, FunD K "head_of" "head_of" (defArgs s_head_of) (defBody s_head_of) (defScope s_head_of) [] [] (He.ga K "head_of") fd
  g_head_of : mg "head_of" = some (.ref (He.ga K "head_of"))
  d_row_long : ∃ fd, FunD K "row_long" "row_long" (defArgs s_row_long) (defBody s_row_long) (defScope s_row_long) [] [] (He.ga K "row_long") fd
  g_row_long : mg "row_long" = some (.ref (He.ga K "row_long"))
  d_same_again : ∃ fd, FunD K "same_again" "same_again" (defArgs s_same_again) (defBody s_same_again) (defScope s_same_again) [] [] (He.ga K "same_again") fd
  g_same_again : mg "same_again" = some (.ref (He.ga K "same_again"))
  d_read_row : ∃ fd, FunD K "read_row" "read_row" (defArgs s_read_row) (defBody s_read_row) (defScope s_read_row) [] [] (He.ga K "read_row") fd
  g_read_row : mg "read_row" = some (.ref (He.ga K "read_row"))
  d_law_cell_at : ∃ fd, FunD K "_law_cell_at" "_law_cell_at" (defArgs s_law_cell_at) (defBody s_law_cell_at) (defScope s_law_cell_at) [] [] (He.ga K "_law_cell_at") fd
  g_law_cell_at : mg "_law_cell_at" = some (.ref (He.ga K "_law_cell_at"))
  d_law_whole : ∃ fd, FunD K "_law_whole" "_law_whole" (defArgs s_law_whole) (defBody s_law_whole) (defScope s_law_whole) [] [] (He.ga K "_law_whole") fd
  g_law_whole : mg "_law_whole" = some (.ref (He.ga K "_law_whole"))
  d_law_bits : ∃ fd, FunD K "_law_bits" "_law_bits" (defArgs s_law_bits) (defBody s_law_bits) (defScope s_law_bits) [] [] (He.ga K "_law_bits") fd
  g_law_bits : mg "_law_bits" = some (.ref (He.ga K "_law_bits"))
  d_law_two : ∃ fd, FunD K "_law_two" "_law_two" (defArgs s_law_two) (defBody s_law_two) (defScope s_law_two) [] [] (He.ga K "_law_two") fd
  g_law_two : mg "_law_two" = some (.ref (He.ga K "_law_two"))
  d_law_written : ∃ fd, FunD K "_law_written" "_law_written" (defArgs s_law_written) (defBody s_law_written) (defScope s_law_written) [] [] (He.ga K "_law_written") fd
  g_law_written : mg "_law_written" = some (.ref (He.ga K "_law_written"))
  d_law_due : ∃ fd, FunD K "_law_due" "_law_due" (defArgs s_law_due) (defBody s_law_due) (defScope s_law_due) [] [] (He.ga K "_law_due") fd
  g_law_due : mg "_law_due" = some (.ref (He.ga K "_law_due"))
  d_law_told : ∃ fd, FunD K "_law_told" "_law_told" (defArgs s_law_told) (defBody s_law_told) (defScope s_law_told) [] [] (He.ga K "_law_told") fd
  g_law_told : mg "_law_told" = some (.ref (He.ga K "_law_told"))
  d_law_changed : ∃ fd, FunD K "_law_changed" "_law_changed" (defArgs s_law_changed) (defBody s_law_changed) (defScope s_law_changed) [] [] (He.ga K "_law_changed") fd
  g_law_changed : mg "_law_changed" = some (.ref (He.ga K "_law_changed"))
  d_law_octets : ∃ fd, FunD K "_law_octets" "_law_octets" (defArgs s_law_octets) (defBody s_law_octets) (defScope s_law_octets) [] [] (He.ga K "_law_octets") fd
  g_law_octets : mg "_law_octets" = some (.ref (He.ga K "_law_octets"))
  d_law : ∃ fd, FunD K "law" "law" (defArgs s_law) (defBody s_law) (defScope s_law) [] [] (He.ga K "law") fd
  g_law : mg "law" = some (.ref (He.ga K "law"))
  b_ValueError : mg "ValueError" = none
  b_all : mg "all" = none
  b_bool : mg "bool" = none
  b_divmod : mg "divmod" = none
  b_enumerate : mg "enumerate" = none
  b_int : mg "int" = none
  b_isinstance : mg "isinstance" = none
  b_len : mg "len" = none
  b_list : mg "list" = none
  b_min : mg "min" = none
  b_range : mg "range" = none
  b_reversed : mg "reversed" = none
  b_sum : mg "sum" = none
  b_tuple : mg "tuple" = none
  x_NoBit : ExF K mg "NoBit"
  x_NoNode : ExF K mg "NoNode"
  x_NoOctets : ExF K mg "NoOctets"
  x_NoPlace : ExF K mg "NoPlace"
  x_NoSign : ExF K mg "NoSign"
  x_NoTree : ExF K mg "NoTree"
  x_NoWord : ExF K mg "NoWord"
  x_TooMany : ExF K mg "TooMany"
  x_Twice : ExF K mg "Twice"
  x_WoodError : ExF K mg "WoodError"
  g_NoBit : mg "NoBit" = some (.ref (He.ga K "NoBit"))
  g_NoNode : mg "NoNode" = some (.ref (He.ga K "NoNode"))
  g_NoOctets : mg "NoOctets" = some (.ref (He.ga K "NoOctets"))
  g_NoPlace : mg "NoPlace" = some (.ref (He.ga K "NoPlace"))
  g_NoSign : mg "NoSign" = some (.ref (He.ga K "NoSign"))
  g_NoTree : mg "NoTree" = some (.ref (He.ga K "NoTree"))
  g_NoWord : mg "NoWord" = some (.ref (He.ga K "NoWord"))
  g_TooMany : mg "TooMany" = some (.ref (He.ga K "TooMany"))
  g_Twice : mg "Twice" = some (.ref (He.ga K "Twice"))
  g_WoodError : mg "WoodError" = some (.ref (He.ga K "WoodError"))
  fx : KFx K
  i_MOST : ∃ t, mg "MOST" = some (.int 4096 t)
  i_WIDE : ∃ t, mg "WIDE" = some (.int 32 t)
section
variable {P : Program} {w : World} {K : PySem.W.Frag} {mg : Str → Option Value} {base : Heap}
theorem ok_packed (T : Tx P w K mg base) : Okf P w K mg base (L2.CX P w) 2 "packed" ["bits"] (sp_packed K) := by
  obtain ⟨fd, FD⟩ := T.d_packed
  refine ⟨⟨fd, FunD.look FD, FD.bindsN fun _ _ _ _ _ _ us hl => match us, hl with | [_], _ => rfl, ?_⟩, FD.kp, T.g_packed⟩
  refine FunD.ok (CX := (L2.CX P w)) FD sc_packed (len_packed K) (fun cdv A outer s H vs Q E hr h => ⟨t_packed K E, ?_, rd_packed K vs H Q E h⟩)
  exact (pss_cons (ps_if (pt_cmpR op_gt (pe_callB call_lenK (by rfl) T.b_len (by decide +kernel) (pa_cons (pv 0) pa_nil)) (pe_gint T.i_MOST (by rfl)) (nomark _))
  (pss_one (ps_rz T.x_TooMany (takes_of rfl rfl rfl rfl)))
  pss_nil)
  (pss_cons (ps_set (i := 1) sc_packed.nd rfl (.inl rfl) (pe_op op_rep (pe_lst (pa_cons pe_int pa_nil)) (pe_op op_fdiv (pe_op op_sub (pe_op op_add (pe_callB call_lenK (by rfl) T.b_len (by decide +kernel) (pa_cons (pv 0) pa_nil)) (pe_gint T.i_WIDE (by rfl))) pe_int) (pe_gint T.i_WIDE (by rfl)))))
  (pss_cons (ps_for (passes_of rfl) rfl (pi_enum (by rfl) T.b_enumerate (pa_cons (pv 0) pa_nil)) (pg_tup rfl (pgs_cons (pg_name (i := 2) sc_packed.nd rfl (.inl rfl)) (pgs_cons (pg_name (i := 3) sc_packed.nd rfl (.inl rfl)) pgs_nil)))
  (pss_cons (ps_if (PW.pt (pw_and (pt_cmpR op_ne (pv 3) pe_int (nomark _)) (pw_and1 (pt_cmpR op_ne (pv 3) pe_int (nomark _)))))
  (pss_one (ps_rz T.x_NoBit (takes_of rfl rfl rfl rfl)))
  pss_nil)
  (pss_one (ps_if (pt_cmpR op_eq (pv 3) pe_int (nomark _))
  (pss_one (ps_asg (pe_op op_or (pe_ix ix_list (pv 1) (pe_op op_fdiv (pv 2) (pe_gint T.i_WIDE (by rfl))) (fun _ _ => rfl)) (pe_op op_shlW pe_int (pe_op op_mod (pv 2) (pe_gint T.i_WIDE (by rfl))))) (pg_sub (pv 1) (pe_op op_fdiv (pv 2) (pe_gint T.i_WIDE (by rfl))) set_list)))
  pss_nil))))
  (pss_one (ps_ret (pv 1))))))

theorem ok_unpacked (T : Tx P w K mg base) : Okf P w K mg base (L2.CX P w) 2 "unpacked" ["blocks", "many"] (sp_unpacked K) := by
  obtain ⟨fd, FD⟩ := T.d_unpacked
  refine ⟨⟨fd, FunD.look FD, FD.bindsN fun _ _ _ _ _ _ us hl => match us, hl with | [_, _], _ => rfl, ?_⟩, FD.kp, T.g_unpacked⟩
  refine FunD.ok (CX := (L2.CX P w)) FD sc_unpacked (len_unpacked K) (fun cdv A outer s H vs Q E hr h => ⟨t_unpacked K E, ?_, rd_unpacked K vs H Q E h⟩)
  exact (pss_cons (ps_if (PW.pt (pw_or (pt_cmpR op_lt (pv 1) pe_int (nomark _)) (pw_or1 (pt_cmpR op_gt (pv 1) (pe_op op_mul (pe_gint T.i_WIDE (by rfl)) (pe_callB call_lenK (by rfl) T.b_len (by decide +kernel) (pa_cons (pv 0) pa_nil))) (nomark _)))))
  (pss_one (ps_rz T.x_NoPlace (takes_of rfl rfl rfl rfl)))
  pss_nil)
  (pss_one (ps_ret (pe_lc (own := [("at", 2)]) (g := (gName 2)) (tt := tYes) rfl sc_unpacked.nd (pi_range1 (by rfl) T.b_range (pa_cons (pv 1) pa_nil)) (blkOk_by (N := ["blocks", "many", "at"]) (sc := defScope s_unpacked) (own := [("at", 2)]) (by decide +kernel)) (fun _ _ _ _ _ => (pg_name (i := 2) sc_unpacked.nd rfl (.inl rfl))) (fun _ _ _ _ _ => pts_nil) (fun _ _ _ _ _ => (pe_op op_and1 (pe_op op_shr (pe_ix ix_list (pv 0) (pe_op op_fdiv (pv 2) (pe_gint T.i_WIDE (by rfl))) (fun _ _ => rfl)) (pe_op op_mod (pv 2) (pe_gint T.i_WIDE (by rfl)))) pe_int))))))

theorem ok_ones_in (T : Tx P w K mg base) : Okf P w K mg base CX0 1 "ones_in" ["block", "upto"] (sp_ones_in K) := by
  obtain ⟨fd, FD⟩ := T.d_ones_in
  refine ⟨⟨fd, FunD.look FD, FD.bindsN fun _ _ _ _ _ _ us hl => match us, hl with | [_, _], _ => rfl, ?_⟩, FD.kp, T.g_ones_in⟩
  refine FunD.ok (CX := CX0) FD sc_ones_in (len_ones_in K) (fun cdv A outer s H vs Q E hr h => ⟨t_ones_in K, PSs.nox ?_, rd_ones_in K vs H Q E h⟩)
  exact (pss_one (ps_ret (pe_callB (cr_sum rfl) (by rfl) T.b_sum (by decide +kernel) (pa_cons (pe_lc (own := [("k", 2)]) (g := (gName 2)) (tt := tYes) rfl sc_ones_in.nd (pi_range1 (by rfl) T.b_range (pa_cons (pv 1) pa_nil)) (blkOk_by (N := ["block", "upto", "k"]) (sc := defScope s_ones_in) (own := [("k", 2)]) (by decide +kernel)) (fun _ _ _ _ _ => (pg_name (i := 2) sc_ones_in.nd rfl (.inl rfl))) (fun _ _ _ _ _ => pts_nil) (fun _ _ _ _ _ => (pe_op op_and1 (pe_op op_shr (pv 0) (pv 2)) pe_int))) pa_nil))))

theorem ok_ones_table (T : Tx P w K mg base) (o_ones_in : Okf P w K mg base CX0 1 "ones_in" ["block", "upto"] (sp_ones_in K)) : Okf P w K mg base CX0 2 "ones_table" ["blocks"] (sp_ones_table K) := by
  obtain ⟨fd, FD⟩ := T.d_ones_table
  refine ⟨⟨fd, FunD.look FD, FD.bindsN fun _ _ _ _ _ _ us hl => match us, hl with | [_], _ => rfl, ?_⟩, FD.kp, T.g_ones_table⟩
  refine FunD.ok (CX := CX0) FD sc_ones_table (len_ones_table K) (fun cdv A outer s H vs Q E hr h => ⟨t_ones_table K, PSs.nox ?_, rd_ones_table K vs H Q E h⟩)
  exact (pss_cons (ps_set (i := 1) sc_ones_table.nd rfl (.inl rfl) (pe_lst (pa_cons pe_int pa_nil)))
  (pss_cons (ps_for PassesOwn.never rfl (pi_list (pv 0)) (pg_name (i := 2) sc_ones_table.nd rfl (.inl rfl))
  (pss_one (ps_expr (pe_bm PySem.F.plainAttrs_list PySem.F.slot_list_append PySem.F.type_list_append mt_append (pv 1) (pa_cons (pe_op op_add (pe_ix ix_list (pv 1) (pe_un un_neg pe_int) (fun _ _ => rfl)) (pe_callF o_ones_in hr (by decide) (by rfl) pass0 (pa_cons (pv 2) (pa_cons (pe_gint T.i_WIDE (by rfl)) pa_nil)))) pa_nil)))))
  (pss_one (ps_ret (pe_callTy call_tupK (by rfl) T.b_tuple (by decide +kernel) (pa_cons (pv 1) pa_nil))))))

theorem ok_kept_row (T : Tx P w K mg base) (o_packed : Okf P w K mg base (L2.CX P w) 2 "packed" ["bits"] (sp_packed K)) (o_ones_table : Okf P w K mg base CX0 2 "ones_table" ["blocks"] (sp_ones_table K)) : Okf P w K mg base (L2.CX P w) 4 "kept_row" ["bits"] (sp_kept_row K) := by
  obtain ⟨fd, FD⟩ := T.d_kept_row
  refine ⟨⟨fd, FunD.look FD, FD.bindsN fun _ _ _ _ _ _ us hl => match us, hl with | [_], _ => rfl, ?_⟩, FD.kp, T.g_kept_row⟩
  refine FunD.ok (CX := (L2.CX P w)) FD sc_kept_row (len_kept_row K) (fun cdv A outer s H vs Q E hr h => ⟨t_kept_row K E, ?_, rd_kept_row K vs H Q E h⟩)
  exact (pss_cons (ps_set (i := 1) sc_kept_row.nd rfl (.inl rfl) (pe_callF o_packed hr (by decide) (by rfl) (passX (takes_of rfl rfl rfl rfl)) (pa_cons (pv 0) pa_nil)))
  (pss_one (ps_ret (pe_tup (pa_cons (pe_tup (pa_cons (pe_callB call_lenK (by rfl) T.b_len (by decide +kernel) (pa_cons (pv 0) pa_nil)) (pa_cons (pe_callF o_ones_table hr (by decide) (by rfl) pass0 (pa_cons (pv 1) pa_nil)) pa_nil))) (pa_cons (pv 1) pa_nil))))))

theorem ok_octets_of (T : Tx P w K mg base) : Okf P w K mg base CX0 1 "octets_of" ["number", "many"] (sp_octets_of K) := by
  obtain ⟨fd, FD⟩ := T.d_octets_of
  refine ⟨⟨fd, FunD.look FD, FD.bindsN fun _ _ _ _ _ _ us hl => match us, hl with | [_, _], _ => rfl, ?_⟩, FD.kp, T.g_octets_of⟩
  refine FunD.ok (CX := CX0) FD sc_octets_of (len_octets_of K) (fun cdv A outer s H vs Q E hr h => ⟨t_octets_of K, PSs.nox ?_, rd_octets_of K vs H Q E h⟩)
  exact (pss_cons (ps_set (i := 2) sc_octets_of.nd rfl (.inl rfl) (pe_lst pa_nil))
  (pss_cons (ps_while PassesOwn.never (pt_cmpR op_lt (pe_callB call_lenK (by rfl) T.b_len (by decide +kernel) (pa_cons (pv 2) pa_nil)) (pv 1) (nomark _))
  (pss_cons (ps_asg (pe_callB call_divmodW (by rfl) T.b_divmod (by decide +kernel) (pa_cons (pv 0) (pa_cons pe_int pa_nil))) (pg_tup rfl (pgs_cons (pg_name (i := 0) sc_octets_of.nd rfl (.inl rfl)) (pgs_cons (pg_name (i := 3) sc_octets_of.nd rfl (.inl rfl)) pgs_nil))))
  (pss_one (ps_expr (pe_bm PySem.F.plainAttrs_list PySem.F.slot_list_append PySem.F.type_list_append mt_append (pv 2) (pa_cons (pv 3) pa_nil))))))
  (pss_one (ps_ret (pv 2)))))

theorem ok_number_of (T : Tx P w K mg base) : Okf P w K mg base CX0 1 "number_of" ["octets"] (sp_number_of K) := by
  obtain ⟨fd, FD⟩ := T.d_number_of
  refine ⟨⟨fd, FunD.look FD, FD.bindsN fun _ _ _ _ _ _ us hl => match us, hl with | [_], _ => rfl, ?_⟩, FD.kp, T.g_number_of⟩
  refine FunD.ok (CX := CX0) FD sc_number_of (len_number_of K) (fun cdv A outer s H vs Q E hr h => ⟨t_number_of K, PSs.nox ?_, rd_number_of K vs H Q E h⟩)
  exact (pss_cons (ps_set (i := 1) sc_number_of.nd rfl (.inl rfl) pe_int)
  (pss_cons (ps_for PassesOwn.never rfl (pi_reversed (by rfl) T.b_reversed (pa_cons (pv 0) pa_nil)) (pg_name (i := 2) sc_number_of.nd rfl (.inl rfl))
  (pss_one (ps_set (i := 1) sc_number_of.nd rfl (.inl rfl) (pe_op op_or (pe_op op_shlW (pv 1) pe_int) (pv 2)))))
  (pss_one (ps_ret (pv 1)))))

theorem ok_fields_of (T : Tx P w K mg base) (o_octets_of : Okf P w K mg base CX0 1 "octets_of" ["number", "many"] (sp_octets_of K)) : Okf P w K mg base CX0 2 "fields_of" ["numbers", "wide"] (sp_fields_of K) := by
  obtain ⟨fd, FD⟩ := T.d_fields_of
  refine ⟨⟨fd, FunD.look FD, FD.bindsN fun _ _ _ _ _ _ us hl => match us, hl with | [_, _], _ => rfl, ?_⟩, FD.kp, T.g_fields_of⟩
  refine FunD.ok (CX := CX0) FD sc_fields_of (len_fields_of K) (fun cdv A outer s H vs Q E hr h => ⟨t_fields_of K, PSs.nox ?_, rd_fields_of K vs H Q E h⟩)
  exact (pss_cons (ps_set (i := 2) sc_fields_of.nd rfl (.inl rfl) (pe_lst pa_nil))
  (pss_cons (ps_for PassesOwn.never rfl (pi_seq (pv 0)) (pg_name (i := 3) sc_fields_of.nd rfl (.inl rfl))
  (pss_one (ps_expr (pe_bm PySem.F.plainAttrs_list PySem.F.slot_list_extend PySem.F.type_list_extend mt_extend (pv 2) (pa_cons (pe_callF o_octets_of hr (by decide) (by rfl) pass0 (pa_cons (pv 3) (pa_cons (pv 1) pa_nil))) pa_nil)))))
  (pss_one (ps_ret (pv 2)))))

theorem ok_numbers_of (T : Tx P w K mg base) (o_number_of : Okf P w K mg base CX0 1 "number_of" ["octets"] (sp_number_of K)) : Okf P w K mg base CX0 2 "numbers_of" ["octets", "wide"] (sp_numbers_of K) := by
  obtain ⟨fd, FD⟩ := T.d_numbers_of
  refine ⟨⟨fd, FunD.look FD, FD.bindsN fun _ _ _ _ _ _ us hl => match us, hl with | [_, _], _ => rfl, ?_⟩, FD.kp, T.g_numbers_of⟩
  refine FunD.ok (CX := CX0) FD sc_numbers_of (len_numbers_of K) (fun cdv A outer s H vs Q E hr h => ⟨t_numbers_of K, PSs.nox ?_, rd_numbers_of K vs H Q E h⟩)
  exact (pss_one (ps_ret (pe_lc (own := [("at", 2)]) (g := (gName 2)) (tt := tYes) rfl sc_numbers_of.nd (pi_range3 (by rfl) T.b_range (pa_cons pe_int (pa_cons (pe_callB call_lenK (by rfl) T.b_len (by decide +kernel) (pa_cons (pv 0) pa_nil)) (pa_cons (pv 1) pa_nil)))) (blkOk_by (N := ["octets", "wide", "at"]) (sc := defScope s_numbers_of) (own := [("at", 2)]) (by decide +kernel)) (fun _ _ _ _ _ => (pg_name (i := 2) sc_numbers_of.nd rfl (.inl rfl))) (fun _ _ _ _ _ => pts_nil) (fun _ _ _ _ _ => (pe_callF o_number_of hr (by decide) (by rfl) pass0 (pa_cons (pe_slice sl_list (pv 0) (po_some (pv 2)) (po_some (pe_op op_add (pv 2) (pv 1)))) pa_nil))))))

theorem ok_blocks_for (T : Tx P w K mg base) : Okf P w K mg base CX0 1 "blocks_for" ["many"] (sp_blocks_for K) := by
  obtain ⟨fd, FD⟩ := T.d_blocks_for
  refine ⟨⟨fd, FunD.look FD, FD.bindsN fun _ _ _ _ _ _ us hl => match us, hl with | [_], _ => rfl, ?_⟩, FD.kp, T.g_blocks_for⟩
  refine FunD.ok (CX := CX0) FD sc_blocks_for (len_blocks_for K) (fun cdv A outer s H vs Q E hr h => ⟨t_blocks_for K, PSs.nox ?_, rd_blocks_for K vs H Q E h⟩)
  exact (pss_one (ps_ret (pe_op op_fdiv (pe_op op_sub (pe_op op_add (pv 0) (pe_gint T.i_WIDE (by rfl))) pe_int) (pe_gint T.i_WIDE (by rfl)))))

theorem ok_row_laid (T : Tx P w K mg base) (o_fields_of : Okf P w K mg base CX0 2 "fields_of" ["numbers", "wide"] (sp_fields_of K)) : Okf P w K mg base CX0 3 "row_laid" ["tables", "blocks"] (sp_row_laid K) := by
  obtain ⟨fd, FD⟩ := T.d_row_laid
  refine ⟨⟨fd, FunD.look FD, FD.bindsN fun _ _ _ _ _ _ us hl => match us, hl with | [_, _], _ => rfl, ?_⟩, FD.kp, T.g_row_laid⟩
  refine FunD.ok (CX := CX0) FD sc_row_laid (len_row_laid K) (fun cdv A outer s H vs Q E hr h => ⟨t_row_laid K, PSs.nox ?_, rd_row_laid K vs H Q E h⟩)
  exact (pss_one (ps_ret (pe_op op_cat (pe_op op_cat (pe_callF o_fields_of hr (by decide) (by rfl) pass0 (pa_cons (pe_slice sl_tup (pv 0) po_none (po_some pe_int)) (pa_cons pe_int pa_nil))) (pe_callF o_fields_of hr (by decide) (by rfl) pass0 (pa_cons (pv 1) (pa_cons pe_int pa_nil)))) (pe_callF o_fields_of hr (by decide) (by rfl) pass0 (pa_cons (pe_ix ix_tup (pv 0) pe_int (fun _ _ => rfl)) (pa_cons pe_int pa_nil))))))

theorem ok_row_octets (T : Tx P w K mg base) (o_kept_row : Okf P w K mg base (L2.CX P w) 4 "kept_row" ["bits"] (sp_kept_row K)) (o_row_laid : Okf P w K mg base CX0 3 "row_laid" ["tables", "blocks"] (sp_row_laid K)) : Okf P w K mg base (L2.CX P w) 6 "row_octets" ["bits"] (sp_row_octets K) := by
  obtain ⟨fd, FD⟩ := T.d_row_octets
  refine ⟨⟨fd, FunD.look FD, FD.bindsN fun _ _ _ _ _ _ us hl => match us, hl with | [_], _ => rfl, ?_⟩, FD.kp, T.g_row_octets⟩
  refine FunD.ok (CX := (L2.CX P w)) FD sc_row_octets (len_row_octets K) (fun cdv A outer s H vs Q E hr h => ⟨t_row_octets K E, ?_, rd_row_octets K vs H Q E h⟩)
  exact (pss_cons (ps_asg (pe_callF o_kept_row hr (by decide) (by rfl) (passX (takes_of rfl rfl rfl rfl)) (pa_cons (pv 0) pa_nil)) (pg_tup rfl (pgs_cons (pg_name (i := 1) sc_row_octets.nd rfl (.inl rfl)) (pgs_cons (pg_name (i := 2) sc_row_octets.nd rfl (.inl rfl)) pgs_nil))))
  (pss_one (ps_ret (pe_op op_cat (pe_lst (pa_cons pe_int pa_nil)) (pe_callF o_row_laid hr (by decide) (by rfl) pass0 (pa_cons (pv 1) (pa_cons (pv 2) pa_nil)))))))

theorem ok_head_of (T : Tx P w K mg base) (o_number_of : Okf P w K mg base CX0 1 "number_of" ["octets"] (sp_number_of K)) : Okf P w K mg base (L2.CX P w) 3 "head_of" ["octets", "kind", "wide"] (sp_head_of K) := by
  obtain ⟨fd, FD⟩ := T.d_head_of
  refine ⟨⟨fd, FunD.look FD, FD.bindsN fun _ _ _ _ _ _ us hl => match us, hl with | [_, _, _], _ => rfl, ?_⟩, FD.kp, T.g_head_of⟩
  refine FunD.ok (CX := (L2.CX P w)) FD sc_head_of (len_head_of K) (fun cdv A outer s H vs Q E hr h => ⟨t_head_of K E, ?_, rd_head_of K vs H Q E h⟩)
  exact (pss_cons (ps_if (PW.pt (pw_or (pt_cmpR op_lt (pe_callB call_lenK (by rfl) T.b_len (by decide +kernel) (pa_cons (pv 0) pa_nil)) (pv 2) (nomark _)) (pw_or (pt_not (pt_val (pe_callB (cr_all rfl) (by rfl) T.b_all (by decide +kernel) (pa_cons (pe_lc (own := [("octet", 3)]) (g := (gName 3)) (tt := tYes) rfl sc_head_of.nd (pi_list (pv 0)) (blkOk_by (N := ["octets", "kind", "wide", "octet", "many"]) (sc := defScope s_head_of) (own := [("octet", 3)]) (by decide +kernel)) (fun _ _ _ _ _ => (pg_name (i := 3) sc_head_of.nd rfl (.inl rfl))) (fun _ _ _ _ _ => pts_nil) (fun _ _ _ _ _ => (pe_chain op_le op_lt pe_int (pv 3) pe_int))) pa_nil)))) (pw_or1 (pt_cmpR op_ne (pe_ix ix_list (pv 0) pe_int (fun _ _ => rfl)) (pv 1) (nomark _))))))
  (pss_one (ps_rz T.x_NoOctets (takes_of rfl rfl rfl rfl)))
  pss_nil)
  (pss_cons (ps_set (i := 4) sc_head_of.nd rfl (.inl rfl) (pe_callF o_number_of hr (by decide) (by rfl) pass0 (pa_cons (pe_slice sl_list (pv 0) (po_some pe_int) (po_some pe_int)) pa_nil)))
  (pss_cons (ps_if (pt_cmpR op_gt (pv 4) (pe_gint T.i_MOST (by rfl)) (nomark _))
  (pss_one (ps_rz T.x_NoOctets (takes_of rfl rfl rfl rfl)))
  pss_nil)
  (pss_one (ps_ret (pe_tup (pa_cons (pv 4) (pa_cons (pe_callF o_number_of hr (by decide) (by rfl) pass0 (pa_cons (pe_slice sl_list (pv 0) (po_some pe_int) (po_some (pv 2))) pa_nil)) pa_nil))))))))

theorem ok_row_long (T : Tx P w K mg base) (o_blocks_for : Okf P w K mg base CX0 1 "blocks_for" ["many"] (sp_blocks_for K)) : Okf P w K mg base CX0 2 "row_long" ["many"] (sp_row_long K) := by
  obtain ⟨fd, FD⟩ := T.d_row_long
  refine ⟨⟨fd, FunD.look FD, FD.bindsN fun _ _ _ _ _ _ us hl => match us, hl with | [_], _ => rfl, ?_⟩, FD.kp, T.g_row_long⟩
  refine FunD.ok (CX := CX0) FD sc_row_long (len_row_long K) (fun cdv A outer s H vs Q E hr h => ⟨t_row_long K, PSs.nox ?_, rd_row_long K vs H Q E h⟩)
  exact (pss_one (ps_ret (pe_op op_add (pe_op op_mul pe_int (pe_callF o_blocks_for hr (by decide) (by rfl) pass0 (pa_cons (pv 0) pa_nil))) pe_int)))

theorem ok_same_again (T : Tx P w K mg base) : Okf P w K mg base (L2.CX P w) 2 "same_again" ["octets", "again"] (sp_same_again K) := by
  obtain ⟨fd, FD⟩ := T.d_same_again
  refine ⟨⟨fd, FunD.look FD, FD.bindsN fun _ _ _ _ _ _ us hl => match us, hl with | [_, _], _ => rfl, ?_⟩, FD.kp, T.g_same_again⟩
  refine FunD.ok (CX := (L2.CX P w)) FD sc_same_again (len_same_again K) (fun cdv A outer s H vs Q E hr h => ⟨t_same_again K E, ?_, rd_same_again K vs H Q E h⟩)
  exact (pss_one (ps_if (pt_cmpR (op_neD hr.units) (pv 0) (pv 1) (nomark _))
  (pss_one (ps_rz T.x_NoOctets (takes_of rfl rfl rfl rfl)))
  pss_nil))

theorem ok_read_row (T : Tx P w K mg base) (o_head_of : Okf P w K mg base (L2.CX P w) 3 "head_of" ["octets", "kind", "wide"] (sp_head_of K)) (o_row_long : Okf P w K mg base CX0 2 "row_long" ["many"] (sp_row_long K)) (o_unpacked : Okf P w K mg base (L2.CX P w) 2 "unpacked" ["blocks", "many"] (sp_unpacked K)) (o_numbers_of : Okf P w K mg base CX0 2 "numbers_of" ["octets", "wide"] (sp_numbers_of K)) (o_blocks_for : Okf P w K mg base CX0 1 "blocks_for" ["many"] (sp_blocks_for K)) (o_same_again : Okf P w K mg base (L2.CX P w) 2 "same_again" ["octets", "again"] (sp_same_again K)) (o_row_octets : Okf P w K mg base (L2.CX P w) 6 "row_octets" ["bits"] (sp_row_octets K)) : Okf P w K mg base (L2.CX P w) 8 "read_row" ["octets"] (sp_read_row K) := by
  obtain ⟨fd, FD⟩ := T.d_read_row
  refine ⟨⟨fd, FunD.look FD, FD.bindsN fun _ _ _ _ _ _ us hl => match us, hl with | [_], _ => rfl, ?_⟩, FD.kp, T.g_read_row⟩
  refine FunD.ok (CX := (L2.CX P w)) FD sc_read_row (len_read_row K) (fun cdv A outer s H vs Q E hr h => ⟨t_read_row K E, ?_, rd_read_row K vs H Q E h⟩)
  exact (pss_cons (ps_set (i := 1) sc_read_row.nd rfl (.inl rfl) (pe_ix ix_tup (pe_callF o_head_of hr (by decide) (by rfl) (passX (takes_of rfl rfl rfl rfl)) (pa_cons (pv 0) (pa_cons pe_int (pa_cons pe_int pa_nil)))) pe_int (fun _ _ => rfl)))
  (pss_cons (ps_if (pt_cmpR op_ne (pe_callB call_lenK (by rfl) T.b_len (by decide +kernel) (pa_cons (pv 0) pa_nil)) (pe_op op_add pe_int (pe_callF o_row_long hr (by decide) (by rfl) pass0 (pa_cons (pv 1) pa_nil))) (nomark _))
  (pss_one (ps_rz T.x_NoOctets (takes_of rfl rfl rfl rfl)))
  pss_nil)
  (pss_cons (ps_set (i := 2) sc_read_row.nd rfl (.inl rfl) (pe_callF o_unpacked hr (by decide) (by rfl) (passX (takes_of rfl rfl rfl rfl)) (pa_cons (pe_callF o_numbers_of hr (by decide) (by rfl) pass0 (pa_cons (pe_slice sl_list (pv 0) (po_some pe_int) (po_some (pe_op op_add pe_int (pe_op op_mul pe_int (pe_callF o_blocks_for hr (by decide) (by rfl) pass0 (pa_cons (pv 1) pa_nil)))))) (pa_cons pe_int pa_nil))) (pa_cons (pv 1) pa_nil))))
  (pss_cons (ps_expr (pe_callF o_same_again hr (by decide) (by rfl) (passX (takes_of rfl rfl rfl rfl)) (pa_cons (pv 0) (pa_cons (pe_callF o_row_octets hr (by decide) (by rfl) (passX (takes_of rfl rfl rfl rfl)) (pa_cons (pv 2) pa_nil)) pa_nil))))
  (pss_one (ps_ret (pv 2)))))))

theorem ok_law_cell_at (T : Tx P w K mg base) : Okf P w K mg base CX0 1 "_law_cell_at" ["_law_script", "_law_k"] (sp_law_cell_at K) := by
  obtain ⟨fd, FD⟩ := T.d_law_cell_at
  refine ⟨⟨fd, FunD.look FD, FD.bindsN fun _ _ _ _ _ _ us hl => match us, hl with | [_, _], _ => rfl, ?_⟩, FD.kp, T.g_law_cell_at⟩
  refine FunD.ok (CX := CX0) FD sc_law_cell_at (len_law_cell_at K) (fun cdv A outer s H vs Q E hr h => ⟨t_law_cell_at K, PSs.nox ?_, rd_law_cell_at K vs H Q E h⟩)
  exact (pss_cons (ps_if (pt_cmpR op_lt (pv 1) (pe_callB call_lenK (by rfl) T.b_len (by decide +kernel) (pa_cons (pv 0) pa_nil)) (nomark _))
  (pss_one (ps_ret (pe_ix ix_list (pv 0) (pv 1) (fun _ _ => rfl))))
  pss_nil)
  (pss_one (ps_ret pe_int)))

theorem ok_law_whole (T : Tx P w K mg base) : Okf P w K mg base CX0 1 "_law_whole" ["_law_found"] (sp_law_whole K) := by
  obtain ⟨fd, FD⟩ := T.d_law_whole
  refine ⟨⟨fd, FunD.look FD, FD.bindsN fun _ _ _ _ _ _ us hl => match us, hl with | [_], _ => rfl, ?_⟩, FD.kp, T.g_law_whole⟩
  refine FunD.ok (CX := CX0) FD sc_law_whole (len_law_whole K) (fun cdv A outer s H vs Q E hr h => ⟨t_law_whole K, PSs.nox ?_, rd_law_whole K vs H Q E h⟩)
  exact (pss_one (ps_ret (pe_and (pe_callB call_isB (by rfl) T.b_isinstance (by decide +kernel) (pa_cons (pv 0) (pa_cons (pe_bltn (v := .ty "int") (by rfl) T.b_int (by decide +kernel) rfl) pa_nil))) (pe_one (pe_not (pe_callB call_isB (by rfl) T.b_isinstance (by decide +kernel) (pa_cons (pv 0) (pa_cons (pe_bltn (v := .ty "bool") (by rfl) T.b_bool (by decide +kernel) rfl) pa_nil))))))))

theorem ok_law_bits (T : Tx P w K mg base) : Okf P w K mg base CX0 1 "_law_bits" ["_law_script"] (sp_law_bits K) := by
  obtain ⟨fd, FD⟩ := T.d_law_bits
  refine ⟨⟨fd, FunD.look FD, FD.bindsN fun _ _ _ _ _ _ us hl => match us, hl with | [_], _ => rfl, ?_⟩, FD.kp, T.g_law_bits⟩
  refine FunD.ok (CX := CX0) FD sc_law_bits (len_law_bits K) (fun cdv A outer s H vs Q E hr h => ⟨t_law_bits K, PSs.nox ?_, rd_law_bits K vs H Q E h⟩)
  exact (pss_cons (ps_set (i := 1) sc_law_bits.nd rfl (.inl rfl) (pe_lst pa_nil))
  (pss_cons (ps_for PassesOwn.never rfl (pi_list (pe_slice sl_list (pv 0) po_none (po_some pe_int))) (pg_name (i := 2) sc_law_bits.nd rfl (.inl rfl))
  (pss_cons (ps_set (i := 3) sc_law_bits.nd rfl (.inl rfl) (pe_op op_mod (pe_op op_mul (pv 2) pe_int) pe_int))
  (pss_cons (ps_set (i := 4) sc_law_bits.nd rfl (.inl rfl) (pe_op op_fdiv (pv 3) pe_int))
  (pss_one (ps_for PassesOwn.never rfl (pi_range1 (by rfl) T.b_range (pa_cons (pe_op op_add pe_int (pe_op op_mod (pe_op op_fdiv (pv 3) pe_int) pe_int)) pa_nil)) (pg_name (i := 5) sc_law_bits.nd rfl (.inl rfl))
  (pss_cons (ps_expr (pe_bm PySem.F.plainAttrs_list PySem.F.slot_list_append PySem.F.type_list_append mt_append (pv 1) (pa_cons (pe_op op_mod (pv 4) pe_int) pa_nil)))
  (pss_one (ps_if (pt_cmpR op_eq (pe_op op_mod (pv 3) pe_int) pe_int (nomark _))
  (pss_one (ps_set (i := 4) sc_law_bits.nd rfl (.inl rfl) (pe_op op_fdiv (pv 4) pe_int)))
  pss_nil))))))))
  (pss_one (ps_ret (pv 1)))))

theorem ok_law_two (T : Tx P w K mg base) : Okf P w K mg base CX0 1 "_law_two" ["_law_number"] (sp_law_two K) := by
  obtain ⟨fd, FD⟩ := T.d_law_two
  refine ⟨⟨fd, FunD.look FD, FD.bindsN fun _ _ _ _ _ _ us hl => match us, hl with | [_], _ => rfl, ?_⟩, FD.kp, T.g_law_two⟩
  refine FunD.ok (CX := CX0) FD sc_law_two (len_law_two K) (fun cdv A outer s H vs Q E hr h => ⟨t_law_two K, PSs.nox ?_, rd_law_two K vs H Q E h⟩)
  exact (pss_one (ps_ret (pe_lst (pa_cons (pe_op op_mod (pv 0) pe_int) (pa_cons (pe_op op_fdiv (pv 0) pe_int) pa_nil)))))

theorem ok_law_written (T : Tx P w K mg base) (o_law_two : Okf P w K mg base CX0 1 "_law_two" ["_law_number"] (sp_law_two K)) : Okf P w K mg base CX0 2 "_law_written" ["_law_bits_here"] (sp_law_written K) := by
  obtain ⟨fd, FD⟩ := T.d_law_written
  refine ⟨⟨fd, FunD.look FD, FD.bindsN fun _ _ _ _ _ _ us hl => match us, hl with | [_], _ => rfl, ?_⟩, FD.kp, T.g_law_written⟩
  refine FunD.ok (CX := CX0) FD sc_law_written (len_law_written K) (fun cdv A outer s H vs Q E hr h => ⟨t_law_written K, PSs.nox ?_, rd_law_written K vs H Q E h⟩)
  exact (pss_cons (ps_set (i := 1) sc_law_written.nd rfl (.inl rfl) (pe_lst pa_nil))
  (pss_cons (ps_for PassesOwn.never rfl (pi_range3 (by rfl) T.b_range (pa_cons pe_int (pa_cons (pe_callB call_lenK (by rfl) T.b_len (by decide +kernel) (pa_cons (pv 0) pa_nil)) (pa_cons pe_int pa_nil)))) (pg_name (i := 2) sc_law_written.nd rfl (.inl rfl))
  (pss_cons (ps_set (i := 3) sc_law_written.nd rfl (.inl rfl) pe_int)
  (pss_cons (ps_for PassesOwn.never rfl (pi_reversed (by rfl) T.b_reversed (pa_cons (pe_slice sl_list (pv 0) (po_some (pv 2)) (po_some (pe_op op_add (pv 2) pe_int))) pa_nil)) (pg_name (i := 4) sc_law_written.nd rfl (.inl rfl))
  (pss_one (ps_set (i := 3) sc_law_written.nd rfl (.inl rfl) (pe_op op_add (pe_op op_mul pe_int (pv 3)) (pv 4)))))
  (pss_one (ps_expr (pe_bm PySem.F.plainAttrs_list PySem.F.slot_list_append PySem.F.type_list_append mt_append (pv 1) (pa_cons (pv 3) pa_nil)))))))
  (pss_cons (ps_while PassesOwn.never (pt_cmpR op_ne (pe_op op_mod (pe_callB call_lenK (by rfl) T.b_len (by decide +kernel) (pa_cons (pv 1) pa_nil)) pe_int) pe_int (nomark _))
  (pss_one (ps_expr (pe_bm PySem.F.plainAttrs_list PySem.F.slot_list_append PySem.F.type_list_append mt_append (pv 1) (pa_cons pe_int pa_nil)))))
  (pss_cons (ps_set (i := 5) sc_law_written.nd rfl (.inl rfl) pe_int)
  (pss_cons (ps_expr (pe_bm PySem.F.plainAttrs_list PySem.F.slot_list_extend PySem.F.type_list_extend mt_extend (pv 1) (pa_cons (pe_lst (pa_cons pe_int (pa_cons pe_int pa_nil))) pa_nil)))
  (pss_cons (ps_for PassesOwn.never rfl (pi_range3 (by rfl) T.b_range (pa_cons pe_int (pa_cons (pe_callB call_lenK (by rfl) T.b_len (by decide +kernel) (pa_cons (pv 0) pa_nil)) (pa_cons pe_int pa_nil)))) (pg_name (i := 2) sc_law_written.nd rfl (.inl rfl))
  (pss_cons (ps_set (i := 5) sc_law_written.nd rfl (.inl rfl) (pe_op op_add (pv 5) (pe_callB (cr_sum rfl) (by rfl) T.b_sum (by decide +kernel) (pa_cons (pe_slice sl_list (pv 0) (po_some (pv 2)) (po_some (pe_op op_add (pv 2) pe_int))) pa_nil))))
  (pss_one (ps_expr (pe_bm PySem.F.plainAttrs_list PySem.F.slot_list_extend PySem.F.type_list_extend mt_extend (pv 1) (pa_cons (pe_callF o_law_two hr (by decide) (by rfl) pass0 (pa_cons (pv 5) pa_nil)) pa_nil))))))
  (pss_one (ps_ret (pe_op op_cat (pe_op op_cat (pe_lst (pa_cons pe_int pa_nil)) (pe_callF o_law_two hr (by decide) (by rfl) pass0 (pa_cons (pe_callB call_lenK (by rfl) T.b_len (by decide +kernel) (pa_cons (pv 0) pa_nil)) pa_nil))) (pv 1))))))))))

theorem ok_law_due (T : Tx P w K mg base) (o_law_written : Okf P w K mg base CX0 2 "_law_written" ["_law_bits_here"] (sp_law_written K)) : Okf P w K mg base CX0 3 "_law_due" ["_law_octets_here"] (sp_law_due K) := by
  obtain ⟨fd, FD⟩ := T.d_law_due
  refine ⟨⟨fd, FunD.look FD, FD.bindsN fun _ _ _ _ _ _ us hl => match us, hl with | [_], _ => rfl, ?_⟩, FD.kp, T.g_law_due⟩
  refine FunD.ok (CX := CX0) FD sc_law_due (len_law_due K) (fun cdv A outer s H vs Q E hr h => ⟨t_law_due K, PSs.nox ?_, rd_law_due K vs H Q E h⟩)
  exact (pss_cons (ps_if (PW.pt (pw_or (pt_cmpR op_lt (pe_callB call_lenK (by rfl) T.b_len (by decide +kernel) (pa_cons (pv 0) pa_nil)) pe_int (nomark _)) (pw_or1 (pt_cmpR (op_neD hr.units) (pe_lc (own := [("_law_octet", 1)]) (g := (gName 1)) (tt := (tOr (tTest (tOp rLt (tVar 1) (tC (.int 0)))) (tTest (tOp rGtI (tVar 1) (tC (.int 255)))))) rfl sc_law_due.nd (pi_list (pv 0)) (blkOk_by (N := ["_law_octets_here", "_law_octet", "_law_many", "_law_bits_here", "_law_k"]) (sc := defScope s_law_due) (own := [("_law_octet", 1)]) (by decide +kernel)) (fun _ _ _ _ _ => (pg_name (i := 1) sc_law_due.nd rfl (.inl rfl))) (fun _ _ _ _ _ => (pts_one (PW.pt (pw_or (pt_cmpR op_lt (pv 1) pe_int (nomark _)) (pw_or1 (pt_cmpR op_gt (pv 1) pe_int (nomark _))))))) (fun _ _ _ _ _ => (pv 1))) (pe_lst pa_nil) (nomark _)))))
  (pss_one (ps_ret (pe_tup (pa_cons pe_int (pa_cons pe_bl (pa_cons pe_bl (pa_cons pe_bl pa_nil)))))))
  pss_nil)
  (pss_cons (ps_set (i := 2) sc_law_due.nd rfl (.inl rfl) (pe_op op_add (pe_ix ix_list (pv 0) pe_int (fun _ _ => rfl)) (pe_op op_mul pe_int (pe_ix ix_list (pv 0) pe_int (fun _ _ => rfl)))))
  (pss_cons (ps_set (i := 3) sc_law_due.nd rfl (.inl rfl) (pe_lst pa_nil))
  (pss_cons (ps_for PassesOwn.never rfl (pi_list (pe_slice sl_list (pv 0) (po_some pe_int) (po_some (pe_op op_add pe_int (pe_op op_fdiv (pe_op op_add (pe_callB (call_min2K rfl) (by rfl) T.b_min (by decide +kernel) (pa_cons (pv 2) (pa_cons pe_int pa_nil))) pe_int) pe_int))))) (pg_name (i := 1) sc_law_due.nd rfl (.inl rfl))
  (pss_one (ps_for PassesOwn.never rfl (pi_range1 (by rfl) T.b_range (pa_cons pe_int pa_nil)) (pg_name (i := 4) sc_law_due.nd rfl (.inl rfl))
  (pss_cons (ps_expr (pe_bm PySem.F.plainAttrs_list PySem.F.slot_list_append PySem.F.type_list_append mt_append (pv 3) (pa_cons (pe_op op_mod (pv 1) pe_int) pa_nil)))
  (pss_one (ps_set (i := 1) sc_law_due.nd rfl (.inl rfl) (pe_op op_fdiv (pv 1) pe_int)))))))
  (pss_cons (ps_set (i := 3) sc_law_due.nd rfl (.inl rfl) (pe_slice sl_list (pv 3) po_none (po_some (pv 2))))
  (pss_cons (ps_if (pt_cmpR (op_neD hr.units) (pe_callF o_law_written hr (by decide) (by rfl) pass0 (pa_cons (pv 3) pa_nil)) (pv 0) (nomark _))
  (pss_one (ps_ret (pe_tup (pa_cons pe_int (pa_cons pe_bl (pa_cons pe_bl (pa_cons pe_bl pa_nil)))))))
  pss_nil)
  (pss_one (ps_ret (pv 3)))))))))

theorem ok_law_told (T : Tx P w K mg base) (o_read_row : Okf P w K mg base (L2.CX P w) 8 "read_row" ["octets"] (sp_read_row K)) (o_law_whole : Okf P w K mg base CX0 1 "_law_whole" ["_law_found"] (sp_law_whole K)) : Okf P w K mg base CX0 9 "_law_told" ["_law_octets_here"] (sp_law_told K) := by
  obtain ⟨fd, FD⟩ := T.d_law_told
  refine ⟨⟨fd, FunD.look FD, FD.bindsN fun _ _ _ _ _ _ us hl => match us, hl with | [_], _ => rfl, ?_⟩, FD.kp, T.g_law_told⟩
  refine FunD.ok (CX := CX0) FD sc_law_told (len_law_told K) (fun cdv A outer s H vs Q E hr h => ⟨t_law_told K, PSs.nox ?_, rd_law_told K T.fx vs H Q E h⟩)
  exact (pss_cons (ps_set (i := 1) sc_law_told.nd rfl (.inl rfl) (pe_tup (pa_cons pe_int (pa_cons pe_bl (pa_cons pe_bl (pa_cons pe_bl pa_nil))))))
  (pss_cons (ps_set (i := 2) sc_law_told.nd rfl (.inl rfl) (pe_lst pa_nil))
  (pss_cons (ps_try_as (i := 3) (tb := fun W => (tAsg (tCallS (sp_read_row K) (WE W) (tCons (tVar 0) tNil)) (gName 2))) (ts := fun a cls d => (tSeq (tAsg (tCB (rIsXT K cls d a) (tCons (tVar 3) (tCons (tTup (tCons (tC (.ref (He.ga K "TooMany"))) (tCons (tC (.ref (He.ga K "NoBit"))) (tCons (tC (.ref (He.ga K "NoPlace"))) (tCons (tC (.ref (He.ga K "NoNode"))) (tCons (tC (.ref (He.ga K "NoTree"))) (tCons (tC (.ref (He.ga K "NoSign"))) (tCons (tC (.ref (He.ga K "NoWord"))) (tCons (tC (.ref (He.ga K "Twice"))) tNil))))))))) tNil))) (gName 4))
  (tAsg (tTup (tCons (tC (.int 1)) (tCons (tCB (rIsX K cls d a) (tCons (tVar 3) (tCons (tC (.ref (He.ga K "WoodError"))) tNil))) (tCons (tCB (rIsX K cls d a) (tCons (tVar 3) (tCons (tC (.ty "ValueError")) tNil))) (tCons (tVar 4) tNil))))) (gName 1)))) (Wout := (fun _ _ _ _ => False)) rfl rfl sc_law_told.nd rfl rfl ⟨rfl, by decide, .inl T.g_NoOctets⟩ takes0 (fun W pn xe tk po => (pss_one (ps_set (i := 2) sc_law_told.nd rfl (.inl rfl) (pe_callFS o_read_row hr (by decide) (by rfl) tk (pa_cons (pv 0) pa_nil))))) (fun a oe cls d pn hz hf => (pss_cons (ps_set (i := 4) sc_law_told.nd rfl (.inl rfl) (pe_callB (call_isXT hz hf) (by rfl) T.b_isinstance (by decide +kernel) (pa_cons (pv 3) (pa_cons (pe_tup (pa_cons (pe_glob (by rfl) T.g_TooMany rfl) (pa_cons (pe_glob (by rfl) T.g_NoBit rfl) (pa_cons (pe_glob (by rfl) T.g_NoPlace rfl) (pa_cons (pe_glob (by rfl) T.g_NoNode rfl) (pa_cons (pe_glob (by rfl) T.g_NoTree rfl) (pa_cons (pe_glob (by rfl) T.g_NoSign rfl) (pa_cons (pe_glob (by rfl) T.g_NoWord rfl) (pa_cons (pe_glob (by rfl) T.g_Twice rfl) pa_nil))))))))) pa_nil))))
  (pss_one (ps_set (i := 1) sc_law_told.nd rfl (.inl rfl) (pe_tup (pa_cons pe_int (pa_cons (pe_callB (call_isX hz hf) (by rfl) T.b_isinstance (by decide +kernel) (pa_cons (pv 3) (pa_cons (pe_glob (by rfl) T.g_WoodError rfl) pa_nil))) (pa_cons (pe_callB (call_isX hz hf) (by rfl) T.b_isinstance (by decide +kernel) (pa_cons (pv 3) (pa_cons (pe_bltn (v := .ty "ValueError") (by rfl) T.b_ValueError (by decide +kernel) rfl) pa_nil))) (pa_cons (pv 4) pa_nil))))))))))
  (pss_cons (ps_if (pt_cmpR op_gt (pe_ix ix_tup (pv 1) pe_int (fun _ _ => rfl)) pe_int (nomark _))
  (pss_one (ps_ret (pv 1)))
  pss_nil)
  (pss_cons (ps_if (PW.pt (pw_or (pt_not (pt_val (pe_callB call_isB (by rfl) T.b_isinstance (by decide +kernel) (pa_cons (pv 2) (pa_cons (pe_bltn (v := .ty "list") (by rfl) T.b_list (by decide +kernel) rfl) pa_nil))))) (pw_or1 (pt_cmpR op_gt (pe_callB call_lenK (by rfl) T.b_len (by decide +kernel) (pa_cons (pe_lc (own := [("_law_bit", 5)]) (g := (gName 5)) (tt := (tNot (tB (tCall (sp_law_whole K) [] E0 (tCons (tVar 5) tNil))))) rfl sc_law_told.nd (pi_list (pv 2)) (blkOk_by (N := ["_law_octets_here", "_law_told_here", "_law_found", "e", "_law_others", "_law_bit"]) (sc := defScope s_law_told) (own := [("_law_bit", 5)]) (by decide +kernel)) (fun _ _ _ _ _ => (pg_name (i := 5) sc_law_told.nd rfl (.inl rfl))) (fun _ _ _ _ _ => (pts_one (pt_not (pt_val (pe_callF o_law_whole hr (by decide) (by rfl) pass0 (pa_cons (pv 5) pa_nil)))))) (fun _ _ _ _ _ => (pv 5))) pa_nil)) pe_int (nomark _)))))
  (pss_one (ps_ret (pe_tup (pa_cons pe_int (pa_cons pe_bl (pa_cons pe_bl (pa_cons pe_bl pa_nil)))))))
  pss_nil)
  (pss_one (ps_ret (pv 2))))))))

theorem ok_law_changed (T : Tx P w K mg base) : Okf P w K mg base CX0 1 "_law_changed" ["_law_octets_here", "_law_cell"] (sp_law_changed K) := by
  obtain ⟨fd, FD⟩ := T.d_law_changed
  refine ⟨⟨fd, FunD.look FD, FD.bindsN fun _ _ _ _ _ _ us hl => match us, hl with | [_, _], _ => rfl, ?_⟩, FD.kp, T.g_law_changed⟩
  refine FunD.ok (CX := CX0) FD sc_law_changed (len_law_changed K) (fun cdv A outer s H vs Q E hr h => ⟨t_law_changed K, PSs.nox ?_, rd_law_changed K vs H Q E h⟩)
  exact (pss_cons (ps_set (i := 2) sc_law_changed.nd rfl (.inl rfl) (pe_op op_mod (pv 1) (pe_cst (pe_op op_pow pe_int pe_int) fun _ _ _ h => ⟨_, _, rfl, rfl, ⟨by decide, by decide, by decide⟩, h⟩)))
  (pss_cons (ps_set (i := 3) sc_law_changed.nd rfl (.inl rfl) (pe_op op_mod (pe_op op_fdiv (pv 2) pe_int) (pe_op op_add (pe_callB call_lenK (by rfl) T.b_len (by decide +kernel) (pa_cons (pv 0) pa_nil)) pe_int)))
  (pss_cons (ps_set (i := 4) sc_law_changed.nd rfl (.inl rfl) (pe_op op_mod (pe_op op_mod (pe_op op_mul (pv 2) pe_int) pe_int) pe_int))
  (pss_cons (ps_if (PW.pt (pw_and (pt_cmpR op_eq (pe_op op_mod (pv 2) pe_int) pe_int (nomark _)) (pw_and1 (pt_cmpR op_lt (pv 3) (pe_callB call_lenK (by rfl) T.b_len (by decide +kernel) (pa_cons (pv 0) pa_nil)) (nomark _)))))
  (pss_cons (ps_set (i := 5) sc_law_changed.nd rfl (.inl rfl) (pe_op op_shlW pe_int (pe_op op_mod (pv 4) pe_int)))
  (pss_one (ps_ret (pe_op op_cat (pe_op op_cat (pe_slice sl_list (pv 0) po_none (po_some (pv 3))) (pe_lst (pa_cons (pe_op op_xor (pe_ix ix_list (pv 0) (pv 3) (fun _ _ => rfl)) (pv 5)) pa_nil))) (pe_slice sl_list (pv 0) (po_some (pe_op op_add (pv 3) pe_int)) po_none)))))
  pss_nil)
  (pss_cons (ps_if (PW.pt (pw_and (pt_cmpR op_eq (pe_op op_mod (pv 2) pe_int) pe_int (nomark _)) (pw_and1 (pt_cmpR op_lt (pv 3) (pe_callB call_lenK (by rfl) T.b_len (by decide +kernel) (pa_cons (pv 0) pa_nil)) (nomark _)))))
  (pss_one (ps_ret (pe_op op_cat (pe_op op_cat (pe_slice sl_list (pv 0) po_none (po_some (pv 3))) (pe_lst (pa_cons (pe_ix ix_list (pe_lst (pa_cons (pv 4) (pa_cons (pe_op op_add pe_int (pv 2)) (pa_cons (pe_op op_sub (pe_cst (pe_op op_sub pe_int pe_int) fun _ _ _ h => ⟨_, _, rfl, rfl, h⟩) (pv 2)) pa_nil)))) (pe_op op_mod (pv 4) pe_int) (fun _ _ => rfl)) pa_nil))) (pe_slice sl_list (pv 0) (po_some (pe_op op_add (pv 3) pe_int)) po_none))))
  pss_nil)
  (pss_cons (ps_if (pt_cmpR op_eq (pe_op op_mod (pv 2) pe_int) pe_int (nomark _))
  (pss_one (ps_ret (pe_op op_cat (pe_op op_cat (pe_slice sl_list (pv 0) po_none (po_some (pv 3))) (pe_lst (pa_cons (pv 4) pa_nil))) (pe_slice sl_list (pv 0) (po_some (pv 3)) po_none))))
  pss_nil)
  (pss_cons (ps_if (pt_cmpR op_eq (pe_op op_mod (pv 2) pe_int) pe_int (nomark _))
  (pss_one (ps_ret (pe_op op_cat (pe_slice sl_list (pv 0) po_none (po_some (pv 3))) (pe_slice sl_list (pv 0) (po_some (pe_op op_add (pv 3) pe_int)) po_none))))
  pss_nil)
  (pss_cons (ps_if (PW.pt (pw_and (pt_cmpR op_eq (pe_op op_mod (pv 2) pe_int) pe_int (nomark _)) (pw_and1 (pt_cmpR op_lt (pv 3) (pe_callB call_lenK (by rfl) T.b_len (by decide +kernel) (pa_cons (pv 0) pa_nil)) (nomark _)))))
  (pss_one (ps_ret (pe_op op_cat (pe_op op_cat (pe_slice sl_list (pv 0) po_none (po_some (pv 3))) (pe_revL (pe_slice sl_list (pv 0) (po_some (pv 3)) (po_some (pe_op op_add (pv 3) pe_int))))) (pe_slice sl_list (pv 0) (po_some (pe_op op_add (pv 3) pe_int)) po_none))))
  pss_nil)
  (pss_cons (ps_if (pt_cmpR op_eq (pe_op op_mod (pv 2) pe_int) pe_int (nomark _))
  (pss_one (ps_ret (pe_op op_catK (pv 0) (pe_lst (pa_cons pe_int pa_nil)))))
  pss_nil)
  (pss_one (ps_ret (pv 0))))))))))))

theorem ok_law_octets (T : Tx P w K mg base) (o_law_cell_at : Okf P w K mg base CX0 1 "_law_cell_at" ["_law_script", "_law_k"] (sp_law_cell_at K)) (o_law_bits : Okf P w K mg base CX0 1 "_law_bits" ["_law_script"] (sp_law_bits K)) (o_law_written : Okf P w K mg base CX0 2 "_law_written" ["_law_bits_here"] (sp_law_written K)) (o_law_changed : Okf P w K mg base CX0 1 "_law_changed" ["_law_octets_here", "_law_cell"] (sp_law_changed K)) (o_law_two : Okf P w K mg base CX0 1 "_law_two" ["_law_number"] (sp_law_two K)) : Okf P w K mg base CX0 3 "_law_octets" ["_law_script"] (sp_law_octets K) := by
  obtain ⟨fd, FD⟩ := T.d_law_octets
  refine ⟨⟨fd, FunD.look FD, FD.bindsN fun _ _ _ _ _ _ us hl => match us, hl with | [_], _ => rfl, ?_⟩, FD.kp, T.g_law_octets⟩
  refine FunD.ok (CX := CX0) FD sc_law_octets (len_law_octets K) (fun cdv A outer s H vs Q E hr h => ⟨t_law_octets K, PSs.nox ?_, rd_law_octets K vs H Q E h⟩)
  exact (pss_cons (ps_set (i := 1) sc_law_octets.nd rfl (.inl rfl) (pe_op op_mod (pe_callF o_law_cell_at hr (by decide) (by rfl) pass0 (pa_cons (pv 0) (pa_cons pe_int pa_nil))) pe_int))
  (pss_cons (ps_set (i := 2) sc_law_octets.nd rfl (.inl rfl) (pe_op op_cat (pe_lst (pa_cons pe_int pa_nil)) (pe_lc (own := [("_law_cell", 3)]) (g := (gName 3)) (tt := tYes) rfl sc_law_octets.nd (pi_list (pe_slice sl_list (pv 0) po_none (po_some pe_int))) (blkOk_by (N := ["_law_script", "_law_way", "_law_octets_here", "_law_cell", "_law_bits_here", "_law_k", "_law_many"]) (sc := defScope s_law_octets) (own := [("_law_cell", 3)]) (by decide +kernel)) (fun _ _ _ _ _ => (pg_name (i := 3) sc_law_octets.nd rfl (.inl rfl))) (fun _ _ _ _ _ => pts_nil) (fun _ _ _ _ _ => (pe_op op_mod (pv 3) pe_int)))))
  (pss_cons (ps_set (i := 4) sc_law_octets.nd rfl (.inl rfl) (pe_callF o_law_bits hr (by decide) (by rfl) pass0 (pa_cons (pv 0) pa_nil)))
  (Evl.pss_cut (ps_if (PW.pt (pw_and (pt_cmpR op_eq (pv 1) pe_int (nomark _)) (pw_and1 (pt_cmpR op_gt (pe_op op_mod (pe_callF o_law_cell_at hr (by decide) (by rfl) pass0 (pa_cons (pv 0) (pa_cons pe_int pa_nil))) pe_int) pe_int (nomark _)))))
  (pss_one (ps_set (i := 4) sc_law_octets.nd rfl (.inl rfl) (pe_slice sl_list (pe_op op_cat (pv 4) (pe_op op_rep (pe_lst (pa_cons pe_int (pa_cons pe_int pa_nil))) pe_int)) po_none (po_some (pe_op op_add pe_int (pe_op op_mod (pe_callF o_law_cell_at hr (by decide) (by rfl) pass0 (pa_cons (pv 0) (pa_cons pe_int pa_nil))) pe_int))))))
  pss_nil)
  (Evl.pss_cut (ps_if (pt_cmpR op_lt (pv 1) pe_int (nomark _))
  (pss_one (ps_set (i := 2) sc_law_octets.nd rfl (.inl rfl) (pe_callF o_law_written hr (by decide) (by rfl) pass0 (pa_cons (pv 4) pa_nil))))
  pss_nil)
  (Evl.pss_cut (ps_if (pt_cmpR op_lt (pv 1) pe_int (nomark _))
  (pss_one (ps_for PassesOwn.never rfl (pi_range1 (by rfl) T.b_range (pa_cons (pe_op op_add pe_int (pe_op op_mod (pe_callF o_law_cell_at hr (by decide) (by rfl) pass0 (pa_cons (pv 0) (pa_cons pe_int pa_nil))) pe_int)) pa_nil)) (pg_name (i := 5) sc_law_octets.nd rfl (.inl rfl))
  (pss_one (ps_set (i := 2) sc_law_octets.nd rfl (.inl rfl) (pe_callF o_law_changed hr (by decide) (by rfl) pass0 (pa_cons (pv 2) (pa_cons (pe_callF o_law_cell_at hr (by decide) (by rfl) pass0 (pa_cons (pv 0) (pa_cons (pe_op op_add pe_int (pv 5)) pa_nil))) pa_nil)))))))
  pss_nil)
  (Evl.pss_cut (ps_if (PW.pt (pw_and (pt_cmpR op_eq (pv 1) pe_int (nomark _)) (pw_and1 (pt_cmpR op_gt (pe_callB call_lenK (by rfl) T.b_len (by decide +kernel) (pa_cons (pv 2) pa_nil)) pe_int (nomark _)))))
  (pss_cons (ps_set (i := 6) sc_law_octets.nd rfl (.inl rfl) (pe_op op_add (pe_ix ix_list (pv 2) pe_int (fun _ _ => rfl)) (pe_op op_mul pe_int (pe_op op_mod (pe_ix ix_list (pv 2) pe_int (fun _ _ => rfl)) pe_int))))
  (pss_one (ps_set (i := 2) sc_law_octets.nd rfl (.inl rfl) (pe_op op_cat (pe_op op_cat (pe_lst (pa_cons pe_int pa_nil)) (pe_callF o_law_two hr (by decide) (by rfl) pass0 (pa_cons (pv 6) pa_nil))) (pe_slice sl_list (pe_op op_cat (pe_slice sl_list (pv 2) (po_some pe_int) po_none) (pe_op op_rep (pe_lst (pa_cons pe_int pa_nil)) pe_int)) po_none (po_some (pe_op op_add (pe_op op_mul (pe_op op_fdiv (pe_op op_add (pv 6) pe_int) pe_int) pe_int) pe_int)))))))
  pss_nil)
  (Evl.pss_cut (ps_if (pt_cmpR op_eq (pv 1) pe_int (nomark _))
  (pss_one (ps_set (i := 2) sc_law_octets.nd rfl (.inl rfl) (pe_lst (pa_cons pe_int (pa_cons (pe_op op_sub pe_int (pe_op op_mod (pe_callF o_law_cell_at hr (by decide) (by rfl) pass0 (pa_cons (pv 0) (pa_cons pe_int pa_nil))) pe_int)) (pa_cons (pe_op op_sub pe_int (pe_op op_mod (pe_callF o_law_cell_at hr (by decide) (by rfl) pass0 (pa_cons (pv 0) (pa_cons pe_int pa_nil))) pe_int)) pa_nil))))))
  pss_nil)
  (Evl.pss_cut (ps_if (pt_cmpR op_eq (pe_op op_mod (pe_callF o_law_cell_at hr (by decide) (by rfl) pass0 (pa_cons (pv 0) (pa_cons pe_int pa_nil))) pe_int) pe_int (nomark _))
  (pss_one (ps_set (i := 2) sc_law_octets.nd rfl (.inl rfl) (pe_lst pa_nil)))
  pss_nil)
  (pss_one (ps_ret (pv 2))))))))))))

theorem ok_law (T : Tx P w K mg base) (o_law_octets : Okf P w K mg base CX0 3 "_law_octets" ["_law_script"] (sp_law_octets K)) (o_law_due : Okf P w K mg base CX0 3 "_law_due" ["_law_octets_here"] (sp_law_due K)) (o_law_told : Okf P w K mg base CX0 9 "_law_told" ["_law_octets_here"] (sp_law_told K)) (o_row_octets : Okf P w K mg base (L2.CX P w) 6 "row_octets" ["bits"] (sp_row_octets K)) : Okf P w K mg base CX0 10 "law" ["_law_script"] (sp_law K) := by
  obtain ⟨fd, FD⟩ := T.d_law
  refine ⟨⟨fd, FunD.look FD, FD.bindsN fun _ _ _ _ _ _ us hl => match us, hl with | [_], _ => rfl, ?_⟩, FD.kp, T.g_law⟩
  refine FunD.ok (CX := CX0) FD sc_law (len_law K) (fun cdv A outer s H vs Q E hr h => ⟨t_law K, PSs.nox ?_, rd_law K T.fx vs H Q E h⟩)
  exact (pss_cons (ps_set (i := 1) sc_law.nd rfl (.inl rfl) (pe_callF o_law_octets hr (by decide) (by rfl) pass0 (pa_cons (pv 0) pa_nil)))
  (pss_cons (ps_set (i := 2) sc_law.nd rfl (.inl rfl) (pe_callTy call_listK (by rfl) T.b_list (by decide +kernel) (pa_cons (pv 1) pa_nil)))
  (pss_cons (ps_set (i := 3) sc_law.nd rfl (.inl rfl) (pe_callF o_law_due hr (by decide) (by rfl) pass0 (pa_cons (pv 1) pa_nil)))
  (pss_cons (ps_set (i := 4) sc_law.nd rfl (.inl rfl) (pe_callF o_law_told hr (by decide) (by rfl) pass0 (pa_cons (pv 2) pa_nil)))
  (pss_cons (ps_if (PW.pt (pw_or (pt_cmpR (op_neD hr.units) (pv 4) (pv 3) (nomark _)) (pw_or1 (pt_cmpR (op_neD hr.units) (pv 2) (pv 1) (nomark _)))))
  (pss_one (ps_ret pe_bl))
  pss_nil)
  (Evl.pss_cut (ps_if (pt_val (pe_callB call_isB (by rfl) T.b_isinstance (by decide +kernel) (pa_cons (pv 4) (pa_cons (pe_bltn (v := .ty "list") (by rfl) T.b_list (by decide +kernel) rfl) pa_nil))))
  (pss_cons (ps_if (pt_cmpR (op_neD hr.units) (pe_callF o_row_octets hr (by decide) (by rfl) passL (pa_cons (pe_callTy call_listK (by rfl) T.b_list (by decide +kernel) (pa_cons (pv 4) pa_nil)) pa_nil)) (pv 1) (nomark _))
  (pss_one (ps_ret pe_bl))
  pss_nil)
  (pss_one (ps_expr (pe_bm PySem.F.plainAttrs_list PySem.F.slot_list_append PySem.F.type_list_append mt_append (pv 4) (pa_cons pe_int pa_nil)))))
  pss_nil)
  (pss_one (ps_ret (pe_cmpR (op_eqD hr.units) (pe_callF o_law_told hr (by decide) (by rfl) pass0 (pa_cons (pv 2) pa_nil)) (pv 3) (nomark _))))))))))
end
def dd_packed : He.DefD := ⟨("packed", none), "packed", "packed", defArgs s_packed, defBody s_packed, defScope s_packed, [], []⟩
def dd_unpacked : He.DefD := ⟨("unpacked", none), "unpacked", "unpacked", defArgs s_unpacked, defBody s_unpacked, defScope s_unpacked, [], []⟩
def dd_ones_in : He.DefD := ⟨("ones_in", none), "ones_in", "ones_in", defArgs s_ones_in, defBody s_ones_in, defScope s_ones_in, [], []⟩
def dd_ones_table : He.DefD := ⟨("ones_table", none), "ones_table", "ones_table", defArgs s_ones_table, defBody s_ones_table, defScope s_ones_table, [], []⟩
def dd_kept_row : He.DefD := ⟨("kept_row", none), "kept_row", "kept_row", defArgs s_kept_row, defBody s_kept_row, defScope s_kept_row, [], []⟩
def dd_octets_of : He.DefD := ⟨("octets_of", none), "octets_of", "octets_of", defArgs s_octets_of, defBody s_octets_of, defScope s_octets_of, [], []⟩
def dd_number_of : He.DefD := ⟨("number_of", none), "number_of", "number_of", defArgs s_number_of, defBody s_number_of, defScope s_number_of, [], []⟩
def dd_fields_of : He.DefD := ⟨("fields_of", none), "fields_of", "fields_of", defArgs s_fields_of, defBody s_fields_of, defScope s_fields_of, [], []⟩
def dd_numbers_of : He.DefD := ⟨("numbers_of", none), "numbers_of", "numbers_of", defArgs s_numbers_of, defBody s_numbers_of, defScope s_numbers_of, [], []⟩
def dd_blocks_for : He.DefD := ⟨("blocks_for", none), "blocks_for", "blocks_for", defArgs s_blocks_for, defBody s_blocks_for, defScope s_blocks_for, [], []⟩
def dd_row_laid : He.DefD := ⟨("row_laid", none), "row_laid", "row_laid", defArgs s_row_laid, defBody s_row_laid, defScope s_row_laid, [], []⟩
def dd_row_octets : He.DefD := ⟨("row_octets", none), "row_octets", "row_octets", defArgs s_row_octets, defBody s_row_octets, defScope s_row_octets, [], []⟩
def dd_head_of : He.DefD := ⟨("head_of", none), "head_of", "head_of", defArgs s_head_of, defBody s_head_of, defScope s_head_of, [], []⟩
def dd_row_long : He.DefD := ⟨("row_long", none), "row_long", "row_long", defArgs s_row_long, defBody s_row_long, defScope s_row_long, [], []⟩
def dd_same_again : He.DefD := ⟨("same_again", none), "same_again", "same_again", defArgs s_same_again, defBody s_same_again, defScope s_same_again, [], []⟩
def dd_read_row : He.DefD := ⟨("read_row", none), "read_row", "read_row", defArgs s_read_row, defBody s_read_row, defScope s_read_row, [], []⟩
def dd_law_cell_at : He.DefD := ⟨("_law_cell_at", none), "_law_cell_at", "_law_cell_at", defArgs s_law_cell_at, defBody s_law_cell_at, defScope s_law_cell_at, [], []⟩
def dd_law_whole : He.DefD := ⟨("_law_whole", none), "_law_whole", "_law_whole", defArgs s_law_whole, defBody s_law_whole, defScope s_law_whole, [], []⟩
def dd_law_bits : He.DefD := ⟨("_law_bits", none), "_law_bits", "_law_bits", defArgs s_law_bits, defBody s_law_bits, defScope s_law_bits, [], []⟩
def dd_law_two : He.DefD := ⟨("_law_two", none), "_law_two", "_law_two", defArgs s_law_two, defBody s_law_two, defScope s_law_two, [], []⟩
def dd_law_written : He.DefD := ⟨("_law_written", none), "_law_written", "_law_written", defArgs s_law_written, defBody s_law_written, defScope s_law_written, [], []⟩
def dd_law_due : He.DefD := ⟨("_law_due", none), "_law_due", "_law_due", defArgs s_law_due, defBody s_law_due, defScope s_law_due, [], []⟩
def dd_law_told : He.DefD := ⟨("_law_told", none), "_law_told", "_law_told", defArgs s_law_told, defBody s_law_told, defScope s_law_told, [], []⟩
def dd_law_changed : He.DefD := ⟨("_law_changed", none), "_law_changed", "_law_changed", defArgs s_law_changed, defBody s_law_changed, defScope s_law_changed, [], []⟩
def dd_law_octets : He.DefD := ⟨("_law_octets", none), "_law_octets", "_law_octets", defArgs s_law_octets, defBody s_law_octets, defScope s_law_octets, [], []⟩
def dd_law : He.DefD := ⟨("law", none), "law", "law", defArgs s_law, defBody s_law, defScope s_law, [], []⟩
def fnL : List He.DefD := [dd_packed, dd_unpacked, dd_ones_in, dd_ones_table, dd_kept_row, dd_octets_of, dd_number_of, dd_fields_of, dd_numbers_of, dd_blocks_for, dd_row_laid, dd_row_octets, dd_head_of, dd_row_long, dd_same_again, dd_read_row, dd_law_cell_at, dd_law_whole, dd_law_bits, dd_law_two, dd_law_written, dd_law_due, dd_law_told, dd_law_changed, dd_law_octets, dd_law]
def fxL : List Fx := [.excC "NoBit", .kitT "NoBit" "ValueError" true, .kit "NoBit" "NoBit" true, .exm "NoBit" "NoBit" true, .kit "NoBit" "NoNode" false, .exm "NoBit" "NoNode" false, .kit "NoBit" "NoOctets" false, .exm "NoBit" "NoOctets" false, .kit "NoBit" "NoPlace" false, .exm "NoBit" "NoPlace" false, .kit "NoBit" "NoSign" false, .exm "NoBit" "NoSign" false, .kit "NoBit" "NoTree" false, .exm "NoBit" "NoTree" false, .kit "NoBit" "NoWord" false, .exm "NoBit" "NoWord" false, .kit "NoBit" "TooMany" false, .exm "NoBit" "TooMany" false, .kit "NoBit" "Twice" false, .exm "NoBit" "Twice" false, .kit "NoBit" "WoodError" true, .exm "NoBit" "WoodError" true, .excC "NoNode", .kitT "NoNode" "ValueError" true, .kit "NoNode" "NoBit" false, .exm "NoNode" "NoBit" false, .kit "NoNode" "NoNode" true, .exm "NoNode" "NoNode" true, .kit "NoNode" "NoOctets" false, .exm "NoNode" "NoOctets" false, .kit "NoNode" "NoPlace" false, .exm "NoNode" "NoPlace" false, .kit "NoNode" "NoSign" false, .exm "NoNode" "NoSign" false, .kit "NoNode" "NoTree" false, .exm "NoNode" "NoTree" false, .kit "NoNode" "NoWord" false, .exm "NoNode" "NoWord" false, .kit "NoNode" "TooMany" false, .exm "NoNode" "TooMany" false, .kit "NoNode" "Twice" false, .exm "NoNode" "Twice" false, .kit "NoNode" "WoodError" true, .exm "NoNode" "WoodError" true, .excC "NoOctets", .kitT "NoOctets" "ValueError" true, .kit "NoOctets" "NoBit" false, .exm "NoOctets" "NoBit" false, .kit "NoOctets" "NoNode" false, .exm "NoOctets" "NoNode" false, .kit "NoOctets" "NoOctets" true, .exm "NoOctets" "NoOctets" true, .kit "NoOctets" "NoPlace" false, .exm "NoOctets" "NoPlace" false, .kit "NoOctets" "NoSign" false, .exm "NoOctets" "NoSign" false, .kit "NoOctets" "NoTree" false, .exm "NoOctets" "NoTree" false, .kit "NoOctets" "NoWord" false, .exm "NoOctets" "NoWord" false, .kit "NoOctets" "TooMany" false, .exm "NoOctets" "TooMany" false, .kit "NoOctets" "Twice" false, .exm "NoOctets" "Twice" false, .kit "NoOctets" "WoodError" true, .exm "NoOctets" "WoodError" true, .excC "NoPlace", .kitT "NoPlace" "ValueError" true, .kit "NoPlace" "NoBit" false, .exm "NoPlace" "NoBit" false, .kit "NoPlace" "NoNode" false, .exm "NoPlace" "NoNode" false, .kit "NoPlace" "NoOctets" false, .exm "NoPlace" "NoOctets" false, .kit "NoPlace" "NoPlace" true, .exm "NoPlace" "NoPlace" true, .kit "NoPlace" "NoSign" false, .exm "NoPlace" "NoSign" false, .kit "NoPlace" "NoTree" false, .exm "NoPlace" "NoTree" false, .kit "NoPlace" "NoWord" false, .exm "NoPlace" "NoWord" false, .kit "NoPlace" "TooMany" false, .exm "NoPlace" "TooMany" false, .kit "NoPlace" "Twice" false, .exm "NoPlace" "Twice" false, .kit "NoPlace" "WoodError" true, .exm "NoPlace" "WoodError" true, .excC "NoSign", .kitT "NoSign" "ValueError" true, .kit "NoSign" "NoBit" false, .exm "NoSign" "NoBit" false, .kit "NoSign" "NoNode" false, .exm "NoSign" "NoNode" false, .kit "NoSign" "NoOctets" false, .exm "NoSign" "NoOctets" false, .kit "NoSign" "NoPlace" false, .exm "NoSign" "NoPlace" false, .kit "NoSign" "NoSign" true, .exm "NoSign" "NoSign" true, .kit "NoSign" "NoTree" false, .exm "NoSign" "NoTree" false, .kit "NoSign" "NoWord" false, .exm "NoSign" "NoWord" false, .kit "NoSign" "TooMany" false, .exm "NoSign" "TooMany" false, .kit "NoSign" "Twice" false, .exm "NoSign" "Twice" false, .kit "NoSign" "WoodError" true, .exm "NoSign" "WoodError" true, .excC "NoTree", .kitT "NoTree" "ValueError" true, .kit "NoTree" "NoBit" false, .exm "NoTree" "NoBit" false, .kit "NoTree" "NoNode" false, .exm "NoTree" "NoNode" false, .kit "NoTree" "NoOctets" false, .exm "NoTree" "NoOctets" false, .kit "NoTree" "NoPlace" false, .exm "NoTree" "NoPlace" false, .kit "NoTree" "NoSign" false, .exm "NoTree" "NoSign" false, .kit "NoTree" "NoTree" true, .exm "NoTree" "NoTree" true, .kit "NoTree" "NoWord" false, .exm "NoTree" "NoWord" false, .kit "NoTree" "TooMany" false, .exm "NoTree" "TooMany" false, .kit "NoTree" "Twice" false, .exm "NoTree" "Twice" false, .kit "NoTree" "WoodError" true, .exm "NoTree" "WoodError" true, .excC "NoWord", .kitT "NoWord" "ValueError" true, .kit "NoWord" "NoBit" false, .exm "NoWord" "NoBit" false, .kit "NoWord" "NoNode" false, .exm "NoWord" "NoNode" false, .kit "NoWord" "NoOctets" false, .exm "NoWord" "NoOctets" false, .kit "NoWord" "NoPlace" false, .exm "NoWord" "NoPlace" false, .kit "NoWord" "NoSign" false, .exm "NoWord" "NoSign" false, .kit "NoWord" "NoTree" false, .exm "NoWord" "NoTree" false, .kit "NoWord" "NoWord" true, .exm "NoWord" "NoWord" true, .kit "NoWord" "TooMany" false, .exm "NoWord" "TooMany" false, .kit "NoWord" "Twice" false, .exm "NoWord" "Twice" false, .kit "NoWord" "WoodError" true, .exm "NoWord" "WoodError" true, .excC "TooMany", .kitT "TooMany" "ValueError" true, .kit "TooMany" "NoBit" false, .exm "TooMany" "NoBit" false, .kit "TooMany" "NoNode" false, .exm "TooMany" "NoNode" false, .kit "TooMany" "NoOctets" false, .exm "TooMany" "NoOctets" false, .kit "TooMany" "NoPlace" false, .exm "TooMany" "NoPlace" false, .kit "TooMany" "NoSign" false, .exm "TooMany" "NoSign" false, .kit "TooMany" "NoTree" false, .exm "TooMany" "NoTree" false, .kit "TooMany" "NoWord" false, .exm "TooMany" "NoWord" false, .kit "TooMany" "TooMany" true, .exm "TooMany" "TooMany" true, .kit "TooMany" "Twice" false, .exm "TooMany" "Twice" false, .kit "TooMany" "WoodError" true, .exm "TooMany" "WoodError" true, .excC "Twice", .kitT "Twice" "ValueError" true, .kit "Twice" "NoBit" false, .exm "Twice" "NoBit" false, .kit "Twice" "NoNode" false, .exm "Twice" "NoNode" false, .kit "Twice" "NoOctets" false, .exm "Twice" "NoOctets" false, .kit "Twice" "NoPlace" false, .exm "Twice" "NoPlace" false, .kit "Twice" "NoSign" false, .exm "Twice" "NoSign" false, .kit "Twice" "NoTree" false, .exm "Twice" "NoTree" false, .kit "Twice" "NoWord" false, .exm "Twice" "NoWord" false, .kit "Twice" "TooMany" false, .exm "Twice" "TooMany" false, .kit "Twice" "Twice" true, .exm "Twice" "Twice" true, .kit "Twice" "WoodError" true, .exm "Twice" "WoodError" true, .excC "WoodError", .kitT "WoodError" "ValueError" true, .kit "WoodError" "NoBit" false, .exm "WoodError" "NoBit" false, .kit "WoodError" "NoNode" false, .exm "WoodError" "NoNode" false, .kit "WoodError" "NoOctets" false, .exm "WoodError" "NoOctets" false, .kit "WoodError" "NoPlace" false, .exm "WoodError" "NoPlace" false, .kit "WoodError" "NoSign" false, .exm "WoodError" "NoSign" false, .kit "WoodError" "NoTree" false, .exm "WoodError" "NoTree" false, .kit "WoodError" "NoWord" false, .exm "WoodError" "NoWord" false, .kit "WoodError" "TooMany" false, .exm "WoodError" "TooMany" false, .kit "WoodError" "Twice" false, .exm "WoodError" "Twice" false, .kit "WoodError" "WoodError" true, .exm "WoodError" "WoodError" true]
def faL : List He.Fa := [.glo "packed", .glo "unpacked", .glo "ones_in", .glo "ones_table", .glo "kept_row", .glo "octets_of", .glo "number_of", .glo "fields_of", .glo "numbers_of", .glo "blocks_for", .glo "row_laid", .glo "row_octets", .glo "head_of", .glo "row_long", .glo "same_again", .glo "read_row", .glo "_law_cell_at", .glo "_law_whole", .glo "_law_bits", .glo "_law_two", .glo "_law_written", .glo "_law_due", .glo "_law_told", .glo "_law_changed", .glo "_law_octets", .glo "law", .free "ValueError", .free "all", .free "bool", .free "divmod", .free "enumerate", .free "int", .free "isinstance", .free "len", .free "list", .free "min", .free "range", .free "reversed", .free "sum", .free "tuple", .int "MOST" 4096, .int "WIDE" 32, .exc "NoBit", .exc "NoNode", .exc "NoOctets", .exc "NoPlace", .exc "NoSign", .exc "NoTree", .exc "NoWord", .exc "TooMany", .exc "Twice", .exc "WoodError", .glo "NoBit", .glo "NoNode", .glo "NoOctets", .glo "NoPlace", .glo "NoSign", .glo "NoTree", .glo "NoWord", .glo "TooMany", .glo "Twice", .glo "WoodError"]
abbrev R : PySem.W.OpenRow := PySem.W.OpenLaw.row PySem.Challenge.rw_thinwood_k85_rows_read
abbrev hk : PySem.W.Hook := hookF 4 faL fnL fxL
def ob (s : PySem.W.SharedT) : AlF := obsFG 4 faL fnL fxL (HandSHeadRun.getT s)
theorem ob_eq (s : PySem.W.SharedT) : ob s = hk.obs s.abs := obsFG_eq (HandSHeadRun.getT_eq s)
def looseL : List PySem.Str := (["WoodError", "TooMany", "NoBit", "NoPlace", "NoNode", "NoTree", "NoSign", "NoWord", "Twice", "NoOctets", "WIDE", "MOST", "packed", "unpacked", "ones_in", "ones_table", "kept_row", "octets_of", "number_of", "fields_of", "numbers_of", "blocks_for", "row_laid", "row_octets", "head_of", "row_long", "same_again", "read_row", "_law_cell_at", "_law_whole"] : List PySem.Str) ++ (["_law_bits", "_law_two", "_law_written", "_law_due", "_law_told", "_law_changed", "_law_octets"] : List PySem.Str)
theorem run (w : World) : HandSHeadRun.RunEq R (PySem.W.view R.prog [44]) hk ob 20000 looseL w := by
  intro os
  kernel_rfl
theorem tx_of {P : Program} {w : World} {K : PySem.W.Frag} {h : Heap} {mg : Str → Option Value} (X : K.In h) (G : h.Ns mainGlobals mg) (c2 : SaysF faL fnL fxL K) (base : Heap) : Tx P w K mg base :=
  have c := SaysF.d c2
  {
  d_packed := c.def_ 0 (d := dd_packed) rfl
  g_packed := He.glo_ok X G (c.fact 0 (f := .glo "packed") rfl)
  d_unpacked := c.def_ 1 (d := dd_unpacked) rfl
  g_unpacked := He.glo_ok X G (c.fact 1 (f := .glo "unpacked") rfl)
  d_ones_in := c.def_ 2 (d := dd_ones_in) rfl
  g_ones_in := He.glo_ok X G (c.fact 2 (f := .glo "ones_in") rfl)
  d_ones_table := c.def_ 3 (d := dd_ones_table) rfl
  g_ones_table := He.glo_ok X G (c.fact 3 (f := .glo "ones_table") rfl)
  d_kept_row := c.def_ 4 (d := dd_kept_row) rfl
  g_kept_row := He.glo_ok X G (c.fact 4 (f := .glo "kept_row") rfl)
  d_octets_of := c.def_ 5 (d := dd_octets_of) rfl
  g_octets_of := He.glo_ok X G (c.fact 5 (f := .glo "octets_of") rfl)
  d_number_of := c.def_ 6 (d := dd_number_of) rfl
  g_number_of := He.glo_ok X G (c.fact 6 (f := .glo "number_of") rfl)
  d_fields_of := c.def_ 7 (d := dd_fields_of) rfl
  g_fields_of := He.glo_ok X G (c.fact 7 (f := .glo "fields_of") rfl)
  d_numbers_of := c.def_ 8 (d := dd_numbers_of) rfl
  g_numbers_of := He.glo_ok X G (c.fact 8 (f := .glo "numbers_of") rfl)
  d_blocks_for := c.def_ 9 (d := dd_blocks_for) rfl
  g_blocks_for := He.glo_ok X G (c.fact 9 (f := .glo "blocks_for") rfl)
  d_row_laid := c.def_ 10 (d := dd_row_laid) rfl
  g_row_laid := He.glo_ok X G (c.fact 10 (f := .glo "row_laid") rfl)
  d_row_octets := c.def_ 11 (d := dd_row_octets) rfl
  g_row_octets := He.glo_ok X G (c.fact 11 (f := .glo "row_octets") rfl)
  d_head_of := c.def_ 12 (d := dd_head_of) rfl
  g_head_of := He.glo_ok X G (c.fact 12 (f := .glo "head_of") rfl)
  d_row_long := c.def_ 13 (d := dd_row_long) rfl
  g_row_long := He.glo_ok X G (c.fact 13 (f := .glo "row_long") rfl)
  d_same_again := c.def_ 14 (d := dd_same_again) rfl
  g_same_again := He.glo_ok X G (c.fact 14 (f := .glo "same_again") rfl)
  d_read_row := c.def_ 15 (d := dd_read_row) rfl
  g_read_row := He.glo_ok X G (c.fact 15 (f := .glo "read_row") rfl)
  d_law_cell_at := c.def_ 16 (d := dd_law_cell_at) rfl
  g_law_cell_at := He.glo_ok X G (c.fact 16 (f := .glo "_law_cell_at") rfl)
  d_law_whole := c.def_ 17 (d := dd_law_whole) rfl
  g_law_whole := He.glo_ok X G (c.fact 17 (f := .glo "_law_whole") rfl)
  d_law_bits := c.def_ 18 (d := dd_law_bits) rfl
  g_law_bits := He.glo_ok X G (c.fact 18 (f := .glo "_law_bits") rfl)
  d_law_two := c.def_ 19 (d := dd_law_two) rfl
  g_law_two := He.glo_ok X G (c.fact 19 (f := .glo "_law_two") rfl)
  d_law_written := c.def_ 20 (d := dd_law_written) rfl
  g_law_written := He.glo_ok X G (c.fact 20 (f := .glo "_law_written") rfl)
  d_law_due := c.def_ 21 (d := dd_law_due) rfl
  g_law_due := He.glo_ok X G (c.fact 21 (f := .glo "_law_due") rfl)
  d_law_told := c.def_ 22 (d := dd_law_told) rfl
  g_law_told := He.glo_ok X G (c.fact 22 (f := .glo "_law_told") rfl)
  d_law_changed := c.def_ 23 (d := dd_law_changed) rfl
  g_law_changed := He.glo_ok X G (c.fact 23 (f := .glo "_law_changed") rfl)
  d_law_octets := c.def_ 24 (d := dd_law_octets) rfl
  g_law_octets := He.glo_ok X G (c.fact 24 (f := .glo "_law_octets") rfl)
  d_law := c.def_ 25 (d := dd_law) rfl
  g_law := He.glo_ok X G (c.fact 25 (f := .glo "law") rfl)
  b_ValueError := He.free_ok X G (c.fact 26 (f := .free "ValueError") rfl)
  b_all := He.free_ok X G (c.fact 27 (f := .free "all") rfl)
  b_bool := He.free_ok X G (c.fact 28 (f := .free "bool") rfl)
  b_divmod := He.free_ok X G (c.fact 29 (f := .free "divmod") rfl)
  b_enumerate := He.free_ok X G (c.fact 30 (f := .free "enumerate") rfl)
  b_int := He.free_ok X G (c.fact 31 (f := .free "int") rfl)
  b_isinstance := He.free_ok X G (c.fact 32 (f := .free "isinstance") rfl)
  b_len := He.free_ok X G (c.fact 33 (f := .free "len") rfl)
  b_list := He.free_ok X G (c.fact 34 (f := .free "list") rfl)
  b_min := He.free_ok X G (c.fact 35 (f := .free "min") rfl)
  b_range := He.free_ok X G (c.fact 36 (f := .free "range") rfl)
  b_reversed := He.free_ok X G (c.fact 37 (f := .free "reversed") rfl)
  b_sum := He.free_ok X G (c.fact 38 (f := .free "sum") rfl)
  b_tuple := He.free_ok X G (c.fact 39 (f := .free "tuple") rfl)
  i_MOST := He.int_ok X G (c.fact 40 (f := .int "MOST" 4096) rfl)
  i_WIDE := He.int_ok X G (c.fact 41 (f := .int "WIDE" 32) rfl)
  x_NoBit := (fun q => ⟨He.glo_ok X G (c.fact 52 (f := .glo "NoBit") rfl), q.1, q.2.1, q.2.2.1, q.2.2.2⟩) (He.exc_ok (c.fact 42 (f := .exc "NoBit") rfl))
  g_NoBit := He.glo_ok X G (c.fact 52 (f := .glo "NoBit") rfl)
  x_NoNode := (fun q => ⟨He.glo_ok X G (c.fact 53 (f := .glo "NoNode") rfl), q.1, q.2.1, q.2.2.1, q.2.2.2⟩) (He.exc_ok (c.fact 43 (f := .exc "NoNode") rfl))
  g_NoNode := He.glo_ok X G (c.fact 53 (f := .glo "NoNode") rfl)
  x_NoOctets := (fun q => ⟨He.glo_ok X G (c.fact 54 (f := .glo "NoOctets") rfl), q.1, q.2.1, q.2.2.1, q.2.2.2⟩) (He.exc_ok (c.fact 44 (f := .exc "NoOctets") rfl))
  g_NoOctets := He.glo_ok X G (c.fact 54 (f := .glo "NoOctets") rfl)
  x_NoPlace := (fun q => ⟨He.glo_ok X G (c.fact 55 (f := .glo "NoPlace") rfl), q.1, q.2.1, q.2.2.1, q.2.2.2⟩) (He.exc_ok (c.fact 45 (f := .exc "NoPlace") rfl))
  g_NoPlace := He.glo_ok X G (c.fact 55 (f := .glo "NoPlace") rfl)
  x_NoSign := (fun q => ⟨He.glo_ok X G (c.fact 56 (f := .glo "NoSign") rfl), q.1, q.2.1, q.2.2.1, q.2.2.2⟩) (He.exc_ok (c.fact 46 (f := .exc "NoSign") rfl))
  g_NoSign := He.glo_ok X G (c.fact 56 (f := .glo "NoSign") rfl)
  x_NoTree := (fun q => ⟨He.glo_ok X G (c.fact 57 (f := .glo "NoTree") rfl), q.1, q.2.1, q.2.2.1, q.2.2.2⟩) (He.exc_ok (c.fact 47 (f := .exc "NoTree") rfl))
  g_NoTree := He.glo_ok X G (c.fact 57 (f := .glo "NoTree") rfl)
  x_NoWord := (fun q => ⟨He.glo_ok X G (c.fact 58 (f := .glo "NoWord") rfl), q.1, q.2.1, q.2.2.1, q.2.2.2⟩) (He.exc_ok (c.fact 48 (f := .exc "NoWord") rfl))
  g_NoWord := He.glo_ok X G (c.fact 58 (f := .glo "NoWord") rfl)
  x_TooMany := (fun q => ⟨He.glo_ok X G (c.fact 59 (f := .glo "TooMany") rfl), q.1, q.2.1, q.2.2.1, q.2.2.2⟩) (He.exc_ok (c.fact 49 (f := .exc "TooMany") rfl))
  g_TooMany := He.glo_ok X G (c.fact 59 (f := .glo "TooMany") rfl)
  x_Twice := (fun q => ⟨He.glo_ok X G (c.fact 60 (f := .glo "Twice") rfl), q.1, q.2.1, q.2.2.1, q.2.2.2⟩) (He.exc_ok (c.fact 50 (f := .exc "Twice") rfl))
  g_Twice := He.glo_ok X G (c.fact 60 (f := .glo "Twice") rfl)
  x_WoodError := (fun q => ⟨He.glo_ok X G (c.fact 61 (f := .glo "WoodError") rfl), q.1, q.2.1, q.2.2.1, q.2.2.2⟩) (He.exc_ok (c.fact 51 (f := .exc "WoodError") rfl))
  g_WoodError := He.glo_ok X G (c.fact 61 (f := .glo "WoodError") rfl)
  fx := {
    ec_NoBit := Fx.excC_ok (SaysF.fx c2 0 (f := .excC "NoBit") rfl)
    kt_NoBit := Fx.kitT_ok (SaysF.fx c2 1 (f := .kitT "NoBit" "ValueError" true) rfl)
    k_NoBit_NoBit := Fx.kit_ok (SaysF.fx c2 2 (f := .kit "NoBit" "NoBit" true) rfl)
    e_NoBit_NoBit := Fx.exm_ok (SaysF.fx c2 3 (f := .exm "NoBit" "NoBit" true) rfl)
    k_NoBit_NoNode := Fx.kit_ok (SaysF.fx c2 4 (f := .kit "NoBit" "NoNode" false) rfl)
    e_NoBit_NoNode := Fx.exm_ok (SaysF.fx c2 5 (f := .exm "NoBit" "NoNode" false) rfl)
    k_NoBit_NoOctets := Fx.kit_ok (SaysF.fx c2 6 (f := .kit "NoBit" "NoOctets" false) rfl)
    e_NoBit_NoOctets := Fx.exm_ok (SaysF.fx c2 7 (f := .exm "NoBit" "NoOctets" false) rfl)
    k_NoBit_NoPlace := Fx.kit_ok (SaysF.fx c2 8 (f := .kit "NoBit" "NoPlace" false) rfl)
    e_NoBit_NoPlace := Fx.exm_ok (SaysF.fx c2 9 (f := .exm "NoBit" "NoPlace" false) rfl)
    k_NoBit_NoSign := Fx.kit_ok (SaysF.fx c2 10 (f := .kit "NoBit" "NoSign" false) rfl)
    e_NoBit_NoSign := Fx.exm_ok (SaysF.fx c2 11 (f := .exm "NoBit" "NoSign" false) rfl)
    k_NoBit_NoTree := Fx.kit_ok (SaysF.fx c2 12 (f := .kit "NoBit" "NoTree" false) rfl)
    e_NoBit_NoTree := Fx.exm_ok (SaysF.fx c2 13 (f := .exm "NoBit" "NoTree" false) rfl)
    k_NoBit_NoWord := Fx.kit_ok (SaysF.fx c2 14 (f := .kit "NoBit" "NoWord" false) rfl)
    e_NoBit_NoWord := Fx.exm_ok (SaysF.fx c2 15 (f := .exm "NoBit" "NoWord" false) rfl)
    k_NoBit_TooMany := Fx.kit_ok (SaysF.fx c2 16 (f := .kit "NoBit" "TooMany" false) rfl)
    e_NoBit_TooMany := Fx.exm_ok (SaysF.fx c2 17 (f := .exm "NoBit" "TooMany" false) rfl)
    k_NoBit_Twice := Fx.kit_ok (SaysF.fx c2 18 (f := .kit "NoBit" "Twice" false) rfl)
    e_NoBit_Twice := Fx.exm_ok (SaysF.fx c2 19 (f := .exm "NoBit" "Twice" false) rfl)
    k_NoBit_WoodError := Fx.kit_ok (SaysF.fx c2 20 (f := .kit "NoBit" "WoodError" true) rfl)
    e_NoBit_WoodError := Fx.exm_ok (SaysF.fx c2 21 (f := .exm "NoBit" "WoodError" true) rfl)
    ec_NoNode := Fx.excC_ok (SaysF.fx c2 22 (f := .excC "NoNode") rfl)
    kt_NoNode := Fx.kitT_ok (SaysF.fx c2 23 (f := .kitT "NoNode" "ValueError" true) rfl)
    k_NoNode_NoBit := Fx.kit_ok (SaysF.fx c2 24 (f := .kit "NoNode" "NoBit" false) rfl)
    e_NoNode_NoBit := Fx.exm_ok (SaysF.fx c2 25 (f := .exm "NoNode" "NoBit" false) rfl)
    k_NoNode_NoNode := Fx.kit_ok (SaysF.fx c2 26 (f := .kit "NoNode" "NoNode" true) rfl)
    e_NoNode_NoNode := Fx.exm_ok (SaysF.fx c2 27 (f := .exm "NoNode" "NoNode" true) rfl)
    k_NoNode_NoOctets := Fx.kit_ok (SaysF.fx c2 28 (f := .kit "NoNode" "NoOctets" false) rfl)
    e_NoNode_NoOctets := Fx.exm_ok (SaysF.fx c2 29 (f := .exm "NoNode" "NoOctets" false) rfl)
    k_NoNode_NoPlace := Fx.kit_ok (SaysF.fx c2 30 (f := .kit "NoNode" "NoPlace" false) rfl)
    e_NoNode_NoPlace := Fx.exm_ok (SaysF.fx c2 31 (f := .exm "NoNode" "NoPlace" false) rfl)
    k_NoNode_NoSign := Fx.kit_ok (SaysF.fx c2 32 (f := .kit "NoNode" "NoSign" false) rfl)
    e_NoNode_NoSign := Fx.exm_ok (SaysF.fx c2 33 (f := .exm "NoNode" "NoSign" false) rfl)
    k_NoNode_NoTree := Fx.kit_ok (SaysF.fx c2 34 (f := .kit "NoNode" "NoTree" false) rfl)
    e_NoNode_NoTree := Fx.exm_ok (SaysF.fx c2 35 (f := .exm "NoNode" "NoTree" false) rfl)
    k_NoNode_NoWord := Fx.kit_ok (SaysF.fx c2 36 (f := .kit "NoNode" "NoWord" false) rfl)
    e_NoNode_NoWord := Fx.exm_ok (SaysF.fx c2 37 (f := .exm "NoNode" "NoWord" false) rfl)
    k_NoNode_TooMany := Fx.kit_ok (SaysF.fx c2 38 (f := .kit "NoNode" "TooMany" false) rfl)
    e_NoNode_TooMany := Fx.exm_ok (SaysF.fx c2 39 (f := .exm "NoNode" "TooMany" false) rfl)
    k_NoNode_Twice := Fx.kit_ok (SaysF.fx c2 40 (f := .kit "NoNode" "Twice" false) rfl)
    e_NoNode_Twice := Fx.exm_ok (SaysF.fx c2 41 (f := .exm "NoNode" "Twice" false) rfl)
    k_NoNode_WoodError := Fx.kit_ok (SaysF.fx c2 42 (f := .kit "NoNode" "WoodError" true) rfl)
    e_NoNode_WoodError := Fx.exm_ok (SaysF.fx c2 43 (f := .exm "NoNode" "WoodError" true) rfl)
    ec_NoOctets := Fx.excC_ok (SaysF.fx c2 44 (f := .excC "NoOctets") rfl)
    kt_NoOctets := Fx.kitT_ok (SaysF.fx c2 45 (f := .kitT "NoOctets" "ValueError" true) rfl)
    k_NoOctets_NoBit := Fx.kit_ok (SaysF.fx c2 46 (f := .kit "NoOctets" "NoBit" false) rfl)
    e_NoOctets_NoBit := Fx.exm_ok (SaysF.fx c2 47 (f := .exm "NoOctets" "NoBit" false) rfl)
    k_NoOctets_NoNode := Fx.kit_ok (SaysF.fx c2 48 (f := .kit "NoOctets" "NoNode" false) rfl)
    e_NoOctets_NoNode := Fx.exm_ok (SaysF.fx c2 49 (f := .exm "NoOctets" "NoNode" false) rfl)
    k_NoOctets_NoOctets := Fx.kit_ok (SaysF.fx c2 50 (f := .kit "NoOctets" "NoOctets" true) rfl)
    e_NoOctets_NoOctets := Fx.exm_ok (SaysF.fx c2 51 (f := .exm "NoOctets" "NoOctets" true) rfl)
    k_NoOctets_NoPlace := Fx.kit_ok (SaysF.fx c2 52 (f := .kit "NoOctets" "NoPlace" false) rfl)
    e_NoOctets_NoPlace := Fx.exm_ok (SaysF.fx c2 53 (f := .exm "NoOctets" "NoPlace" false) rfl)
    k_NoOctets_NoSign := Fx.kit_ok (SaysF.fx c2 54 (f := .kit "NoOctets" "NoSign" false) rfl)
    e_NoOctets_NoSign := Fx.exm_ok (SaysF.fx c2 55 (f := .exm "NoOctets" "NoSign" false) rfl)
    k_NoOctets_NoTree := Fx.kit_ok (SaysF.fx c2 56 (f := .kit "NoOctets" "NoTree" false) rfl)
    e_NoOctets_NoTree := Fx.exm_ok (SaysF.fx c2 57 (f := .exm "NoOctets" "NoTree" false) rfl)
    k_NoOctets_NoWord := Fx.kit_ok (SaysF.fx c2 58 (f := .kit "NoOctets" "NoWord" false) rfl)
    e_NoOctets_NoWord := Fx.exm_ok (SaysF.fx c2 59 (f := .exm "NoOctets" "NoWord" false) rfl)
    k_NoOctets_TooMany := Fx.kit_ok (SaysF.fx c2 60 (f := .kit "NoOctets" "TooMany" false) rfl)
    e_NoOctets_TooMany := Fx.exm_ok (SaysF.fx c2 61 (f := .exm "NoOctets" "TooMany" false) rfl)
    k_NoOctets_Twice := Fx.kit_ok (SaysF.fx c2 62 (f := .kit "NoOctets" "Twice" false) rfl)
    e_NoOctets_Twice := Fx.exm_ok (SaysF.fx c2 63 (f := .exm "NoOctets" "Twice" false) rfl)
    k_NoOctets_WoodError := Fx.kit_ok (SaysF.fx c2 64 (f := .kit "NoOctets" "WoodError" true) rfl)
    e_NoOctets_WoodError := Fx.exm_ok (SaysF.fx c2 65 (f := .exm "NoOctets" "WoodError" true) rfl)
    ec_NoPlace := Fx.excC_ok (SaysF.fx c2 66 (f := .excC "NoPlace") rfl)
    kt_NoPlace := Fx.kitT_ok (SaysF.fx c2 67 (f := .kitT "NoPlace" "ValueError" true) rfl)
    k_NoPlace_NoBit := Fx.kit_ok (SaysF.fx c2 68 (f := .kit "NoPlace" "NoBit" false) rfl)
    e_NoPlace_NoBit := Fx.exm_ok (SaysF.fx c2 69 (f := .exm "NoPlace" "NoBit" false) rfl)
    k_NoPlace_NoNode := Fx.kit_ok (SaysF.fx c2 70 (f := .kit "NoPlace" "NoNode" false) rfl)
    e_NoPlace_NoNode := Fx.exm_ok (SaysF.fx c2 71 (f := .exm "NoPlace" "NoNode" false) rfl)
    k_NoPlace_NoOctets := Fx.kit_ok (SaysF.fx c2 72 (f := .kit "NoPlace" "NoOctets" false) rfl)
    e_NoPlace_NoOctets := Fx.exm_ok (SaysF.fx c2 73 (f := .exm "NoPlace" "NoOctets" false) rfl)
    k_NoPlace_NoPlace := Fx.kit_ok (SaysF.fx c2 74 (f := .kit "NoPlace" "NoPlace" true) rfl)
    e_NoPlace_NoPlace := Fx.exm_ok (SaysF.fx c2 75 (f := .exm "NoPlace" "NoPlace" true) rfl)
    k_NoPlace_NoSign := Fx.kit_ok (SaysF.fx c2 76 (f := .kit "NoPlace" "NoSign" false) rfl)
    e_NoPlace_NoSign := Fx.exm_ok (SaysF.fx c2 77 (f := .exm "NoPlace" "NoSign" false) rfl)
    k_NoPlace_NoTree := Fx.kit_ok (SaysF.fx c2 78 (f := .kit "NoPlace" "NoTree" false) rfl)
    e_NoPlace_NoTree := Fx.exm_ok (SaysF.fx c2 79 (f := .exm "NoPlace" "NoTree" false) rfl)
    k_NoPlace_NoWord := Fx.kit_ok (SaysF.fx c2 80 (f := .kit "NoPlace" "NoWord" false) rfl)
    e_NoPlace_NoWord := Fx.exm_ok (SaysF.fx c2 81 (f := .exm "NoPlace" "NoWord" false) rfl)
    k_NoPlace_TooMany := Fx.kit_ok (SaysF.fx c2 82 (f := .kit "NoPlace" "TooMany" false) rfl)
    e_NoPlace_TooMany := Fx.exm_ok (SaysF.fx c2 83 (f := .exm "NoPlace" "TooMany" false) rfl)
    k_NoPlace_Twice := Fx.kit_ok (SaysF.fx c2 84 (f := .kit "NoPlace" "Twice" false) rfl)
    e_NoPlace_Twice := Fx.exm_ok (SaysF.fx c2 85 (f := .exm "NoPlace" "Twice" false) rfl)
    k_NoPlace_WoodError := Fx.kit_ok (SaysF.fx c2 86 (f := .kit "NoPlace" "WoodError" true) rfl)
    e_NoPlace_WoodError := Fx.exm_ok (SaysF.fx c2 87 (f := .exm "NoPlace" "WoodError" true) rfl)
    ec_NoSign := Fx.excC_ok (SaysF.fx c2 88 (f := .excC "NoSign") rfl)
    kt_NoSign := Fx.kitT_ok (SaysF.fx c2 89 (f := .kitT "NoSign" "ValueError" true) rfl)
    k_NoSign_NoBit := Fx.kit_ok (SaysF.fx c2 90 (f := .kit "NoSign" "NoBit" false) rfl)
    e_NoSign_NoBit := Fx.exm_ok (SaysF.fx c2 91 (f := .exm "NoSign" "NoBit" false) rfl)
    k_NoSign_NoNode := Fx.kit_ok (SaysF.fx c2 92 (f := .kit "NoSign" "NoNode" false) rfl)
    e_NoSign_NoNode := Fx.exm_ok (SaysF.fx c2 93 (f := .exm "NoSign" "NoNode" false) rfl)
    k_NoSign_NoOctets := Fx.kit_ok (SaysF.fx c2 94 (f := .kit "NoSign" "NoOctets" false) rfl)
    e_NoSign_NoOctets := Fx.exm_ok (SaysF.fx c2 95 (f := .exm "NoSign" "NoOctets" false) rfl)
    k_NoSign_NoPlace := Fx.kit_ok (SaysF.fx c2 96 (f := .kit "NoSign" "NoPlace" false) rfl)
    e_NoSign_NoPlace := Fx.exm_ok (SaysF.fx c2 97 (f := .exm "NoSign" "NoPlace" false) rfl)
    k_NoSign_NoSign := Fx.kit_ok (SaysF.fx c2 98 (f := .kit "NoSign" "NoSign" true) rfl)
    e_NoSign_NoSign := Fx.exm_ok (SaysF.fx c2 99 (f := .exm "NoSign" "NoSign" true) rfl)
    k_NoSign_NoTree := Fx.kit_ok (SaysF.fx c2 100 (f := .kit "NoSign" "NoTree" false) rfl)
    e_NoSign_NoTree := Fx.exm_ok (SaysF.fx c2 101 (f := .exm "NoSign" "NoTree" false) rfl)
    k_NoSign_NoWord := Fx.kit_ok (SaysF.fx c2 102 (f := .kit "NoSign" "NoWord" false) rfl)
    e_NoSign_NoWord := Fx.exm_ok (SaysF.fx c2 103 (f := .exm "NoSign" "NoWord" false) rfl)
    k_NoSign_TooMany := Fx.kit_ok (SaysF.fx c2 104 (f := .kit "NoSign" "TooMany" false) rfl)
    e_NoSign_TooMany := Fx.exm_ok (SaysF.fx c2 105 (f := .exm "NoSign" "TooMany" false) rfl)
    k_NoSign_Twice := Fx.kit_ok (SaysF.fx c2 106 (f := .kit "NoSign" "Twice" false) rfl)
    e_NoSign_Twice := Fx.exm_ok (SaysF.fx c2 107 (f := .exm "NoSign" "Twice" false) rfl)
    k_NoSign_WoodError := Fx.kit_ok (SaysF.fx c2 108 (f := .kit "NoSign" "WoodError" true) rfl)
    e_NoSign_WoodError := Fx.exm_ok (SaysF.fx c2 109 (f := .exm "NoSign" "WoodError" true) rfl)
    ec_NoTree := Fx.excC_ok (SaysF.fx c2 110 (f := .excC "NoTree") rfl)
    kt_NoTree := Fx.kitT_ok (SaysF.fx c2 111 (f := .kitT "NoTree" "ValueError" true) rfl)
    k_NoTree_NoBit := Fx.kit_ok (SaysF.fx c2 112 (f := .kit "NoTree" "NoBit" false) rfl)
    e_NoTree_NoBit := Fx.exm_ok (SaysF.fx c2 113 (f := .exm "NoTree" "NoBit" false) rfl)
    k_NoTree_NoNode := Fx.kit_ok (SaysF.fx c2 114 (f := .kit "NoTree" "NoNode" false) rfl)
    e_NoTree_NoNode := Fx.exm_ok (SaysF.fx c2 115 (f := .exm "NoTree" "NoNode" false) rfl)
    k_NoTree_NoOctets := Fx.kit_ok (SaysF.fx c2 116 (f := .kit "NoTree" "NoOctets" false) rfl)
    e_NoTree_NoOctets := Fx.exm_ok (SaysF.fx c2 117 (f := .exm "NoTree" "NoOctets" false) rfl)
    k_NoTree_NoPlace := Fx.kit_ok (SaysF.fx c2 118 (f := .kit "NoTree" "NoPlace" false) rfl)
    e_NoTree_NoPlace := Fx.exm_ok (SaysF.fx c2 119 (f := .exm "NoTree" "NoPlace" false) rfl)
    k_NoTree_NoSign := Fx.kit_ok (SaysF.fx c2 120 (f := .kit "NoTree" "NoSign" false) rfl)
    e_NoTree_NoSign := Fx.exm_ok (SaysF.fx c2 121 (f := .exm "NoTree" "NoSign" false) rfl)
    k_NoTree_NoTree := Fx.kit_ok (SaysF.fx c2 122 (f := .kit "NoTree" "NoTree" true) rfl)
    e_NoTree_NoTree := Fx.exm_ok (SaysF.fx c2 123 (f := .exm "NoTree" "NoTree" true) rfl)
    k_NoTree_NoWord := Fx.kit_ok (SaysF.fx c2 124 (f := .kit "NoTree" "NoWord" false) rfl)
    e_NoTree_NoWord := Fx.exm_ok (SaysF.fx c2 125 (f := .exm "NoTree" "NoWord" false) rfl)
    k_NoTree_TooMany := Fx.kit_ok (SaysF.fx c2 126 (f := .kit "NoTree" "TooMany" false) rfl)
    e_NoTree_TooMany := Fx.exm_ok (SaysF.fx c2 127 (f := .exm "NoTree" "TooMany" false) rfl)
    k_NoTree_Twice := Fx.kit_ok (SaysF.fx c2 128 (f := .kit "NoTree" "Twice" false) rfl)
    e_NoTree_Twice := Fx.exm_ok (SaysF.fx c2 129 (f := .exm "NoTree" "Twice" false) rfl)
    k_NoTree_WoodError := Fx.kit_ok (SaysF.fx c2 130 (f := .kit "NoTree" "WoodError" true) rfl)
    e_NoTree_WoodError := Fx.exm_ok (SaysF.fx c2 131 (f := .exm "NoTree" "WoodError" true) rfl)
    ec_NoWord := Fx.excC_ok (SaysF.fx c2 132 (f := .excC "NoWord") rfl)
    kt_NoWord := Fx.kitT_ok (SaysF.fx c2 133 (f := .kitT "NoWord" "ValueError" true) rfl)
    k_NoWord_NoBit := Fx.kit_ok (SaysF.fx c2 134 (f := .kit "NoWord" "NoBit" false) rfl)
    e_NoWord_NoBit := Fx.exm_ok (SaysF.fx c2 135 (f := .exm "NoWord" "NoBit" false) rfl)
    k_NoWord_NoNode := Fx.kit_ok (SaysF.fx c2 136 (f := .kit "NoWord" "NoNode" false) rfl)
    e_NoWord_NoNode := Fx.exm_ok (SaysF.fx c2 137 (f := .exm "NoWord" "NoNode" false) rfl)
    k_NoWord_NoOctets := Fx.kit_ok (SaysF.fx c2 138 (f := .kit "NoWord" "NoOctets" false) rfl)
    e_NoWord_NoOctets := Fx.exm_ok (SaysF.fx c2 139 (f := .exm "NoWord" "NoOctets" false) rfl)
    k_NoWord_NoPlace := Fx.kit_ok (SaysF.fx c2 140 (f := .kit "NoWord" "NoPlace" false) rfl)
    e_NoWord_NoPlace := Fx.exm_ok (SaysF.fx c2 141 (f := .exm "NoWord" "NoPlace" false) rfl)
    k_NoWord_NoSign := Fx.kit_ok (SaysF.fx c2 142 (f := .kit "NoWord" "NoSign" false) rfl)
    e_NoWord_NoSign := Fx.exm_ok (SaysF.fx c2 143 (f := .exm "NoWord" "NoSign" false) rfl)
    k_NoWord_NoTree := Fx.kit_ok (SaysF.fx c2 144 (f := .kit "NoWord" "NoTree" false) rfl)
    e_NoWord_NoTree := Fx.exm_ok (SaysF.fx c2 145 (f := .exm "NoWord" "NoTree" false) rfl)
    k_NoWord_NoWord := Fx.kit_ok (SaysF.fx c2 146 (f := .kit "NoWord" "NoWord" true) rfl)
    e_NoWord_NoWord := Fx.exm_ok (SaysF.fx c2 147 (f := .exm "NoWord" "NoWord" true) rfl)
    k_NoWord_TooMany := Fx.kit_ok (SaysF.fx c2 148 (f := .kit "NoWord" "TooMany" false) rfl)
    e_NoWord_TooMany := Fx.exm_ok (SaysF.fx c2 149 (f := .exm "NoWord" "TooMany" false) rfl)
    k_NoWord_Twice := Fx.kit_ok (SaysF.fx c2 150 (f := .kit "NoWord" "Twice" false) rfl)
    e_NoWord_Twice := Fx.exm_ok (SaysF.fx c2 151 (f := .exm "NoWord" "Twice" false) rfl)
    k_NoWord_WoodError := Fx.kit_ok (SaysF.fx c2 152 (f := .kit "NoWord" "WoodError" true) rfl)
    e_NoWord_WoodError := Fx.exm_ok (SaysF.fx c2 153 (f := .exm "NoWord" "WoodError" true) rfl)
    ec_TooMany := Fx.excC_ok (SaysF.fx c2 154 (f := .excC "TooMany") rfl)
    kt_TooMany := Fx.kitT_ok (SaysF.fx c2 155 (f := .kitT "TooMany" "ValueError" true) rfl)
    k_TooMany_NoBit := Fx.kit_ok (SaysF.fx c2 156 (f := .kit "TooMany" "NoBit" false) rfl)
    e_TooMany_NoBit := Fx.exm_ok (SaysF.fx c2 157 (f := .exm "TooMany" "NoBit" false) rfl)
    k_TooMany_NoNode := Fx.kit_ok (SaysF.fx c2 158 (f := .kit "TooMany" "NoNode" false) rfl)
    e_TooMany_NoNode := Fx.exm_ok (SaysF.fx c2 159 (f := .exm "TooMany" "NoNode" false) rfl)
    k_TooMany_NoOctets := Fx.kit_ok (SaysF.fx c2 160 (f := .kit "TooMany" "NoOctets" false) rfl)
    e_TooMany_NoOctets := Fx.exm_ok (SaysF.fx c2 161 (f := .exm "TooMany" "NoOctets" false) rfl)
    k_TooMany_NoPlace := Fx.kit_ok (SaysF.fx c2 162 (f := .kit "TooMany" "NoPlace" false) rfl)
    e_TooMany_NoPlace := Fx.exm_ok (SaysF.fx c2 163 (f := .exm "TooMany" "NoPlace" false) rfl)
    k_TooMany_NoSign := Fx.kit_ok (SaysF.fx c2 164 (f := .kit "TooMany" "NoSign" false) rfl)
    e_TooMany_NoSign := Fx.exm_ok (SaysF.fx c2 165 (f := .exm "TooMany" "NoSign" false) rfl)
    k_TooMany_NoTree := Fx.kit_ok (SaysF.fx c2 166 (f := .kit "TooMany" "NoTree" false) rfl)
    e_TooMany_NoTree := Fx.exm_ok (SaysF.fx c2 167 (f := .exm "TooMany" "NoTree" false) rfl)
    k_TooMany_NoWord := Fx.kit_ok (SaysF.fx c2 168 (f := .kit "TooMany" "NoWord" false) rfl)
    e_TooMany_NoWord := Fx.exm_ok (SaysF.fx c2 169 (f := .exm "TooMany" "NoWord" false) rfl)
    k_TooMany_TooMany := Fx.kit_ok (SaysF.fx c2 170 (f := .kit "TooMany" "TooMany" true) rfl)
    e_TooMany_TooMany := Fx.exm_ok (SaysF.fx c2 171 (f := .exm "TooMany" "TooMany" true) rfl)
    k_TooMany_Twice := Fx.kit_ok (SaysF.fx c2 172 (f := .kit "TooMany" "Twice" false) rfl)
    e_TooMany_Twice := Fx.exm_ok (SaysF.fx c2 173 (f := .exm "TooMany" "Twice" false) rfl)
    k_TooMany_WoodError := Fx.kit_ok (SaysF.fx c2 174 (f := .kit "TooMany" "WoodError" true) rfl)
    e_TooMany_WoodError := Fx.exm_ok (SaysF.fx c2 175 (f := .exm "TooMany" "WoodError" true) rfl)
    ec_Twice := Fx.excC_ok (SaysF.fx c2 176 (f := .excC "Twice") rfl)
    kt_Twice := Fx.kitT_ok (SaysF.fx c2 177 (f := .kitT "Twice" "ValueError" true) rfl)
    k_Twice_NoBit := Fx.kit_ok (SaysF.fx c2 178 (f := .kit "Twice" "NoBit" false) rfl)
    e_Twice_NoBit := Fx.exm_ok (SaysF.fx c2 179 (f := .exm "Twice" "NoBit" false) rfl)
    k_Twice_NoNode := Fx.kit_ok (SaysF.fx c2 180 (f := .kit "Twice" "NoNode" false) rfl)
    e_Twice_NoNode := Fx.exm_ok (SaysF.fx c2 181 (f := .exm "Twice" "NoNode" false) rfl)
    k_Twice_NoOctets := Fx.kit_ok (SaysF.fx c2 182 (f := .kit "Twice" "NoOctets" false) rfl)
    e_Twice_NoOctets := Fx.exm_ok (SaysF.fx c2 183 (f := .exm "Twice" "NoOctets" false) rfl)
    k_Twice_NoPlace := Fx.kit_ok (SaysF.fx c2 184 (f := .kit "Twice" "NoPlace" false) rfl)
    e_Twice_NoPlace := Fx.exm_ok (SaysF.fx c2 185 (f := .exm "Twice" "NoPlace" false) rfl)
    k_Twice_NoSign := Fx.kit_ok (SaysF.fx c2 186 (f := .kit "Twice" "NoSign" false) rfl)
    e_Twice_NoSign := Fx.exm_ok (SaysF.fx c2 187 (f := .exm "Twice" "NoSign" false) rfl)
    k_Twice_NoTree := Fx.kit_ok (SaysF.fx c2 188 (f := .kit "Twice" "NoTree" false) rfl)
    e_Twice_NoTree := Fx.exm_ok (SaysF.fx c2 189 (f := .exm "Twice" "NoTree" false) rfl)
    k_Twice_NoWord := Fx.kit_ok (SaysF.fx c2 190 (f := .kit "Twice" "NoWord" false) rfl)
    e_Twice_NoWord := Fx.exm_ok (SaysF.fx c2 191 (f := .exm "Twice" "NoWord" false) rfl)
    k_Twice_TooMany := Fx.kit_ok (SaysF.fx c2 192 (f := .kit "Twice" "TooMany" false) rfl)
    e_Twice_TooMany := Fx.exm_ok (SaysF.fx c2 193 (f := .exm "Twice" "TooMany" false) rfl)
    k_Twice_Twice := Fx.kit_ok (SaysF.fx c2 194 (f := .kit "Twice" "Twice" true) rfl)
    e_Twice_Twice := Fx.exm_ok (SaysF.fx c2 195 (f := .exm "Twice" "Twice" true) rfl)
    k_Twice_WoodError := Fx.kit_ok (SaysF.fx c2 196 (f := .kit "Twice" "WoodError" true) rfl)
    e_Twice_WoodError := Fx.exm_ok (SaysF.fx c2 197 (f := .exm "Twice" "WoodError" true) rfl)
    ec_WoodError := Fx.excC_ok (SaysF.fx c2 198 (f := .excC "WoodError") rfl)
    kt_WoodError := Fx.kitT_ok (SaysF.fx c2 199 (f := .kitT "WoodError" "ValueError" true) rfl)
    k_WoodError_NoBit := Fx.kit_ok (SaysF.fx c2 200 (f := .kit "WoodError" "NoBit" false) rfl)
    e_WoodError_NoBit := Fx.exm_ok (SaysF.fx c2 201 (f := .exm "WoodError" "NoBit" false) rfl)
    k_WoodError_NoNode := Fx.kit_ok (SaysF.fx c2 202 (f := .kit "WoodError" "NoNode" false) rfl)
    e_WoodError_NoNode := Fx.exm_ok (SaysF.fx c2 203 (f := .exm "WoodError" "NoNode" false) rfl)
    k_WoodError_NoOctets := Fx.kit_ok (SaysF.fx c2 204 (f := .kit "WoodError" "NoOctets" false) rfl)
    e_WoodError_NoOctets := Fx.exm_ok (SaysF.fx c2 205 (f := .exm "WoodError" "NoOctets" false) rfl)
    k_WoodError_NoPlace := Fx.kit_ok (SaysF.fx c2 206 (f := .kit "WoodError" "NoPlace" false) rfl)
    e_WoodError_NoPlace := Fx.exm_ok (SaysF.fx c2 207 (f := .exm "WoodError" "NoPlace" false) rfl)
    k_WoodError_NoSign := Fx.kit_ok (SaysF.fx c2 208 (f := .kit "WoodError" "NoSign" false) rfl)
    e_WoodError_NoSign := Fx.exm_ok (SaysF.fx c2 209 (f := .exm "WoodError" "NoSign" false) rfl)
    k_WoodError_NoTree := Fx.kit_ok (SaysF.fx c2 210 (f := .kit "WoodError" "NoTree" false) rfl)
    e_WoodError_NoTree := Fx.exm_ok (SaysF.fx c2 211 (f := .exm "WoodError" "NoTree" false) rfl)
    k_WoodError_NoWord := Fx.kit_ok (SaysF.fx c2 212 (f := .kit "WoodError" "NoWord" false) rfl)
    e_WoodError_NoWord := Fx.exm_ok (SaysF.fx c2 213 (f := .exm "WoodError" "NoWord" false) rfl)
    k_WoodError_TooMany := Fx.kit_ok (SaysF.fx c2 214 (f := .kit "WoodError" "TooMany" false) rfl)
    e_WoodError_TooMany := Fx.exm_ok (SaysF.fx c2 215 (f := .exm "WoodError" "TooMany" false) rfl)
    k_WoodError_Twice := Fx.kit_ok (SaysF.fx c2 216 (f := .kit "WoodError" "Twice" false) rfl)
    e_WoodError_Twice := Fx.exm_ok (SaysF.fx c2 217 (f := .exm "WoodError" "Twice" false) rfl)
    k_WoodError_WoodError := Fx.kit_ok (SaysF.fx c2 218 (f := .kit "WoodError" "WoodError" true) rfl)
    e_WoodError_WoodError := Fx.exm_ok (SaysF.fx c2 219 (f := .exm "WoodError" "WoodError" true) rfl)
  }
  }
theorem facts {P : Program} {w : World} {K : PySem.W.Frag} {h : Heap} {mg : Str → Option Value} (X : K.In h) (G : h.Ns mainGlobals mg) (c : SaysF faL fnL fxL K) (base : Heap) :
    Okf P w K mg base CX0 10 "law" ["_law_script"] (sp_law K) := by
  have T : Tx P w K mg base := tx_of X G c base
  have o_packed := ok_packed (P := P) (w := w) T 
  have o_unpacked := ok_unpacked (P := P) (w := w) T 
  have o_ones_in := ok_ones_in (P := P) (w := w) T 
  have o_ones_table := ok_ones_table (P := P) (w := w) T o_ones_in
  have o_kept_row := ok_kept_row (P := P) (w := w) T o_packed o_ones_table
  have o_octets_of := ok_octets_of (P := P) (w := w) T 
  have o_number_of := ok_number_of (P := P) (w := w) T 
  have o_fields_of := ok_fields_of (P := P) (w := w) T o_octets_of
  have o_numbers_of := ok_numbers_of (P := P) (w := w) T o_number_of
  have o_blocks_for := ok_blocks_for (P := P) (w := w) T 
  have o_row_laid := ok_row_laid (P := P) (w := w) T o_fields_of
  have o_row_octets := ok_row_octets (P := P) (w := w) T o_kept_row o_row_laid
  have o_head_of := ok_head_of (P := P) (w := w) T o_number_of
  have o_row_long := ok_row_long (P := P) (w := w) T o_blocks_for
  have o_same_again := ok_same_again (P := P) (w := w) T 
  have o_read_row := ok_read_row (P := P) (w := w) T o_head_of o_row_long o_unpacked o_numbers_of o_blocks_for o_same_again o_row_octets
  have o_law_cell_at := ok_law_cell_at (P := P) (w := w) T 
  have o_law_whole := ok_law_whole (P := P) (w := w) T 
  have o_law_bits := ok_law_bits (P := P) (w := w) T 
  have o_law_two := ok_law_two (P := P) (w := w) T 
  have o_law_written := ok_law_written (P := P) (w := w) T o_law_two
  have o_law_due := ok_law_due (P := P) (w := w) T o_law_written
  have o_law_told := ok_law_told (P := P) (w := w) T o_read_row o_law_whole
  have o_law_changed := ok_law_changed (P := P) (w := w) T 
  have o_law_octets := ok_law_octets (P := P) (w := w) T o_law_cell_at o_law_bits o_law_written o_law_changed o_law_two
  have o_law := ok_law (P := P) (w := w) T o_law_octets o_law_due o_law_told o_row_octets
  exact o_law
theorem binds_law {K : PySem.W.Frag} (c : SaysF faL fnL fxL K) : ∃ fd : FuncData, FunD K "law" "law" (defArgs s_law) (defBody s_law) (defScope s_law) [] [] (He.ga K "law") fd := (SaysF.d c).def_ 25 (d := dd_law) rfl
end Tw
open PySem PySem.W PySem.Calls PyProof.Rows
set_option maxHeartbeats 0 in
theorem PySem.Challenge.cw_thinwood_k85_rows_read_holds : PySem.Challenge.rw_thinwood_k85_rows_read.Holds := by
  w_on; o_law
  refine HandSHeadRun.head_any (r := OpenLaw.row PySem.Challenge.rw_thinwood_k85_rows_read) (q := view (OpenLaw.row PySem.Challenge.rw_thinwood_k85_rows_read).prog [44]) (H := Tw.hk) (ob := Tw.ob) (M := 20000) (loose := Tw.looseL) (d := HandSHeadRun.topDef (OpenLaw.row PySem.Challenge.rw_thinwood_k85_rows_read).prog 44) (kwd := []) Tw.ob_eq
    Tw.z_e Tw.z_f Tw.run Tw.z_def Tw.z_hp Tw.z_hk (by rfl) (by first | assumption | decide +kernel) Tw.z_ok Tw.z_bare Tw.z_w ?hc
  case hc =>
    refine L2.walk_ofE (l := PySem.Challenge.rw_thinwood_k85_rows_read) (n := 63) (k := 10) (x := "_law_script") (CX := L2.CX0) rfl (by decide) (by as_aux_lemma => kernel_rfl) ⟨rfl, by decide, by decide⟩ ?F (fun _ _ _ _ z => z)
    intro w mg fa h Y G hmg0
    obtain ⟨K, KX, c⟩ := Y
    have hmg : mg ("law" : PySem.Str) = some (.ref fa) := by
      have e : (HandSHeadRun.topDef (OpenLaw.row PySem.Challenge.rw_thinwood_k85_rows_read).prog 44).name = ("law" : PySem.Str) := by kernel_rfl
      rw [← e]
      exact hmg0
    have e : fa = He.ga K "law" := by
      have z := hmg.symm.trans (Tw.facts (P := (PySem.Challenge.rw_thinwood_k85_rows_read).prog) (w := w) KX G c h).gl
      exact Value.ref.inj (Option.some.inj z)
    subst e
    obtain ⟨fd, FD⟩ := Tw.binds_law c
    refine ⟨K, fd, Tw.sp_law K, KX, fun s v => FunD.bindsA (ps := ["_law_script"]) FD (fun _ _ _ _ _ _ us hl => match us, hl with | [_], _ => rfl) s [v] rfl, fun H a ns hl _ hS => ⟨a, ns, rfl, hS, hl, fun _ => rfl⟩, fun base KB GB => ?_⟩
    exact Tw.okf_fn (Tw.facts KB GB c base) FD
#print axioms PySem.Challenge.cw_thinwood_k85_rows_read_holds
